import PyProof.Rows.All
import Wide.All
import OpenK.AllK
import Wide.FinOn
import HandS.ForMost
import HandS.IsInst
import HandS.DictComp
import HandS.Style
import HandS.Evl
import HandS.Conv
import HandS.Deep
import HandS.Lambda
import HandS.Flow
import HandS.RaiseMore
import HandS.Wide
import PyProof.ListStr
import HandS.Ends
import HandS.Strs
import PyProof.SumAny
import HandS.SetFor
import HandS.SetTxt0
import HandS.More
import HandS.ExcInit
import HandS.NestedK
import KE.KExcSuper
import HandS.ExcField
import HandS.ExcIs
import HandS.EndTab
import PyProof.AutoSeq1
import HandS.WordsExc
import KE.KNest
import HandS.HeadHook3
import HandS.Codes
import HandS.MakeKw
import PyProof.InstNe
import PySem.Challenge.RW_paidatmost_k01_names_and_small_questions
set_option Elab.async false
set_option linter.all false
set_option maxRecDepth 100000
set_option maxHeartbeats 4000000
namespace DL
open PySem L2
open Evl (Ex)

/-! ## data -/
inductive D where
  | non | bl (b : Bool) | int (i : Int) | str (s : Str)
  | lst (xs : List D) | tup (xs : List D)
  | dic (kvs : List (Key × D))
  | ins (C : Addr) (fs : List (Str × D))
  | val (v : V)

mutual
def D.py : D → PyData
  | .non => .none
  | .bl b => .bool b
  | .int i => .int i
  | .str s => .str s
  | .lst xs => .list (D.pys xs)
  | .tup xs => .tuple (D.pys xs)
  | .dic _ => .none
  | .ins _ _ => .none
  | .val _ => .none
def D.pys : List D → List PyData
  | [] => []
  | x :: xs => D.py x :: D.pys xs
end
mutual
/-- plain: no dict, no instance, no opaque value -/
def D.pl : D → Bool
  | .non => true
  | .bl _ => true
  | .int _ => true
  | .str _ => true
  | .lst xs => D.pls xs
  | .tup xs => D.pls xs
  | .dic _ => false
  | .ins _ _ => false
  | .val _ => false
def D.pls : List D → Bool
  | [] => true
  | x :: xs => D.pl x && D.pls xs
end
theorem D.pys_map : ∀ xs : List D, D.pys xs = xs.map D.py
  | [] => by simp [D.pys]
  | x :: xs => by simp [D.pys, D.pys_map xs]
theorem D.pls_all : ∀ xs : List D, D.pls xs = xs.all D.pl
  | [] => by simp [D.pls]
  | x :: xs => by simp [D.pls, D.pls_all xs]

mutual
inductive Rp (K : PySem.W.Frag) (F : Hp) : V → D → Prop
  | non : Rp K F .non .non
  | bl (b : Bool) : Rp K F (.bl b) (.bl b)
  | int (i : Int) : Rp K F (.int i) (.int i)
  | str (s : Str) : Rp K F (.str s) (.str s)
  | lst {a : Addr} {xs : List V} {ds : List D} : F a = some (.lst xs) → Rps K F xs ds → Rp K F (.ref a) (.lst ds)
  | tup {a : Addr} {xs : List V} {ds : List D} : SqT K F a xs → Rps K F xs ds → Rp K F (.ref a) (.tup ds)
  | dic {a : Addr} {kvs : List (Key × V)} {kds : List (Key × D)} : F a = some (.dK kvs) → kvs.map (·.1) = kds.map (·.1) → Rps K F (kvs.map (·.2)) (kds.map (·.2)) → Rp K F (.ref a) (.dic kds)
  | ins {a C dx : Addr} {fs : List (Str × V)} {fds : List (Str × D)} : F a = some (.ins C dx fs) → fs.map (·.1) = fds.map (·.1) → Rps K F (fs.map (·.2)) (fds.map (·.2)) → Rp K F (.ref a) (.ins C fds)
  | val (v : V) : Rp K F v (.val v)
inductive Rps (K : PySem.W.Frag) (F : Hp) : List V → List D → Prop
  | nil : Rps K F [] []
  | cons {v : V} {vs : List V} {d : D} {ds : List D} : Rp K F v d → Rps K F vs ds → Rps K F (v :: vs) (d :: ds)
end
section
variable {K : PySem.W.Frag} {F F' : Hp}
mutual
theorem Rp.mono (e : Ex F F') : ∀ {v : V} {d : D}, Rp K F v d → Rp K F' v d
  | _, _, .non => .non
  | _, _, .bl b => .bl b
  | _, _, .int i => .int i
  | _, _, .str s => .str s
  | _, _, .lst h r => .lst (e _ _ h) (Rps.mono e r)
  | _, _, .tup h r => .tup (Evl.ex_t e h) (Rps.mono e r)
  | _, _, .dic h k r => .dic (e _ _ h) k (Rps.mono e r)
  | _, _, .ins h k r => .ins (e _ _ h) k (Rps.mono e r)
  | _, _, .val v => .val v
theorem Rps.mono (e : Ex F F') : ∀ {vs : List V} {ds : List D}, Rps K F vs ds → Rps K F' vs ds
  | _, _, .nil => .nil
  | _, _, .cons h r => .cons (Rp.mono e h) (Rps.mono e r)
end
mutual
theorem Rp.dp : ∀ {v : V} {d : D}, Rp K F v d → d.pl = true → Dp K F v d.py
  | _, _, .non, _ => by simp only [D.py]; exact .non
  | _, _, .bl b, _ => by simp only [D.py]; exact .bl b
  | _, _, .int i, _ => by simp only [D.py]; exact .int i
  | _, _, .str s, _ => by simp only [D.py]; exact .str s
  | _, _, .lst h r, q => by simp only [D.py]; simp only [D.pl] at q; exact .lst (.of h) (Rps.dp r q)
  | _, _, .tup h r, q => by simp only [D.py]; simp only [D.pl] at q; exact .tup h (Rps.dp r q)
  | _, _, .dic _ _ _, q => by simp [D.pl] at q
  | _, _, .ins _ _ _, q => by simp [D.pl] at q
  | _, _, .val _, q => by simp [D.pl] at q
theorem Rps.dp : ∀ {vs : List V} {ds : List D}, Rps K F vs ds → D.pls ds = true → DpAll K F vs (D.pys ds)
  | _, _, .nil, _ => by simp only [D.pys]; exact .nil
  | _, _, .cons h r, q => by
    simp only [D.pls, Bool.and_eq_true] at q
    simp only [D.pys]
    exact .cons (Rp.dp h q.1) (Rps.dp r q.2)
end
theorem Rps.length : ∀ {vs : List V} {ds : List D}, Rps K F vs ds → vs.length = ds.length
  | _, _, .nil => rfl
  | _, _, .cons _ r => by simp [Rps.length r]
theorem Rps.get : ∀ {vs : List V} {ds : List D} {i : Nat} {d : D}, Rps K F vs ds → ds[i]? = some d → ∃ v, vs[i]? = some v ∧ Rp K F v d
  | _, _, _, _, .nil, e => by simp at e
  | _, _, 0, _, .cons h _, e => by simp at e; subst e; exact ⟨_, by simp, h⟩
  | _, _, i + 1, d, .cons _ r, e => by
    obtain ⟨v, h1, h2⟩ := Rps.get (i := i) (d := d) r (by simpa using e)
    exact ⟨v, by simpa using h1, h2⟩
theorem Rps.getV : ∀ {vs : List V} {ds : List D} {i : Nat} {v : V}, Rps K F vs ds → vs[i]? = some v → ∃ d, ds[i]? = some d ∧ Rp K F v d
  | _, _, _, _, .nil, e => by simp at e
  | _, _, 0, _, .cons h _, e => by simp at e; subst e; exact ⟨_, by simp, h⟩
  | _, _, i + 1, d, .cons _ r, e => by
    obtain ⟨v, h1, h2⟩ := Rps.getV (i := i) (v := d) r (by simpa using e)
    exact ⟨v, by simpa using h1, h2⟩
theorem Rps.append : ∀ {vs ws : List V} {ds es : List D}, Rps K F vs ds → Rps K F ws es → Rps K F (vs ++ ws) (ds ++ es)
  | _, _, _, _, .nil, q => q
  | _, _, _, _, .cons h r, q => .cons h (Rps.append r q)
theorem Rps.one {v : V} {d : D} (h : Rp K F v d) : Rps K F [v] [d] := .cons h .nil
theorem Rps.snoc {vs : List V} {v : V} {ds : List D} {d : D} (r : Rps K F vs ds) (h : Rp K F v d) : Rps K F (vs ++ [v]) (ds ++ [d]) := r.append (.one h)
theorem Rps.drop : ∀ {vs : List V} {ds : List D} (n : Nat), Rps K F vs ds → Rps K F (vs.drop n) (ds.drop n)
  | _, _, 0, r => r
  | _, _, _ + 1, .nil => .nil
  | _, _, n + 1, .cons _ r => Rps.drop n r
theorem Rps.take : ∀ {vs : List V} {ds : List D} (n : Nat), Rps K F vs ds → Rps K F (vs.take n) (ds.take n)
  | _, _, 0, _ => .nil
  | _, _, _ + 1, .nil => .nil
  | _, _, n + 1, .cons h r => .cons h (Rps.take n r)
theorem Rps.dropLast : ∀ {vs : List V} {ds : List D}, Rps K F vs ds → Rps K F vs.dropLast ds.dropLast
  | _, _, .nil => .nil
  | _, _, .cons h .nil => .nil
  | _, _, .cons h (.cons h2 r) => by
    show Rps K F (_ :: List.dropLast _) (_ :: List.dropLast _)
    exact .cons h (Rps.dropLast (.cons h2 r))
theorem Rps.eraseIdx : ∀ {vs : List V} {ds : List D} (i : Nat), Rps K F vs ds → Rps K F (vs.eraseIdx i) (ds.eraseIdx i)
  | _, _, _, .nil => .nil
  | _, _, 0, .cons _ r => r
  | _, _, i + 1, .cons h r => .cons h (Rps.eraseIdx i r)
theorem Rps.set {v : V} {d : D} (h : Rp K F v d) : ∀ {vs : List V} {ds : List D} (i : Nat), Rps K F vs ds → Rps K F (vs.set i v) (ds.set i d)
  | _, _, _, .nil => .nil
  | _, _, 0, .cons _ r => .cons h r
  | _, _, i + 1, .cons q r => .cons q (Rps.set h i r)
theorem Rps.reverse : ∀ {vs : List V} {ds : List D}, Rps K F vs ds → Rps K F vs.reverse ds.reverse
  | _, _, .nil => .nil
  | _, _, .cons h r => by
    rw [List.reverse_cons, List.reverse_cons]
    exact (Rps.reverse r).snoc h
theorem Rps.strs : ∀ (ss : List Str), Rps K F (ss.map V.str) (ss.map D.str)
  | [] => .nil
  | s :: ss => .cons (.str s) (Rps.strs ss)
theorem Rps.ints : ∀ (ss : List Int), Rps K F (ss.map V.int) (ss.map D.int)
  | [] => .nil
  | s :: ss => .cons (.int s) (Rps.ints ss)
theorem Rps.bls : ∀ (ss : List Bool), Rps K F (ss.map V.bl) (ss.map D.bl)
  | [] => .nil
  | s :: ss => .cons (.bl s) (Rps.bls ss)
theorem Rps.strs_inv : ∀ {ss : List Str} {vs : List V}, Rps K F vs (ss.map D.str) → vs = ss.map V.str
  | [], _, .nil => rfl
  | s :: ss, _, .cons (.str _) r => by rw [Rps.strs_inv r]; rfl
theorem Rps.ints_inv : ∀ {ss : List Int} {vs : List V}, Rps K F vs (ss.map D.int) → vs = ss.map V.int
  | [], _, .nil => rfl
  | s :: ss, _, .cons (.int _) r => by rw [Rps.ints_inv r]; rfl
theorem Rps.bls_inv : ∀ {ss : List Bool} {vs : List V}, Rps K F vs (ss.map D.bl) → vs = ss.map V.bl
  | [], _, .nil => rfl
  | s :: ss, _, .cons (.bl _) r => by rw [Rps.bls_inv r]; rfl
end
end DL
namespace DL
open PySem L2
open Evl (Ex)

/-! ## worlds: F what never changes any more, H all, T a bound of the pen's turns -/
structure Wd where
  F : Hp
  H : Hp
  T : Nat
def Pen (K : PySem.W.Frag) (F H : Hp) (a : Addr) (T : Nat) : Prop :=
  ∃ (c : Addr) (t r : Int) (cs : List Int), H a = some (.lst [.ref c, .int t, .int r]) ∧ F c = some (.lst (cs.map V.int)) ∧ cs.length ≤ 63 ∧ 0 ≤ t ∧ t ≤ T ∧ 0 ≤ r
/-- the tables of code objects that a law's lambdas may write -/
class LT (K : PySem.W.Frag) where
  tabs : List (Addr × Str)
/-- the tables stand, and there are no others -/
structure TabsX (T : List (Addr × Str)) (H : Hp) : Prop where
  tabs : LamX.Tabs T H
  only : ∀ a ps, H a = some (.tbl ps) → ∃ q, (a, q) ∈ T
structure Ok (K : PySem.W.Frag) [LT K] (p : Option Addr) (S : Wd) : Prop where
  sub : Ex S.F S.H
  pen : ∀ a, p = some a → Pen K S.F S.H a S.T ∧ S.F a = none
  nt : ∀ a ps, S.F a ≠ some (.tbl ps)
  tb : TabsX (LT.tabs K) S.H
theorem tabs_upd {T : List (Addr × Str)} {H : Hp} {a : Addr} {o : HO} (t : TabsX T H) (h : H a = none) (nt : ∀ ps, o ≠ .tbl ps) : TabsX T (upd H a o) := ⟨t.tabs.ext fun b u e => (upd_ne (ne_of_none e h)).trans e, fun b ps e => by
  by_cases hb : b = a
  · subst hb
    rw [upd_same] at e
    exact absurd (Option.some.inj e) (nt ps)
  · rw [upd_ne hb] at e
    exact t.only b ps e⟩
theorem tabs_chg {T : List (Addr × Str)} {H : Hp} {a : Addr} {o o' : HO} (t : TabsX T H) (h : H a = some o') (h1 : ∀ ps, o' ≠ .tbl ps) (h2 : ∀ c q, o' ≠ LamX.CodeO c q) (nt : ∀ ps, o ≠ .tbl ps) : TabsX T (upd H a o) := ⟨fun p hp => by
  obtain ⟨ps, e1, e2, e3⟩ := t.tabs p hp
  have n1 : p.1 ≠ a := fun z => by
    rw [z, h] at e1
    exact h1 ps (Option.some.inj e1)
  refine ⟨ps, (upd_ne n1).trans e1, e2, fun pos cv hc => ?_⟩
  obtain ⟨c, e4, e5⟩ := e3 pos cv hc
  refine ⟨c, e4, (upd_ne fun z => ?_).trans e5⟩
  rw [z, h] at e5
  exact h2 _ _ (Option.some.inj e5), fun b ps e => by
  by_cases hb : b = a
  · subst hb
    rw [upd_same] at e
    exact absurd (Option.some.inj e) (nt ps)
  · rw [upd_ne hb] at e
    exact t.only b ps e⟩
theorem code_ne_lst {xs : List V} (c : Addr) (q : Str) : HO.lst xs ≠ LamX.CodeO c q := fun z => by
  unfold LamX.CodeO at z
  cases z
theorem code_ne_dK {xs : List (Key × V)} (c : Addr) (q : Str) : HO.dK xs ≠ LamX.CodeO c q := fun z => by
  unfold LamX.CodeO at z
  cases z
theorem tabs_lst {T : List (Addr × Str)} {H : Hp} {a : Addr} {o : HO} {xs : List V} (t : TabsX T H) (h : H a = some (.lst xs)) (nt : ∀ ps, o ≠ .tbl ps := by intro ps z; cases z) : TabsX T (upd H a o) := tabs_chg t h (fun ps z => by cases z) code_ne_lst nt
/-- no table of code objects -/
abbrev NoT (o : HO) : Prop := ∀ ps, o ≠ .tbl ps
structure Gr (K : PySem.W.Frag) [LT K] (p : Option Addr) (S S' : Wd) : Prop where
  ff : Ex S.F S'.F
  hh : ∀ a o, S.H a = some o → some a ≠ p → (nt : NoT o := by intro ps z; cases z) → S'.H a = some o
  al : ∀ a, S.H a ≠ none → S'.H a ≠ none
  old : ∀ a, S.H a ≠ none → S'.F a = S.F a
  ok : Ok K p S'
def noT : Option HO → Option HO
  | some (.tbl _) => none
  | o => o
theorem noT_of {o : HO} (h : NoT o) : noT (some o) = some o := by
  cases o <;> first | rfl | exact absurd rfl (h _)
theorem noT_inv {x : Option HO} {o : HO} (h : noT x = some o) : x = some o ∧ NoT o := by
  cases x with
  | none => cases h
  | some u => cases u <;> first | (cases h; exact ⟨rfl, fun ps z => by cases z⟩) | cases h
def hide (p : Option Addr) (H : Hp) : Hp := fun a => if some a = p then none else noT (H a)
section
variable {K : PySem.W.Frag} [LT K] {p : Option Addr} {S S1 S2 S3 : Wd}
theorem hide_of {H : Hp} {a : Addr} {o : HO} (h : some a ≠ p) (e : H a = some o) (nt : NoT o := by intro ps z; cases z) : hide p H a = some o := by
  unfold hide
  rw [if_neg h, e]
  exact noT_of nt
theorem hide_ex {H : Hp} : Ex (hide p H) H := fun a o h => by
  unfold hide at h
  split at h
  · cases h
  · exact (noT_inv h).1
theorem Gr.refl (o : Ok K p S) : Gr K p S S := ⟨fun _ _ h => h, fun _ _ h _ _ => h, fun _ h => h, fun _ _ => rfl, o⟩
theorem Gr.trans (a : Gr K p S S1) (b : Gr K p S1 S2) : Gr K p S S2 :=
  ⟨a.ff.trans b.ff, fun x o h q n => b.hh x o (a.hh x o h q n) q n, fun x h => b.al x (a.al x h), fun x h => (b.old x (a.al x h)).trans (a.old x h), b.ok⟩
theorem Gr.hid (g : Gr K p S S1) : Ex (hide p S.H) (hide p S1.H) := fun a o h => by
  unfold hide at h ⊢
  split at h
  · cases h
  · rename_i q
    rw [if_neg q]
    obtain ⟨h1, h2⟩ := noT_inv h
    rw [g.hh a o h1 q h2]
    exact noT_of h2
theorem Ok.subh (o : Ok K p S) : Ex S.F (hide p S.H) := fun a x h => by
  have q : some a ≠ p := fun z => by
    have e := (o.pen a z.symm).2
    rw [h] at e
    cases e
  exact hide_of q (o.sub a x h) fun ps z => o.nt a ps (by rw [h, z])
/-- a new object becomes part of what is fixed -/
theorem Gr.new {q : Addr} {o : HO} (ok : Ok K p S) (h : S.H q = none) (nt : NoT o := by intro ps z; cases z) : Gr K p S ⟨upd S.F q o, upd S.H q o, S.T⟩ := by
  have hF : S.F q = none := by
    cases e : S.F q with
    | none => rfl
    | some x => rw [ok.sub q x e] at h; cases h
  refine ⟨Ex.new hF, fun a x e _ _ => ?_, fun a e => ?_, fun a e => ?_, ⟨fun a x e => ?_, fun a e => ?_, fun a ps e => ?_, tabs_upd ok.tb h nt⟩⟩ <;> dsimp only at *
  · rw [upd_ne (ne_of_none e h)]; exact e
  · intro z
    by_cases ha : a = q
    · subst ha; exact e h
    · rw [upd_ne ha] at z; exact e z
  · by_cases ha : a = q
    · subst ha; exact absurd h e
    · exact upd_ne ha
  · by_cases ha : a = q
    · subst ha
      rw [upd_same] at e ⊢
      exact e
    · rw [upd_ne ha] at e ⊢
      exact ok.sub a x e
  · obtain ⟨⟨c, t, r, cs, h1, h2, h3⟩, h4⟩ := ok.pen a e
    have ha : a ≠ q := ne_of_none h1 h
    refine ⟨⟨c, t, r, cs, ?_, ?_, h3⟩, ?_⟩
    · show upd S.H q o a = _
      rw [upd_ne ha]; exact h1
    · exact Ex.new hF _ _ h2
    · show upd S.F q o a = none
      rw [upd_ne ha]; exact h4
  · by_cases ha : a = q
    · subst ha; rw [upd_same] at e; exact nt ps (Option.some.inj e)
    · rw [upd_ne ha] at e; exact ok.nt a ps e
/-- a new object that may still change -/
theorem Gr.newO {q : Addr} {o : HO} (ok : Ok K p S) (h : S.H q = none) (nt : NoT o := by intro ps z; cases z) : Gr K p S ⟨S.F, upd S.H q o, S.T⟩ := by
  refine ⟨fun _ _ h => h, fun a x e _ _ => ?_, fun a e => ?_, fun a e => rfl, ⟨fun a x e => ?_, fun a e => ?_, ok.nt, tabs_upd ok.tb h nt⟩⟩ <;> dsimp only at *
  · rw [upd_ne (ne_of_none e h)]; exact e
  · intro z
    by_cases ha : a = q
    · subst ha; exact e h
    · rw [upd_ne ha] at z; exact e z
  · have e2 := ok.sub a x e
    rw [upd_ne (ne_of_none e2 h)]
    exact e2
  · obtain ⟨⟨c, t, r, cs, h1, h2, h3⟩, h4⟩ := ok.pen a e
    refine ⟨⟨c, t, r, cs, ?_, h2, h3⟩, h4⟩
    show upd S.H q o a = _
    rw [upd_ne (ne_of_none h1 h)]; exact h1
theorem Gr.fresh (g : Gr K p S S1) {a : Addr} (h : S1.H a = none) : S.H a = none := by
  cases e : S.H a with
  | none => rfl
  | some x => exact absurd h (g.al a (by rw [e]; simp))
theorem Ok.freshF (o : Ok K p S) {a : Addr} (h : S.H a = none) : S.F a = none := by
  cases e : S.F a with
  | none => rfl
  | some x => rw [o.sub a x e] at h; cases h
/-- a growth without a pen is one with a pen -/
theorem Gr.up {S' : Wd} (g : Gr K none S S') (o : Ok K p S) (hT : S'.T = S.T) : Gr K p S S' := by
  refine ⟨g.ff, fun a x h _ n => g.hh a x h (by intro z; cases z) n, g.al, g.old, ⟨g.ok.sub, fun a e => ?_, g.ok.nt, g.ok.tb⟩⟩
  obtain ⟨⟨c, t, r, cs, h1, h2, h3⟩, h4⟩ := o.pen a e
  refine ⟨⟨c, t, r, cs, g.hh _ _ h1 (by intro z; cases z), g.ff _ _ h2, by rw [hT]; exact h3⟩, ?_⟩
  rw [g.old a (by rw [h1]; simp)]
  exact h4

/-! ## what evaluates to what -/
/-- some lasting data of which P holds, at most n draws -/
def EvN (K : PySem.W.Frag) [LT K] (p : Option Addr) (te : TE) (σ : L2.St) (S : Wd) (n : Nat) (P : D → Prop) : Prop := ∀ S1, Gr K p S S1 → S1.T + n ≤ 1000000000 → ∀ Q : VK, (∀ v d S2, Gr K p S1 S2 → S2.T ≤ S1.T + n → Rp K S2.F v d → P d → Q v S2.H) → te σ S1.H Q
/-- this lasting data, no draw -/
def EvD (K : PySem.W.Frag) [LT K] (p : Option Addr) (te : TE) (σ : L2.St) (S : Wd) (d : D) : Prop := ∀ S1, Gr K p S S1 → ∀ Q : VK, (∀ v S2, Gr K p S1 S2 → S2.T ≤ S1.T → Rp K S2.F v d → Q v S2.H) → te σ S1.H Q
/-- data as it can be read now -/
def EvH (K : PySem.W.Frag) [LT K] (p : Option Addr) (te : TE) (σ : L2.St) (S : Wd) (d : D) : Prop := ∀ S1, Gr K p S S1 → ∀ Q : VK, (∀ v S2, Gr K p S1 S2 → S2.T ≤ S1.T → Rp K (hide p S2.H) v d → Q v S2.H) → te σ S1.H Q
/-- this very value -/
def EvV (K : PySem.W.Frag) [LT K] (p : Option Addr) (te : TE) (σ : L2.St) (S : Wd) (v : V) : Prop := ∀ S1, Gr K p S S1 → ∀ Q : VK, (∀ S2, Gr K p S1 S2 → S2.T ≤ S1.T → Q v S2.H) → te σ S1.H Q
def EvT (K : PySem.W.Frag) [LT K] (p : Option Addr) (tt : TT) (σ : L2.St) (S : Wd) (b : Bool) : Prop := ∀ S1, Gr K p S S1 → ∀ Q : Bool → Hp → Prop, (∀ S2, Gr K p S1 S2 → S2.T ≤ S1.T → Q b S2.H) → tt σ S1.H Q
def EvA (K : PySem.W.Frag) [LT K] (p : Option Addr) (ta : TA) (σ : L2.St) (S : Wd) (ds : List D) : Prop := ∀ S1, Gr K p S S1 → ∀ Q : List V → Hp → Prop, (∀ vs S2, Gr K p S1 S2 → S2.T ≤ S1.T → Rps K S2.F vs ds → Q vs S2.H) → ta σ S1.H Q
/-- arguments that are read now -/
def EvAH (K : PySem.W.Frag) [LT K] (p : Option Addr) (ta : TA) (σ : L2.St) (S : Wd) (ds : List D) : Prop := ∀ S1, Gr K p S S1 → ∀ Q : List V → Hp → Prop, (∀ vs S2, Gr K p S1 S2 → S2.T ≤ S1.T → Rps K (hide p S2.H) vs ds → Q vs S2.H) → ta σ S1.H Q
section
variable {σ : L2.St} {te ta tb tc : TE} {d d1 d2 : D} {v : V} {n : Nat} {P : D → Prop}
theorem EvN.mono (g : Gr K p S S1) (h : EvN K p te σ S n P) : EvN K p te σ S1 n P := fun S2 g2 => h S2 (g.trans g2)
theorem EvD.mono (g : Gr K p S S1) (h : EvD K p te σ S d) : EvD K p te σ S1 d := fun S2 g2 => h S2 (g.trans g2)
theorem EvH.mono (g : Gr K p S S1) (h : EvH K p te σ S d) : EvH K p te σ S1 d := fun S2 g2 => h S2 (g.trans g2)
theorem EvT.mono {tt : TT} {b : Bool} (g : Gr K p S S1) (h : EvT K p tt σ S b) : EvT K p tt σ S1 b := fun S2 g2 => h S2 (g.trans g2)
theorem EvD.toN (h : EvD K p te σ S d) : EvN K p te σ S 0 (fun e => e = d) := fun S1 g _ Q q => h S1 g Q fun v S2 g2 t r => q v d S2 g2 t r rfl
theorem EvN.le {m : Nat} {P' : D → Prop} (h : EvN K p te σ S n P) (hn : n ≤ m) (hP : ∀ d, P d → P' d) : EvN K p te σ S m P' := fun S1 g b Q q => h S1 g (by omega) Q fun v d S2 g2 t r k => q v d S2 g2 (by omega) r (hP d k)
theorem EvD.h (h : EvD K p te σ S d) : EvH K p te σ S d := fun S1 g Q q => h S1 g Q fun v S2 g2 t r => q v S2 g2 t (r.mono g2.ok.subh)
theorem EvD.is (h : EvD K p te σ S d1) (e : d1 = d2) : EvD K p te σ S d2 := e ▸ h
theorem EvH.is (h : EvH K p te σ S d1) (e : d1 = d2) : EvH K p te σ S d2 := e ▸ h
theorem EvT.is {tt : TT} {a b : Bool} (h : EvT K p tt σ S a) (e : a = b) : EvT K p tt σ S b := e ▸ h
end
end
end DL
namespace DL
open PySem L2
open Evl (Ex)
variable {K : PySem.W.Frag} [LT K] {p : Option Addr} {S S0 S1 S2 S3 : Wd} {σ : L2.St} {te ta tb tc to : TE} {d d1 d2 d3 : D} {ds es : List D} {v : V} {n m : Nat} {P P1 P2 : D → Prop}

/-- a new list that may still change; its items last -/
def EvO (K : PySem.W.Frag) [LT K] (p : Option Addr) (te : TE) (σ : L2.St) (S : Wd) (ds : List D) : Prop := ∀ S1, Gr K p S S1 → ∀ Q : VK, (∀ a vs S2, Gr K p S1 S2 → S2.T ≤ S1.T → S1.H a = none → S2.H a = some (.lst vs) → S2.F a = none → Rps K S2.F vs ds → Q (.ref a) S2.H) → te σ S1.H Q
/-- a list (b) or tuple as it stands, its items last -/
def EvQ (K : PySem.W.Frag) [LT K] (p : Option Addr) (te : TE) (σ : L2.St) (S : Wd) (b : Bool) (ds : List D) : Prop := ∀ S1, Gr K p S S1 → ∀ Q : VK, (∀ a vs S2, Gr K p S1 S2 → S2.T ≤ S1.T → (if b = true then S2.H a = some (.lst vs) ∧ some a ≠ p else SqT K S2.F a vs) → Rps K S2.F vs ds → Q (.ref a) S2.H) → te σ S1.H Q
/-- a new list of draws: P of its items -/
def EvON (K : PySem.W.Frag) [LT K] (p : Option Addr) (te : TE) (σ : L2.St) (S : Wd) (n : Nat) (P : List D → Prop) : Prop := ∀ S1, Gr K p S S1 → S1.T + n ≤ 1000000000 → ∀ Q : VK, (∀ a vs ds S2, Gr K p S1 S2 → S2.T ≤ S1.T + n → S1.H a = none → S2.H a = some (.lst vs) → S2.F a = none → Rps K S2.F vs ds → P ds → Q (.ref a) S2.H) → te σ S1.H Q

theorem ok_ne {a : Addr} (o : Ok K p S) (h : S.H a = none) : some a ≠ p := fun z => by
  obtain ⟨⟨c, t, r, cs, h1, _⟩, _⟩ := o.pen a z.symm
  rw [h] at h1
  cases h1
/-- a list of ours is fixed -/
theorem Gr.fix {a : Addr} {x : HO} (g : Gr K p S S1) (h0 : S.H a = none) (h : S1.H a = some x) (hF : S1.F a = none) (hp : some a ≠ p) (nt : NoT x := by intro ps z; cases z) : Gr K p S ⟨upd S1.F a x, S1.H, S1.T⟩ := by
  refine ⟨g.ff.trans (Ex.new hF), fun b o q np n => g.hh b o q np n, g.al, fun b e => ?_, ⟨fun b y e => ?_, fun b e => ?_, fun b ps e => ?_, g.ok.tb⟩⟩ <;> dsimp only at *
  · have hb : b ≠ a := fun z => by subst z; exact e h0
    rw [upd_ne hb]
    exact g.old b e
  · by_cases hb : b = a
    · subst hb; rw [upd_same] at e; rw [← e]; exact h
    · rw [upd_ne hb] at e; exact g.ok.sub b y e
  · obtain ⟨h1, h2⟩ := g.ok.pen b e
    have hb : b ≠ a := fun z => by subst z; exact hp e.symm
    obtain ⟨c, t, r, cs, q1, q2, q3⟩ := h1
    exact ⟨⟨c, t, r, cs, q1, Ex.new hF _ _ q2, q3⟩, by rw [upd_ne hb]; exact h2⟩
  · by_cases hb : b = a
    · subst hb; rw [upd_same] at e; exact nt ps (Option.some.inj e)
    · rw [upd_ne hb] at e; exact g.ok.nt b ps e
theorem EvO.ed (h : EvO K p te σ S ds) : EvD K p te σ S (.lst ds) := fun S1 g Q q => h S1 g Q fun a vs S2 g2 t h0 h1 h2 r =>
  q (.ref a) ⟨upd S2.F a (.lst vs), S2.H, S2.T⟩ (g2.fix h0 h1 h2 (ok_ne g.ok h0)) t (.lst upd_same (r.mono (Ex.new h2)))
theorem EvO.q (h : EvO K p te σ S ds) : EvQ K p te σ S true ds := fun S1 g Q q => h S1 g Q fun a vs S2 g2 t h0 h1 h2 r => q a vs S2 g2 t (by rw [if_pos rfl]; exact ⟨h1, ok_ne g.ok h0⟩) r
theorem EvO.mono (g : Gr K p S S1) (h : EvO K p te σ S ds) : EvO K p te σ S1 ds := fun S2 g2 => h S2 (g.trans g2)
theorem EvQ.mono {b : Bool} (g : Gr K p S S1) (h : EvQ K p te σ S b ds) : EvQ K p te σ S1 b ds := fun S2 g2 => h S2 (g.trans g2)
theorem EvA.mono {ta : TA} (g : Gr K p S S1) (h : EvA K p ta σ S ds) : EvA K p ta σ S1 ds := fun S2 g2 => h S2 (g.trans g2)
theorem EvD.ql (h : EvD K p te σ S (.lst ds)) : EvQ K p te σ S true ds := fun S1 g Q q => h S1 g Q fun v S2 g2 t r => by
  cases r with
  | lst h1 h2 => exact q _ _ S2 g2 t (by rw [if_pos rfl]; refine ⟨g2.ok.sub _ _ h1, fun z => ?_⟩; have := (g2.ok.pen _ z.symm).2; rw [h1] at this; cases this) h2
theorem EvD.qt (h : EvD K p te σ S (.tup ds)) : EvQ K p te σ S false ds := fun S1 g Q q => h S1 g Q fun v S2 g2 t r => by
  cases r with
  | tup h1 h2 => exact q _ _ S2 g2 t (by rw [if_neg Bool.false_ne_true]; exact h1) h2
theorem EvQ.hl (h : EvQ K p te σ S true ds) : EvH K p te σ S (.lst ds) := fun S1 g Q q => h S1 g Q fun a vs S2 g2 t h1 r => by
  rw [if_pos rfl] at h1
  exact q _ S2 g2 t (.lst (hide_of h1.2 h1.1) (r.mono g2.ok.subh))
theorem EvO.h (h : EvO K p te σ S ds) : EvH K p te σ S (.lst ds) := h.q.hl

/-! ### names, constants -/
theorem ed_c (h : ∀ F, Rp K F v d) : EvD K p (tC v) σ S d := fun S1 g Q q => q v S1 (Gr.refl g.ok) (Nat.le_refl _) (h _)
theorem ed_int {i : Int} : EvD K p (tC (.int i)) σ S (.int i) := ed_c fun _ => .int i
theorem ed_bl {i : Bool} : EvD K p (tC (.bl i)) σ S (.bl i) := ed_c fun _ => .bl i
theorem ed_str {i : Str} : EvD K p (tC (.str i)) σ S (.str i) := ed_c fun _ => .str i
theorem ed_non : EvD K p (tC .non) σ S .non := ed_c fun _ => .non
theorem ed_val : EvD K p (tC v) σ S (.val v) := ed_c fun _ => .val v
theorem ed_slot {i : Nat} (h : σ[i]? = some (some v)) (r : Rp K S.F v d) : EvD K p (tVar i) σ S d := fun S1 g Q q => ⟨v, h, q v S1 (Gr.refl g.ok) (Nat.le_refl _) (r.mono g.ff)⟩
theorem ev_slot {i : Nat} (h : σ[i]? = some (some v)) : EvV K p (tVar i) σ S v := fun S1 g Q q => ⟨v, h, q S1 (Gr.refl g.ok) (Nat.le_refl _)⟩

/-! ### operators -/
def RD (K : PySem.W.Frag) [LT K] (p : Option Addr) (r : R2) (d1 d2 : D) (d : D) : Prop := ∀ (S1 : Wd) (x y : V), Ok K p S1 → Rp K (hide p S1.H) x d1 → Rp K (hide p S1.H) y d2 → ∀ Q : VK, (∀ v S2, Gr K p S1 S2 → S2.T ≤ S1.T → Rp K S2.F v d → Q v S2.H) → r x y S1.H Q
theorem ed_op {r : R2} (ha : EvH K p ta σ S d1) (hb : EvH K p tb σ S d2) (hr : RD K p r d1 d2 d) : EvD K p (tOp r ta tb) σ S d := fun S1 g Q q =>
  ha S1 g _ fun x S2 g2 t2 rx => hb S2 (g.trans g2) _ fun y S3 g3 t3 ry => hr S3 x y g3.ok (rx.mono g3.hid) ry Q fun v S4 g4 t4 r4 => q v S4 ((g2.trans g3).trans g4) (by omega) r4
/-- a scalar answer -/
theorem rd_of {r : R2} {w : V} (hd : ∀ F, Rp K F w d) (h : ∀ (S1 : Wd) (x y : V), Ok K p S1 → Rp K (hide p S1.H) x d1 → Rp K (hide p S1.H) y d2 → ∀ Q : VK, Q w S1.H → r x y S1.H Q) : RD K p r d1 d2 d :=
  fun S1 x y o rx ry Q q => h S1 x y o rx ry Q (q w S1 (Gr.refl o) (Nat.le_refl _) (hd _))
theorem rd_I0 {f : Int → Int → Int} {i j : Int} : RD K p (rI0 fun i j => .int (f i j)) (.int i) (.int j) (.int (f i j)) := rd_of (fun _ => .int _) fun S1 x y o rx ry Q q => by
  cases rx; cases ry; exact ⟨i, j, rfl, rfl, q⟩
theorem rd_B0 {f : Int → Int → Bool} {i j : Int} : RD K p (rI0 fun i j => .bl (f i j)) (.int i) (.int j) (.bl (f i j)) := rd_of (fun _ => .bl _) fun S1 x y o rx ry Q q => by
  cases rx; cases ry; exact ⟨i, j, rfl, rfl, q⟩
theorem rd_I {C : Int → Int → Prop} {f : Int → Int → Int} {i j : Int} (hc : C i j) : RD K p (rI C fun i j => .int (f i j)) (.int i) (.int j) (.int (f i j)) := rd_of (fun _ => .int _) fun S1 x y o rx ry Q q => by
  cases rx; cases ry; exact ⟨i, j, rfl, rfl, hc, q⟩
theorem rd_adds {a b : Str} (hz : a.length + b.length ≤ sizeLine) : RD K p (fun x y H Q => ∃ i j, x = .str i ∧ y = .str j ∧ i.length + j.length ≤ sizeLine ∧ Q (.str (i ++ j)) H) (.str a) (.str b) (.str (a ++ b)) := rd_of (fun _ => .str _) fun S1 x y o rx ry Q q => by
  cases rx; cases ry; exact ⟨a, b, rfl, rfl, hz, q⟩
def D.sh (d : D) : Bool := d.pl && SeqAt.shaped d.py
theorem D.sh_pl {d : D} (h : d.sh = true) : d.pl = true := by unfold D.sh at h; exact (Bool.and_eq_true_iff.mp h).1
theorem D.sh_sh {d : D} (h : d.sh = true) : SeqAt.shaped d.py = true := by unfold D.sh at h; exact (Bool.and_eq_true_iff.mp h).2
/-- == of data -/
def eqD (d1 d2 : D) : Bool := PyData.eqv d1.py d2.py
theorem rd_eq (h1 : d1.sh = true) (h2 : d2.sh = true) : RD K p (rEqD K) d1 d2 (.bl (eqD d1 d2)) := rd_of (fun _ => .bl _) fun S1 x y o rx ry Q q =>
  ⟨d1.py, d2.py, (rx.mono hide_ex).dp (D.sh_pl h1), (ry.mono hide_ex).dp (D.sh_pl h2), D.sh_sh h1, D.sh_sh h2, q⟩
theorem rd_ne (h1 : d1.sh = true) (h2 : d2.sh = true) : RD K p (rNeD K) d1 d2 (.bl (!eqD d1 d2)) := rd_of (fun _ => .bl _) fun S1 x y o rx ry Q q =>
  ⟨d1.py, d2.py, (rx.mono hide_ex).dp (D.sh_pl h1), (ry.mono hide_ex).dp (D.sh_pl h2), D.sh_sh h1, D.sh_sh h2, q⟩
/-- == of texts -/
theorem rd_eqs {a b : Str} : RD K p rEq (.str a) (.str b) (.bl (decide (a = b))) := rd_of (fun _ => .bl _) fun S1 x y o rx ry Q q => by
  cases rx; cases ry
  have e : decide (V.str a = V.str b) = decide (a = b) := by
    by_cases h : a = b
    · subst h; simp
    · rw [decide_eq_false h, decide_eq_false (fun z => h (V.str.inj z))]
  exact ⟨rfl, by rw [e]; exact q⟩
/-- a flat thing among flat things -/
def flatD : D → Bool
  | .non => true
  | .bl _ => true
  | .int _ => true
  | .str _ => true
  | _ => false
def inD (d : D) (ds : List D) : Bool := ds.any fun z => eqD z d
theorem flat_rp {F : Hp} : ∀ {d : D} {v : V}, Rp K F v d → flatD d = true → flatV v = true
  | .non, _, .non, _ => rfl
  | .bl _, _, .bl _, _ => rfl
  | .int _, _, .int _, _ => rfl
  | .str _, _, .str _, _ => rfl
theorem flat_eq {F : Hp} {d e : D} {v w : V} (r : Rp K F v d) (q : Rp K F w e) (h : flatD d = true) (h2 : flatD e = true) : eqV v w = eqD d e := by
  unfold eqD
  cases r <;> first | (exact absurd h Bool.false_ne_true) | (cases q <;> first | (exact absurd h2 Bool.false_ne_true) | (simp only [D.py, PyData.eqv, eqV]))
theorem flat_all {F : Hp} : ∀ {ds : List D} {vs : List V}, Rps K F vs ds → ds.all flatD = true → vs.all flatV = true
  | [], _, .nil, _ => rfl
  | d :: ds, _, .cons h r, q => by
    rw [List.all_cons, Bool.and_eq_true] at q ⊢
    exact ⟨flat_rp h q.1, flat_all r q.2⟩
theorem flat_in {F : Hp} {d : D} {v : V} (r : Rp K F v d) (h : flatD d = true) : ∀ {ds : List D} {vs : List V}, Rps K F vs ds → ds.all flatD = true → inV v vs = inD d ds
  | [], _, .nil, _ => rfl
  | e :: ds, _, .cons q t, z => by
    rw [List.all_cons, Bool.and_eq_true] at z
    have ih := flat_in r h t z.2
    unfold inV inD at ih ⊢
    rw [List.any_cons, List.any_cons, ih, flat_eq q r z.1 h]
theorem rd_inT {neg : Bool} (h1 : flatD d1 = true) (h2 : ds.all flatD = true) : RD K p (rIn K neg) d1 (.tup ds) (.bl (if neg then !inD d1 ds else inD d1 ds)) := rd_of (fun _ => .bl _) fun S1 x y o rx ry Q q => by
  cases ry with
  | tup h3 r => exact ⟨_, _, rfl, .inr (Evl.ex_t hide_ex h3), flat_rp rx h1, flat_all r h2, by rw [flat_in rx h1 r h2]; exact q⟩
theorem rd_inL {neg : Bool} (h1 : flatD d1 = true) (h2 : ds.all flatD = true) : RD K p (rIn K neg) d1 (.lst ds) (.bl (if neg then !inD d1 ds else inD d1 ds)) := rd_of (fun _ => .bl _) fun S1 x y o rx ry Q q => by
  cases ry with
  | lst h3 r => exact ⟨_, _, rfl, .inl (.of (hide_ex _ _ h3)), flat_rp rx h1, flat_all r h2, by rw [flat_in rx h1 r h2]; exact q⟩
theorem rd_sign {c : Nat} {z : Str} : RD K p (fun x y H Q => ∃ (c : Nat) (z : Str), x = .str ⟨#[c]⟩ ∧ y = .str z ∧ Q (.bl (decide (c ∈ z.cps.toList))) H) (.str ⟨#[c]⟩) (.str z) (.bl (decide (c ∈ z.cps.toList))) := rd_of (fun _ => .bl _) fun S1 x y o rx ry Q q => by
  cases rx; cases ry; exact ⟨c, z, rfl, rfl, q⟩
theorem rd_nsign {c : Nat} {z : Str} : RD K p (fun x y H Q => ∃ (c : Nat) (z : Str), x = .str ⟨#[c]⟩ ∧ y = .str z ∧ Q (.bl (!decide (c ∈ z.cps.toList))) H) (.str ⟨#[c]⟩) (.str z) (.bl (!decide (c ∈ z.cps.toList))) := rd_of (fun _ => .bl _) fun S1 x y o rx ry Q q => by
  cases rx; cases ry; exact ⟨c, z, rfl, rfl, q⟩
/-- is None -/
def isNon : D → Option Bool
  | .non => some true
  | .val _ => none
  | _ => some false
theorem isNon_rp {F : Hp} {b : Bool} (r : Rp K F v d) (h : isNon d = some b) : decide (v = .non) = b := by
  cases r <;> simp [isNon] at h <;> simp [h]
theorem rd_isNon {b : Bool} (h : isNon d1 = some b) : RD K p (fun x y H Q => y = .non ∧ Q (.bl (decide (x = .non))) H) d1 .non (.bl b) := rd_of (fun _ => .bl _) fun S1 x y o rx ry Q q => by
  cases ry
  exact ⟨rfl, by rw [isNon_rp rx h]; exact q⟩
theorem rd_notNon {b : Bool} (h : isNon d1 = some b) : RD K p (fun x y H Q => y = .non ∧ Q (.bl (!decide (x = .non))) H) d1 .non (.bl (!b)) := rd_of (fun _ => .bl _) fun S1 x y o rx ry Q q => by
  cases ry
  exact ⟨rfl, by rw [isNon_rp rx h]; exact q⟩
theorem rd_isB {a b : Bool} : RD K p rIsB (.bl a) (.bl b) (.bl (decide (a = b))) := rd_of (fun _ => .bl _) fun S1 x y o rx ry Q q => by
  cases rx; cases ry; exact ⟨a, b, rfl, rfl, q⟩
theorem rd_notB {a b : Bool} : RD K p rNotB (.bl a) (.bl b) (.bl (!decide (a = b))) := rd_of (fun _ => .bl _) fun S1 x y o rx ry Q q => by
  cases rx; cases ry; exact ⟨a, b, rfl, rfl, q⟩
/-- lists joined: a new list -/
theorem eo_cat {es : List D} (ha : EvQ K p ta σ S true ds) (hb : EvQ K p tb σ S true es) (hz : ds.length + es.length ≤ sizeLine) : EvO K p (tOp rCat ta tb) σ S (ds ++ es) := fun S1 g Q q =>
  ha S1 g _ fun a xs S2 g2 t2 h2 r2 => hb S2 (g.trans g2) _ fun b ys S3 g3 t3 h3 r3 => by
    rw [if_pos rfl] at h2 h3
    have e1 := r2.length
    have e2 := r3.length
    refine ⟨a, b, xs, ys, rfl, rfl, g3.hh _ _ h2.1 h2.2, h3.1, by omega, fun q' hq' => ?_⟩
    refine q q' (xs ++ ys) ⟨S3.F, upd S3.H q' (.lst (xs ++ ys)), S3.T⟩ ((g2.trans g3).trans (Gr.newO g3.ok hq')) (by show S3.T ≤ _; omega) ((g2.trans g3).fresh hq') upd_same (g3.ok.freshF hq') ((r2.mono g3.ff).append r3)
/-- a list so often -/
theorem rps_rep {F : Hp} {vs : List V} (r : Rps K F vs ds) : ∀ k : Nat, Rps K F (List.replicate k vs).flatten (List.replicate k ds).flatten
  | 0 => .nil
  | k + 1 => by
    rw [List.replicate_succ, List.replicate_succ, List.flatten_cons, List.flatten_cons]
    exact r.append (rps_rep r k)

/-! ### tuples and lists displayed -/
theorem ea_nil : EvA K p tNil σ S [] := fun S1 g Q q => q [] S1 (Gr.refl g.ok) (Nat.le_refl _) .nil
theorem ea_cons {tr : TA} (h : EvD K p te σ S d) (hr : EvA K p tr σ S ds) : EvA K p (tCons te tr) σ S (d :: ds) := fun S1 g Q q =>
  h S1 g _ fun x S2 g2 t2 rx => hr S2 (g.trans g2) _ fun xs S3 g3 t3 rs => q (x :: xs) S3 (g2.trans g3) (by omega) (.cons (rx.mono g3.ff) rs)
theorem eh_nil : EvAH K p tNil σ S [] := fun S1 g Q q => q [] S1 (Gr.refl g.ok) (Nat.le_refl _) .nil
theorem eh_cons {tr : TA} (h : EvH K p te σ S d) (hr : EvAH K p tr σ S ds) : EvAH K p (tCons te tr) σ S (d :: ds) := fun S1 g Q q =>
  h S1 g _ fun x S2 g2 t2 rx => hr S2 (g.trans g2) _ fun xs S3 g3 t3 rs => q (x :: xs) S3 (g2.trans g3) (by omega) (.cons (rx.mono g3.hid) rs)
theorem ed_tup {t : TA} (h : EvA K p t σ S ds) (hz : ds.length ≤ sizeLine := by decide) : EvD K p (tTup t) σ S (.tup ds) := fun S1 g Q q =>
  h S1 g _ fun xs S2 g2 t2 rs => ⟨by rw [rs.length]; exact hz, fun a ha => q (.ref a) ⟨upd S2.F a (.tup xs), upd S2.H a (.tup xs), S2.T⟩ (g2.trans (Gr.new g2.ok ha)) t2 (.tup (.of upd_same) (rs.mono (Ex.new (g2.ok.freshF ha))))⟩
theorem eo_lst {t : TA} (h : EvA K p t σ S ds) (hz : ds.length ≤ sizeLine := by decide) : EvO K p (tLst t) σ S ds := fun S1 g Q q =>
  h S1 g _ fun xs S2 g2 t2 rs => ⟨by rw [rs.length]; exact hz, fun a ha => q a xs ⟨S2.F, upd S2.H a (.lst xs), S2.T⟩ (g2.trans (Gr.newO g2.ok ha)) t2 (g2.fresh ha) upd_same (g2.ok.freshF ha) rs⟩

/-! ### tests -/
theorem et_test {b : Bool} (h : EvD K p te σ S (.bl b)) : EvT K p (tTest te) σ S b := fun S1 g Q q => h S1 g _ fun v S2 g2 t2 r => by cases r; exact ⟨b, rfl, q S2 g2 t2⟩
theorem et_B {b : Bool} (h : EvD K p te σ S (.bl b)) : EvT K p (tB te) σ S b := fun S1 g Q q => h S1 g _ fun v S2 g2 t2 r => by cases r; exact ⟨b, rfl, q S2 g2 t2⟩
theorem et_and {t u : TT} {a b : Bool} (h1 : EvT K p t σ S a) (h2 : a = true → EvT K p u σ S b) : EvT K p (tAnd t u) σ S (a && b) := fun S1 g Q q => h1 S1 g _ fun S2 g2 t2 => by
  cases a with
  | true =>
    show u σ S2.H Q
    exact h2 rfl S2 (g.trans g2) Q fun S3 g3 t3 => q S3 (g2.trans g3) (by omega)
  | false => exact q S2 g2 t2
theorem et_or {t u : TT} {a b : Bool} (h1 : EvT K p t σ S a) (h2 : a = false → EvT K p u σ S b) : EvT K p (tOr t u) σ S (a || b) := fun S1 g Q q => h1 S1 g _ fun S2 g2 t2 => by
  cases a with
  | false =>
    show u σ S2.H Q
    exact h2 rfl S2 (g.trans g2) Q fun S3 g3 t3 => q S3 (g2.trans g3) (by omega)
  | true => exact q S2 g2 t2
theorem et_not {t : TT} {a : Bool} (h1 : EvT K p t σ S a) : EvT K p (tNot t) σ S (!a) := fun S1 g Q q => h1 S1 g _ fun S2 g2 t2 => q S2 g2 t2
theorem et_yes : EvT K p tYes σ S true := fun S1 g Q q => q S1 (Gr.refl g.ok) (Nat.le_refl _)
theorem ed_and {a b : Bool} (h1 : EvD K p ta σ S (.bl a)) (h2 : a = true → EvD K p tb σ S (.bl b)) : EvD K p (tAndV ta tb) σ S (.bl (a && b)) := fun S1 g Q q => h1 S1 g _ fun v S2 g2 t2 r => by
  cases r
  refine ⟨a, rfl, ?_⟩
  cases a with
  | true =>
    rw [if_pos rfl]
    exact h2 rfl S2 (g.trans g2) Q fun v S3 g3 t3 r3 => q v S3 (g2.trans g3) (by omega) r3
  | false =>
    rw [if_neg Bool.false_ne_true]
    exact q _ S2 g2 t2 (.bl _)
theorem ed_or {a b : Bool} (h1 : EvD K p ta σ S (.bl a)) (h2 : a = false → EvD K p tb σ S (.bl b)) : EvD K p (tOrV ta tb) σ S (.bl (a || b)) := fun S1 g Q q => h1 S1 g _ fun v S2 g2 t2 r => by
  cases r
  refine ⟨a, rfl, ?_⟩
  cases a with
  | false =>
    rw [if_neg Bool.false_ne_true]
    exact h2 rfl S2 (g.trans g2) Q fun v S3 g3 t3 r3 => q v S3 (g2.trans g3) (by omega) r3
  | true =>
    rw [if_pos rfl]
    exact q _ S2 g2 t2 (.bl _)
theorem ed_not {a : Bool} (h1 : EvD K p ta σ S (.bl a)) : EvD K p (tNotV ta) σ S (.bl (!a)) := fun S1 g Q q => h1 S1 g _ fun v S2 g2 t2 r => by
  cases r
  exact ⟨a, rfl, q _ S2 g2 t2 (.bl _)⟩
theorem ed_if {t : TT} {b : Bool} (h : EvT K p t σ S b) (h1 : b = true → EvD K p ta σ S d) (h2 : b = false → EvD K p tb σ S d) : EvD K p (tIf t ta tb) σ S d := fun S1 g Q q => h S1 g _ fun S2 g2 t2 => by
  cases b with
  | true =>
    rw [if_pos rfl]
    exact h1 rfl S2 (g.trans g2) Q fun v S3 g3 t3 r3 => q v S3 (g2.trans g3) (by omega) r3
  | false =>
    rw [if_neg Bool.false_ne_true]
    exact h2 rfl S2 (g.trans g2) Q fun v S3 g3 t3 r3 => q v S3 (g2.trans g3) (by omega) r3
theorem ed_if2 {t : TT} {b : Bool} (h : EvT K p t σ S b) (h1 : b = true → EvD K p ta σ S d1) (h2 : b = false → EvD K p tb σ S d2) : EvD K p (tIf t ta tb) σ S (if b = true then d1 else d2) :=
  ed_if h (fun e => by rw [if_pos e]; exact h1 e) fun e => by rw [if_neg (by rw [e]; exact Bool.false_ne_true)]; exact h2 e
theorem eo_if {t : TT} {b : Bool} (h : EvT K p t σ S b) (h1 : b = true → EvO K p ta σ S ds) (h2 : b = false → EvO K p tb σ S ds) : EvO K p (tIf t ta tb) σ S ds := fun S1 g Q q => h S1 g _ fun S2 g2 t2 => by
  cases b with
  | true =>
    rw [if_pos rfl]
    exact h1 rfl S2 (g.trans g2) Q fun a vs S3 g3 t3 n3 => q a vs S3 (g2.trans g3) (by omega) (g2.fresh n3)
  | false =>
    rw [if_neg Bool.false_ne_true]
    exact h2 rfl S2 (g.trans g2) Q fun a vs S3 g3 t3 n3 => q a vs S3 (g2.trans g3) (by omega) (g2.fresh n3)

/-! ### built-ins by values -/
def RC (K : PySem.W.Frag) [LT K] (p : Option Addr) (r : List V → Hp → VK → Prop) (ds : List D) (d : D) : Prop := ∀ (S1 : Wd) (vs : List V), Ok K p S1 → Rps K (hide p S1.H) vs ds → ∀ Q : VK, (∀ v S2, Gr K p S1 S2 → S2.T ≤ S1.T → Rp K S2.F v d → Q v S2.H) → r vs S1.H Q
theorem ed_cb {r : List V → Hp → VK → Prop} {t : TA} (h : EvAH K p t σ S ds) (hr : RC K p r ds d) : EvD K p (tCB r t) σ S d := fun S1 g Q q =>
  h S1 g _ fun vs S2 g2 t2 rs => hr S2 vs g2.ok rs Q fun v S3 g3 t3 r3 => q v S3 (g2.trans g3) (by omega) r3
theorem rc_of {r : List V → Hp → VK → Prop} {w : V} (hd : ∀ F, Rp K F w d) (h : ∀ (S1 : Wd) (vs : List V), Ok K p S1 → Rps K (hide p S1.H) vs ds → ∀ Q : VK, Q w S1.H → r vs S1.H Q) : RC K p r ds d :=
  fun S1 vs o rs Q q => h S1 vs o rs Q (q w S1 (Gr.refl o) (Nat.le_refl _) (hd _))
theorem rc_lenL (hz : ds.length ≤ sizeLine := by decide) : RC K p (fun xs H Q => ∃ x n, xs = [x] ∧ LenV K x H n ∧ Q (.int n) H) [.lst ds] (.int (ds.length : Int)) := rc_of (fun _ => .int _) fun S1 vs o rs Q q => by
  cases rs with
  | cons h r =>
    cases r
    cases h with
    | lst h1 h2 => exact ⟨_, ds.length, rfl, .inl ⟨_, .of (hide_ex _ _ h1), h2.length.symm⟩, q⟩
theorem rc_lenT : RC K p (fun xs H Q => ∃ x n, xs = [x] ∧ LenV K x H n ∧ Q (.int n) H) [.tup ds] (.int (ds.length : Int)) := rc_of (fun _ => .int _) fun S1 vs o rs Q q => by
  cases rs with
  | cons h r =>
    cases r
    cases h with
    | tup h1 h2 => exact ⟨_, ds.length, rfl, .inr ⟨_, Evl.ex_t hide_ex h1, h2.length.symm⟩, q⟩
theorem rc_lenS {s : Str} (hz : s.length ≤ sizeLine) : RC K p (fun xs H Q => ∃ x n, xs = [x] ∧ LenV K x H n ∧ Q (.int n) H) [.str s] (.int (s.length : Int)) := rc_of (fun _ => .int _) fun S1 vs o rs Q q => by
  cases rs with
  | cons h r =>
    cases r
    cases h
    exact ⟨_, s.length, rfl, ⟨hz, rfl⟩, q⟩
theorem rc_abs {i : Int} : RC K p (fun xs H Q => ∃ i, xs = [.int i] ∧ Q (.int (if i < 0 then -i else i)) H) [.int i] (.int (if i < 0 then -i else i)) := rc_of (fun _ => .int _) fun S1 vs o rs Q q => by
  cases rs with
  | cons h r => cases r; cases h; exact ⟨_, rfl, q⟩
theorem rc_intI {i : Int} : RC K p (fun xs H Q => (∃ i, xs = [.int i] ∧ Q (.int i) H) ∨ ∃ k, xs = [.bl k] ∧ Q (.int (if k then 1 else 0)) H) [.int i] (.int i) := rc_of (fun _ => .int _) fun S1 vs o rs Q q => by
  cases rs with
  | cons h r => cases r; cases h; exact .inl ⟨_, rfl, q⟩
theorem rc_intB {b : Bool} : RC K p (fun xs H Q => (∃ i, xs = [.int i] ∧ Q (.int i) H) ∨ ∃ k, xs = [.bl k] ∧ Q (.int (if k then 1 else 0)) H) [.bl b] (.int (if b then 1 else 0)) := rc_of (fun _ => .int _) fun S1 vs o rs Q q => by
  cases rs with
  | cons h r => cases r; cases h; exact .inr ⟨_, rfl, q⟩
theorem rc_all {bs : List Bool} : RC K p (rAll K) [.lst (bs.map D.bl)] (.bl (bs.all id)) := rc_of (fun _ => .bl _) fun S1 vs o rs Q q => by
  cases rs with
  | cons h r =>
    cases r
    cases h with
    | lst h1 h2 =>
      have e := h2.bls_inv
      subst e
      exact ⟨_, bs, rfl, .of (hide_ex _ _ h1), q⟩
theorem rc_any {bs : List Bool} : RC K p (rAny K) [.lst (bs.map D.bl)] (.bl (bs.any id)) := rc_of (fun _ => .bl _) fun S1 vs o rs Q q => by
  cases rs with
  | cons h r =>
    cases r
    cases h with
    | lst h1 h2 =>
      have e := h2.bls_inv
      subst e
      exact ⟨_, bs, rfl, .of (hide_ex _ _ h1), q⟩
/-- list(x), tuple(x) -/
theorem eo_list {b : Bool} (h : EvQ K p te σ S b ds) : EvO K p (tCB (fun xs H Q => ∃ p ys, xs = [.ref p] ∧ (SqL K H p ys ∨ SqT K H p ys) ∧ ∀ l, H l = none → Q (.ref l) (upd H l (.lst ys))) (tCons te tNil)) σ S ds := fun S1 g Q q =>
  h S1 g _ fun a vs S2 g2 t2 h2 r2 => ⟨a, vs, rfl, by
    cases b with
    | true => rw [if_pos rfl] at h2; exact .inl (.of h2.1)
    | false => rw [if_neg Bool.false_ne_true] at h2; exact .inr (Evl.ex_t g2.ok.sub h2), fun l hl =>
    q l vs ⟨S2.F, upd S2.H l (.lst vs), S2.T⟩ (g2.trans (Gr.newO g2.ok hl)) t2 (g2.fresh hl) upd_same (g2.ok.freshF hl) r2⟩
theorem ed_tuple {b : Bool} (h : EvQ K p te σ S b ds) : EvD K p (tCB (fun xs H Q => ∃ p ys, xs = [.ref p] ∧ ((SqL K H p ys ∧ ∀ l, H l = none → Q (.ref l) (upd H l (.tup ys))) ∨ (SqT K H p ys ∧ Q (.ref p) H))) (tCons te tNil)) σ S (.tup ds) := fun S1 g Q q =>
  h S1 g _ fun a vs S2 g2 t2 h2 r2 => by
    refine ⟨a, vs, rfl, ?_⟩
    cases b with
    | true =>
      rw [if_pos rfl] at h2
      exact .inl ⟨.of h2.1, fun l hl => q (.ref l) ⟨upd S2.F l (.tup vs), upd S2.H l (.tup vs), S2.T⟩ (g2.trans (Gr.new g2.ok hl)) t2 (.tup (.of upd_same) (r2.mono (Ex.new (g2.ok.freshF hl))))⟩
    | false =>
      rw [if_neg Bool.false_ne_true] at h2
      exact .inr ⟨Evl.ex_t g2.ok.sub h2, q (.ref a) S2 g2 t2 (.tup h2 r2)⟩
end DL
namespace DL
open PySem L2
open Evl (Ex)

/-! ## the state of a def's body: slots that hold data, or lists and dicts of its own -/
inductive Ty where
  | dat (d : D) | own (ds : List D) | odc (kds : List (Key × D)) | val (v : V)
def Ty.ow : Ty → Bool
  | .own _ => true
  | .odc _ => true
  | _ => false
def Ty.is (K : PySem.W.Frag) [LT K] (H0 : Hp) (S : Wd) (v : V) : Ty → Prop
  | .dat d => Rp K S.F v d
  | .own ds => ∃ a vs, v = .ref a ∧ S.H a = some (.lst vs) ∧ Rps K S.F vs ds ∧ S.F a = none ∧ H0 a = none
  | .odc kds => ∃ a kvs, v = .ref a ∧ S.H a = some (.dK kvs) ∧ kvs.map (·.1) = kds.map (·.1) ∧ Rps K S.F (kvs.map (·.2)) (kds.map (·.2)) ∧ S.F a = none ∧ H0 a = none
  | .val w => v = w
abbrev En := List (Nat × Ty)
def get : En → Nat → Option Ty
  | [], _ => none
  | (j, t) :: r, i => cond (Nat.beq j i) (some t) (get r i)
def del (i : Nat) : En → En
  | [] => []
  | (j, t) :: r => cond (Nat.beq j i) (del i r) ((j, t) :: del i r)
def put (i : Nat) (t : Ty) (l : En) : En := (i, t) :: del i l
def sub : En → En → Prop
  | [], _ => True
  | (i, t) :: r, l => get l i = some t ∧ sub r l
theorem get_mem : ∀ {l : En} {i : Nat} {t : Ty}, get l i = some t → (i, t) ∈ l
  | (j, u) :: r, i, t, h => by
    unfold get at h
    cases e : Nat.beq j i with
    | true =>
      rw [e] at h
      cases h
      have := Nat.eq_of_beq_eq_true e
      subst this
      exact List.mem_cons_self
    | false =>
      rw [e] at h
      exact List.mem_cons_of_mem _ (get_mem h)
theorem del_mem : ∀ {l : En} {i : Nat} {q : Nat × Ty}, q ∈ del i l → q ∈ l ∧ q.1 ≠ i
  | (j, u) :: r, i, q, h => by
    unfold del at h
    cases e : Nat.beq j i with
    | true =>
      rw [e] at h
      obtain ⟨h1, h2⟩ := del_mem h
      exact ⟨List.mem_cons_of_mem _ h1, h2⟩
    | false =>
      rw [e] at h
      rcases List.mem_cons.mp h with h | h
      · subst h
        exact ⟨List.mem_cons_self, fun z => by
          have z' : j = i := z
          subst z'
          rw [Nat.beq_refl] at e
          cases e⟩
      · obtain ⟨h1, h2⟩ := del_mem h
        exact ⟨List.mem_cons_of_mem _ h1, h2⟩
theorem del_sub : ∀ (l : En) (i : Nat), (del i l).Sublist l
  | [], _ => .slnil
  | (j, u) :: r, i => by
    unfold del
    cases e : Nat.beq j i with
    | true => exact .cons _ (del_sub r i)
    | false => exact .cons₂ _ (del_sub r i)

/-- S0: the world at the def's entry; m slots; M draws allowed, n done -/
structure Sta (K : PySem.W.Frag) [LT K] (p : Option Addr) (S0 : Wd) (B : Hp) (m M n : Nat) (σ : L2.St) (S : Wd) (l : En) : Prop where
  ok0 : Ok K p S0
  g : Gr K p S0 S
  bs : Ex B S.F
  len : σ.length = m
  tb : S0.T + M ≤ 1000000000
  tn : S.T ≤ S0.T + n
  has : ∀ q ∈ l, ∃ v, σ[q.1]? = some (some v) ∧ q.2.is K S0.H S v
  sep : ∀ a ∈ l, ∀ b ∈ l, a.1 ≠ b.1 → a.2.ow = true → b.2.ow = true → ∀ v, σ[a.1]? = some (some v) → σ[b.1]? ≠ some (some v)
section
variable {K : PySem.W.Frag} [LT K] {p : Option Addr} {S S0 S1 S2 S3 : Wd} {B : Hp} {σ σ' : L2.St} {te ta tb tc to : TE} {d d1 d2 d3 : D} {ds es : List D} {v : V} {m M n k : Nat} {P P1 P2 : D → Prop} {l l' : En} {i j : Nat} {t : Ty} {D : Ends}
theorem Ty.grow {H0 : Hp} (g0 : Gr K p S0 S) (ok0 : Ok K p S0) (g : Gr K p S S1) : ∀ {t : Ty}, t.is K S0.H S v → t.is K S0.H S1 v
  | .dat d, h => Rp.mono g.ff h
  | .own ds, ⟨a, vs, e, h1, h2, h3, h4⟩ => ⟨a, vs, e, g.hh _ _ h1 (ok_ne ok0 h4), h2.mono g.ff, (g.old a (by rw [h1]; simp)).trans h3, h4⟩
  | .odc kds, ⟨a, kvs, e, h1, h5, h2, h3, h4⟩ => ⟨a, kvs, e, g.hh _ _ h1 (ok_ne ok0 h4), h5, h2.mono g.ff, (g.old a (by rw [h1]; simp)).trans h3, h4⟩
  | .val w, h => h
theorem Sta.grow (h : Sta K p S0 B m M n σ S l) (g : Gr K p S S1) (ht : S1.T ≤ S.T + k) : Sta K p S0 B m M (n + k) σ S1 l :=
  ⟨h.ok0, h.g.trans g, h.bs.trans g.ff, h.len, h.tb, by have := h.tn; omega, fun q hq => let ⟨v, e, r⟩ := h.has q hq; ⟨v, e, Ty.grow (H0 := S0.H) h.g h.ok0 g r⟩, h.sep⟩
theorem Sta.grow0 (h : Sta K p S0 B m M n σ S l) (g : Gr K p S S1) (ht : S1.T ≤ S.T) : Sta K p S0 B m M n σ S1 l := h.grow (k := 0) g ht
theorem Sta.any (h : Sta K p S0 B m M n σ S l) (g : Gr K p S S1) : Sta K p S0 B m M (n + S1.T) σ S1 l := h.grow (k := S1.T) g (by omega)
theorem Sta.ok (h : Sta K p S0 B m M n σ S l) : Ok K p S := h.g.ok
theorem sub_mem : ∀ {l' l : En}, sub l' l → ∀ q ∈ l', get l q.1 = some q.2
  | (j, t) :: r, l, h, q, hq => by
    rcases List.mem_cons.mp hq with rfl | hq
    · exact h.1
    · exact sub_mem h.2 q hq
theorem Sta.weak (h : Sta K p S0 B m M n σ S l) (hs : sub l' l) : Sta K p S0 B m M n σ S l' :=
  ⟨h.ok0, h.g, h.bs, h.len, h.tb, h.tn, fun q hq => h.has q (get_mem (sub_mem hs q hq)), fun a ha b hb => h.sep a (get_mem (sub_mem hs a ha)) b (get_mem (sub_mem hs b hb))⟩
theorem Sta.more (h : Sta K p S0 B m M n σ S l) (hk : n ≤ k) : Sta K p S0 B m M k σ S l := ⟨h.ok0, h.g, h.bs, h.len, h.tb, by have := h.tn; omega, h.has, h.sep⟩
/-- a slot is stored -/
theorem Sta.set (h : Sta K p S0 B m M n σ S l) (hi : i < m) (ht : t.is K S0.H S v) (hs : t.ow = true → ∀ q ∈ del i l, q.2.ow = true → σ[q.1]? ≠ some (some v)) : Sta K p S0 B m M n (σ.set i (some v)) S (put i t l) := by
  have hi' : i < σ.length := by rw [h.len]; exact hi
  have same : ∀ q ∈ del i l, (σ.set i (some v))[q.1]? = σ[q.1]? := fun q hq => List.getElem?_set_ne (Ne.symm (del_mem hq).2)
  refine ⟨h.ok0, h.g, h.bs, by rw [List.length_set]; exact h.len, h.tb, h.tn, fun q hq => ?_, fun a ha b hb ne oa ob w ea => ?_⟩
  · rcases List.mem_cons.mp hq with rfl | hq
    · exact ⟨v, List.getElem?_set_self hi', ht⟩
    · rw [same q hq]
      exact h.has q (del_mem hq).1
  · rcases List.mem_cons.mp ha with rfl | ha
    · rw [List.getElem?_set_self hi'] at ea
      cases ea
      rcases List.mem_cons.mp hb with rfl | hb
      · exact absurd rfl ne
      · rw [same b hb]
        exact hs oa b hb ob
    · rw [same a ha] at ea
      rcases List.mem_cons.mp hb with rfl | hb
      · rw [List.getElem?_set_self hi']
        intro z
        cases z
        exact hs ob a ha oa ea
      · rw [same b hb]
        exact h.sep a (del_mem ha).1 b (del_mem hb).1 ne oa ob w ea
/-! ### what slots evaluate to -/
theorem ed_var (h : Sta K p S0 B m M n σ S l) (hg : get l i = some (.dat d)) : EvD K p (tVar i) σ S d := by
  obtain ⟨v, e, r⟩ := h.has _ (get_mem hg)
  exact ed_slot e r
theorem ev_var (h : Sta K p S0 B m M n σ S l) (hg : get l i = some (.val v)) : EvV K p (tVar i) σ S v := by
  obtain ⟨w, e, r⟩ := h.has _ (get_mem hg)
  cases r
  exact ev_slot e
theorem eq_var (h : Sta K p S0 B m M n σ S l) (hg : get l i = some (.own ds)) : EvQ K p (tVar i) σ S true ds := by
  obtain ⟨v, e, a, vs, rfl, h1, h2, h3, h4⟩ := h.has _ (get_mem hg)
  have ha := ok_ne h.ok0 h4
  exact fun S1 g Q q => ⟨_, e, q a vs S1 (Gr.refl g.ok) (Nat.le_refl _) (by rw [if_pos rfl]; exact ⟨g.hh _ _ h1 ha, ha⟩) (h2.mono g.ff)⟩
theorem eh_var (h : Sta K p S0 B m M n σ S l) (hg : get l i = some (.own ds)) : EvH K p (tVar i) σ S (.lst ds) := (eq_var h hg).hl

/-! ### statements -/
theorem s_dat (h : Sta K p S0 B m M n σ S l) (he : EvD K p te σ S d) (hi : i < m) (k : ∀ σ' S', Sta K p S0 B m M n σ' S' (put i (.dat d) l) → D.nx σ' S'.H) : tAsg te (gName i) D σ S.H :=
  he S (Gr.refl h.ok) _ fun v S2 g2 t2 r => k _ S2 ((h.grow0 g2 t2).set hi r (fun z => by cases z))
theorem s_N (h : Sta K p S0 B m M n σ S l) (he : EvN K p te σ S k P) (hi : i < m) (hn : n + k ≤ M) (kk : ∀ d σ' S', P d → Sta K p S0 B m M (n + k) σ' S' (put i (.dat d) l) → D.nx σ' S'.H) : tAsg te (gName i) D σ S.H :=
  he S (Gr.refl h.ok) (by have := h.tb; have := h.tn; omega) _ fun v d S2 g2 t2 r hp => kk d _ S2 hp ((h.grow g2 t2).set hi r (fun z => by cases z))
theorem s_own (h : Sta K p S0 B m M n σ S l) (he : EvO K p te σ S ds) (hi : i < m) (k : ∀ σ' S', Sta K p S0 B m M n σ' S' (put i (.own ds) l) → D.nx σ' S'.H) : tAsg te (gName i) D σ S.H :=
  he S (Gr.refl h.ok) _ fun a vs S2 g2 t2 h0 h1 h2 r => k _ S2 ((h.grow0 g2 t2).set hi ⟨a, vs, rfl, h1, r, h2, h.g.fresh h0⟩ (fun _ q hq ow z => by
    obtain ⟨w, e, q2⟩ := h.has q (del_mem hq).1
    rw [e] at z
    cases z
    obtain ⟨j, u⟩ := q
    cases u with
    | own es => obtain ⟨b, ws, eb, hb, _⟩ := q2; cases eb; rw [h0] at hb; cases hb
    | odc es => obtain ⟨b, ws, eb, hb, _⟩ := q2; cases eb; rw [h0] at hb; cases hb
    | dat _ => cases ow
    | val _ => cases ow))
theorem s_val (h : Sta K p S0 B m M n σ S l) (he : EvV K p te σ S v) (hi : i < m) (k : ∀ σ' S', Sta K p S0 B m M n σ' S' (put i (.val v) l) → D.nx σ' S'.H) : tAsg te (gName i) D σ S.H :=
  he S (Gr.refl h.ok) _ fun S2 g2 t2 => k _ S2 ((h.grow0 g2 t2).set hi rfl (fun z => by cases z))
theorem s_if {tt : TT} {tu tw : TS} {b : Bool} (h : Sta K p S0 B m M n σ S l) (he : EvT K p tt σ S b) (k1 : b = true → ∀ S', Sta K p S0 B m M n σ S' l → tu D σ S'.H) (k2 : b = false → ∀ S', Sta K p S0 B m M n σ S' l → tw D σ S'.H) : tIfS tt tu tw D σ S.H :=
  he S (Gr.refl h.ok) _ fun S2 g2 t2 => by
    cases b with
    | true => rw [if_pos rfl]; exact k1 rfl S2 (h.grow0 g2 t2)
    | false => rw [if_neg Bool.false_ne_true]; exact k2 rfl S2 (h.grow0 g2 t2)
theorem s_ret (h : Sta K p S0 B m M n σ S l) (he : EvD K p te σ S d) (k : ∀ v S', Gr K p S0 S' → S'.T ≤ S0.T + n → Rp K S'.F v d → D.rt v S'.H) : tRet te D σ S.H :=
  he S (Gr.refl h.ok) _ fun v S2 g2 t2 r => k v S2 (h.g.trans g2) (by have := h.tn; omega) r
theorem s_retN (h : Sta K p S0 B m M n σ S l) (he : EvN K p te σ S k P) (hn : n + k ≤ M) (kk : ∀ v d S', P d → Gr K p S0 S' → S'.T ≤ S0.T + (n + k) → Rp K S'.F v d → D.rt v S'.H) : tRet te D σ S.H :=
  he S (Gr.refl h.ok) (by have := h.tb; have := h.tn; omega) _ fun v d S2 g2 t2 r hp => kk v d S2 hp (h.g.trans g2) (by have := h.tn; omega) r
/-- a list of ours is handed out -/
theorem ed_own (h : Sta K p S0 B m M n σ S l) (hg : get l i = some (.own ds)) (k : ∀ v S', S'.H = S.H → Gr K p S0 S' → S'.T ≤ S0.T + n → Rp K S'.F v (.lst ds) → D.rt v S'.H) : tRet (tVar i) D σ S.H := by
  obtain ⟨v, e, a, vs, rfl, h1, h2, h3, h4⟩ := h.has _ (get_mem hg)
  exact ⟨_, e, k (.ref a) ⟨upd S.F a (.lst vs), S.H, S.T⟩ rfl (h.g.fix h4 h1 h3 (ok_ne h.ok0 h4)) h.tn (.lst upd_same (h2.mono (Ex.new h3)))⟩
/-- a slot of ours changes its list -/
theorem Sta.chg {a : Addr} {vs ws : List V} (h : Sta K p S0 B m M n σ S l) (hg : get l i = some (.own ds)) (e : σ[i]? = some (some (.ref a))) (h1 : S.H a = some (.lst vs)) (r : Rps K S.F ws es) :
    Sta K p S0 B m M n σ ⟨S.F, upd S.H a (.lst ws), S.T⟩ (put i (.own es) l) := by
  obtain ⟨v, e', b, us, rfl, h1', h2, h3, h4⟩ := h.has _ (get_mem hg)
  rw [e] at e'
  cases e'
  have hp := ok_ne h.ok0 h4
  have g : Gr K p S0 ⟨S.F, upd S.H a (.lst ws), S.T⟩ := by
    refine ⟨h.g.ff, fun b o q np nt => ?_, fun b q => ?_, h.g.old, ⟨fun b o q => ?_, fun b q => ?_, h.ok.nt, tabs_lst h.ok.tb h1⟩⟩ <;> dsimp only at *
    · have hb : b ≠ a := fun z => by subst z; rw [h4] at q; cases q
      rw [upd_ne hb]; exact h.g.hh b o q np nt
    · intro z
      by_cases hb : b = a
      · subst hb; rw [upd_same] at z; cases z
      · rw [upd_ne hb] at z; exact h.g.al b q z
    · have hb : b ≠ a := fun z => by subst z; rw [h3] at q; cases q
      rw [upd_ne hb]; exact h.ok.sub b o q
    · obtain ⟨⟨c, t, r', cs, q1, q2, q3⟩, q4⟩ := h.ok.pen b q
      have hb : b ≠ a := fun z => by subst z; exact hp q.symm
      exact ⟨⟨c, t, r', cs, by rw [upd_ne hb]; exact q1, q2, q3⟩, q4⟩
  have kp : ∀ {u : V} {t : Ty}, t.is K S0.H S u → (t.ow = true → u ≠ .ref a) → t.is K S0.H ⟨S.F, upd S.H a (.lst ws), S.T⟩ u := fun {u t} q no => by
    cases t with
    | dat _ => exact q
    | val _ => exact q
    | own es =>
      obtain ⟨b, us, rfl, q1, q2, q3, q4⟩ := q
      have hb : b ≠ a := fun z => no rfl (by rw [z])
      exact ⟨b, us, rfl, by show upd S.H a _ b = _; rw [upd_ne hb]; exact q1, q2, q3, q4⟩
    | odc es =>
      obtain ⟨b, us, rfl, q1, q2, q3, q4, q5⟩ := q
      have hb : b ≠ a := fun z => no rfl (by rw [z])
      exact ⟨b, us, rfl, by show upd S.H a _ b = _; rw [upd_ne hb]; exact q1, q2, q3, q4, q5⟩
  refine ⟨h.ok0, g, h.bs, h.len, h.tb, h.tn, fun q hq => ?_, fun x hx y hy ne ox oy w ex => ?_⟩
  · rcases List.mem_cons.mp hq with rfl | hq
    · exact ⟨_, e, a, ws, rfl, upd_same, r, h3, h4⟩
    · obtain ⟨u, eu, qu⟩ := h.has q (del_mem hq).1
      refine ⟨u, eu, kp qu fun ow z => ?_⟩
      subst z
      exact h.sep _ (get_mem hg) q (del_mem hq).1 (Ne.symm (del_mem hq).2) rfl ow _ e eu
  · rcases List.mem_cons.mp hx with rfl | hx
    · rcases List.mem_cons.mp hy with rfl | hy
      · exact absurd rfl ne
      · exact h.sep (i, .own ds) (get_mem hg) y (del_mem hy).1 ne rfl oy w ex
    · rcases List.mem_cons.mp hy with rfl | hy
      · exact h.sep x (del_mem hx).1 (i, .own ds) (get_mem hg) ne ox rfl w ex
      · exact h.sep x (del_mem hx).1 y (del_mem hy).1 ne ox oy w ex
/-- x.append(e) -/
theorem s_app (h : Sta K p S0 B m M n σ S l) (hg : get l i = some (.own ds)) (he : EvD K p te σ S d) (hz : ds.length < sizeLine) (k : ∀ S', Sta K p S0 B m M n σ S' (put i (.own (ds ++ [d])) l) → D.nx σ S'.H) :
    tDrop (tBM K "list" rAppend (tVar i) (tCons te tNil)) D σ S.H := by
  obtain ⟨v, e, a, vs, rfl, h1, h2, h3, h4⟩ := h.has _ (get_mem hg)
  refine ⟨_, e, .inl ⟨rfl, vs, .of h1⟩, he S (Gr.refl h.ok) _ fun x S2 g2 t2 rx => ?_⟩
  have H2 := h.grow0 g2 t2
  have e1 := g2.hh _ _ h1 (ok_ne h.ok0 h4)
  refine ⟨a, vs, x, rfl, rfl, e1, by rw [h2.length]; exact hz, ?_⟩
  exact k ⟨S2.F, upd S2.H a (.lst (vs ++ [x])), S2.T⟩ (H2.chg hg e e1 ((h2.mono g2.ff).snoc rx))
/-- x.extend(e) -/
theorem s_ext (h : Sta K p S0 B m M n σ S l) (hg : get l i = some (.own ds)) (he : EvQ K p te σ S true es) (hz : ds.length + es.length ≤ sizeLine) (k : ∀ S', Sta K p S0 B m M n σ S' (put i (.own (ds ++ es)) l) → D.nx σ S'.H) :
    tDrop (tBM K "list" rExtend (tVar i) (tCons te tNil)) D σ S.H := by
  obtain ⟨v, e, a, vs, rfl, h1, h2, h3, h4⟩ := h.has _ (get_mem hg)
  refine ⟨_, e, .inl ⟨rfl, vs, .of h1⟩, he S (Gr.refl h.ok) _ fun b xs S2 g2 t2 hb rx => ?_⟩
  rw [if_pos rfl] at hb
  have H2 := h.grow0 g2 t2
  have e1 := g2.hh _ _ h1 (ok_ne h.ok0 h4)
  refine ⟨a, b, vs, xs, rfl, rfl, e1, hb.1, by rw [h2.length, rx.length]; exact hz, ?_⟩
  exact k ⟨S2.F, upd S2.H a (.lst (vs ++ xs)), S2.T⟩ (H2.chg hg e e1 ((h2.mono g2.ff).append rx))
/-- y = x.pop() -/
theorem s_pop (h : Sta K p S0 B m M n σ S l) (hg : get l i = some (.own (ds ++ [d]))) (hj : j < m) (k : ∀ σ' S', Sta K p S0 B m M n σ' S' (put j (.dat d) (put i (.own ds) l)) → D.nx σ' S'.H) :
    tAsg (tBM0 K "list" rPop (tVar i)) (gName j) D σ S.H := by
  obtain ⟨v, e, a, vs, rfl, h1, h2, h3, h4⟩ := h.has _ (get_mem hg)
  have el : vs.length = ds.length + 1 := by rw [h2.length, List.length_append, List.length_singleton]
  obtain ⟨x, ex, rx⟩ := h2.get (i := ds.length) (d := d) (by simp)
  refine ⟨_, e, .inl ⟨rfl, vs, .of h1⟩, a, vs, x, rfl, rfl, h1, by rw [el]; exact ex, ?_⟩
  have hd : Rps K S.F vs.dropLast ds := by
    have q := h2.dropLast
    rw [List.dropLast_concat] at q
    exact q
  have H2 := h.chg hg e h1 hd
  exact k _ ⟨S.F, upd S.H a (.lst vs.dropLast), S.T⟩ (H2.set hj rx fun z => by cases z)
/-- y = x.pop(i) -/
theorem s_popAt {z : Int} {c : Nat} {ti : TE} (h : Sta K p S0 B m M n σ S l) (hg : get l i = some (.own ds)) (hi : EvD K p ti σ S (.int z)) (hb : -(2 ^ 63) ≤ z ∧ z < 2 ^ 63) (hc : seqIndex? z ds.length = some c) (hd : ds[c]? = some d) (hj : j < m)
    (k : ∀ σ' S', Sta K p S0 B m M n σ' S' (put j (.dat d) (put i (.own (ds.eraseIdx c)) l)) → D.nx σ' S'.H) :
    tAsg (tBM K "list" rPopAt (tVar i) (tCons ti tNil)) (gName j) D σ S.H := by
  obtain ⟨v, e, a, vs, rfl, h1, h2, h3, h4⟩ := h.has _ (get_mem hg)
  refine ⟨_, e, .inl ⟨rfl, vs, .of h1⟩, hi S (Gr.refl h.ok) _ fun x S2 g2 t2 rx => ?_⟩
  cases rx
  have H2 := h.grow0 g2 t2
  have e1 := g2.hh _ _ h1 (ok_ne h.ok0 h4)
  obtain ⟨x, ex, rx⟩ := h2.get hd
  refine ⟨a, vs, z, c, x, rfl, rfl, e1, hb.1, hb.2, by rw [h2.length]; exact hc, ex, ?_⟩
  have H3 := H2.chg hg e e1 ((h2.mono g2.ff).eraseIdx c)
  exact k _ ⟨S2.F, upd S2.H a (.lst (vs.eraseIdx c)), S2.T⟩ (H3.set hj (rx.mono g2.ff) fun z => by cases z)
/-- x[i] = e -/
theorem s_setL {z : Int} {c : Nat} {ti : TE} (h : Sta K p S0 B m M n σ S l) (hg : get l i = some (.own ds)) (he : EvD K p te σ S d) (hi : EvD K p ti σ S (.int z)) (hc : ixN ds.length z = some c)
    (k : ∀ S', Sta K p S0 B m M n σ S' (put i (.own (ds.set c d)) l) → D.nx σ S'.H) : tAsg te (gSub (tVar i) ti rSetL) D σ S.H := by
  obtain ⟨v, e, a, vs, rfl, h1, h2, h3, h4⟩ := h.has _ (get_mem hg)
  refine he S (Gr.refl h.ok) _ fun y S2 g2 t2 ry => ⟨_, e, hi S2 g2 _ fun x S3 g3 t3 rx => ?_⟩
  cases rx
  have H2 := h.grow0 (g2.trans g3) (by omega)
  have e1 := g3.hh _ _ (g2.hh _ _ h1 (ok_ne h.ok0 h4)) (ok_ne h.ok0 h4)
  refine ⟨a, vs, z, c, rfl, rfl, e1, by rw [h2.length]; exact hc, ?_⟩
  exact k ⟨S3.F, upd S3.H a (.lst (vs.set c y)), S3.T⟩ (H2.chg hg e e1 (Rps.set (ry.mono g3.ff) c ((h2.mono g2.ff).mono g3.ff)))
theorem s_seq {t u : TS} (h : t { D with nx := u D } σ S.H) : tSeq t u D σ S.H := h
theorem s_next (k : D.nx σ S.H) : tNext D σ S.H := k

/-! ### loops -/
/-- while: the state a of the loop, its slots e a, its measure -/
theorem s_while {α : Type} {c : TT} {tb : TS} (I : α → Prop) (e : α → En) (μ : α → Nat) (b : α → Bool) (a0 : α) (h : Sta K p S0 B m M n σ S l) (h0 : I a0) (hs : sub (e a0) l)
    (ht : ∀ a σ S, I a → Sta K p S0 B m M n σ S (e a) → EvT K p c σ S (b a))
    (hb : ∀ a σ S, I a → b a = true → Sta K p S0 B m M n σ S (e a) → ∀ D' : Ends, D'.rt = D.rt → (∀ a' σ' S' l', I a' → μ a' < μ a → Sta K p S0 B m M n σ' S' l' → sub (e a') l' → D'.nx σ' S'.H) →
      (∀ a' σ' S' l', I a' → μ a' < μ a → Sta K p S0 B m M n σ' S' l' → sub (e a') l' → D'.ct σ' S'.H) → (∀ σ' H', D'.bk σ' H' = D.nx σ' H') → tb D' σ S.H)
    (hd : ∀ a σ S, I a → b a = false → Sta K p S0 B m M n σ S (e a) → D.nx σ S.H) : tWhile c tb D σ S.H := by
  refine ⟨fun k σ' H' => ∃ a S', I a ∧ μ a = k ∧ S'.H = H' ∧ Sta K p S0 B m M n σ' S' (e a), ⟨μ a0, a0, S, h0, rfl, rfl, h.weak hs⟩, ?_⟩
  rintro k σ' H' ⟨a, S', ia, rfl, rfl, hst⟩
  refine ht a σ' S' ia hst S' (Gr.refl hst.ok) _ fun S2 g2 t2 => ?_
  have h2 := hst.grow0 g2 t2
  cases hba : b a with
  | true =>
    rw [if_pos rfl]
    have kk : ∀ a' σ' S' l', I a' → μ a' < μ a → Sta K p S0 B m M n σ' S' l' → sub (e a') l' → ∃ m', m' < μ a ∧ ∃ a S1, I a ∧ μ a = m' ∧ S1.H = S'.H ∧ Sta K p S0 B m M n σ' S1 (e a) :=
      fun a' σ' S' l' i' lt st' sb => ⟨μ a', lt, a', S', i', rfl, rfl, st'.weak sb⟩
    refine ⟨fun σ' H' => ∃ m', m' < μ a ∧ ∃ a S1, I a ∧ μ a = m' ∧ S1.H = H' ∧ Sta K p S0 B m M n σ' S1 (e a), fun σ' H' q => q, ?_⟩
    exact hb a σ' S2 ia hba h2 _ rfl kk kk fun _ _ => rfl
  | false =>
    rw [if_neg Bool.false_ne_true]
    exact hd a σ' S2 ia hba h2
theorem Sta.base {B' : Hp} (h : Sta K p S0 B m M n σ S l) (e : Ex B' S.F) : Sta K p S0 B' m M n σ S l := ⟨h.ok0, h.g, e, h.len, h.tb, h.tn, h.has, h.sep⟩
/-! ### what is walked: its items are data -/
def Src (K : PySem.W.Frag) [LT K] (p : Option Addr) (J : It) (B : Hp) (ds : List DL.D) : Prop := ∀ (S' : Wd), Ex B S'.F → Ok K p S' → ∀ c : Nat,
  (c < ds.length → J.go c S'.H ∧ ∀ x H', J.yld c S'.H x H' → H' = S'.H ∧ ∃ d, ds[c]? = some d ∧ Rp K S'.F x d) ∧ (c = ds.length → J.stop c S'.H)
def EvS (K : PySem.W.Frag) [LT K] (p : Option Addr) (wi : TI) (σ : L2.St) (S : Wd) (ds : List DL.D) : Prop := ∀ S1, Gr K p S S1 → ∀ R : It → Hp → Prop, (∀ J S2, Gr K p S1 S2 → S2.T ≤ S1.T → Src K p J S2.F ds → R J S2.H) → wi σ S1.H R
theorem es_list (h : EvD K p te σ S (.lst ds)) : EvS K p (iList K te) σ S ds := fun S1 g R q => h S1 g _ fun v S2 g2 t2 r => by
  cases r with
  | @lst a vs _ h1 r2 =>
  have there : ∀ S' : Wd, Ex S2.F S'.F → Ok K p S' → SqL K S'.H a vs := fun S' e o => .of (o.sub _ _ (e _ _ h1))
  refine ⟨a, rfl, ⟨vs, there S2 (fun _ _ q => q) g2.ok⟩, q _ S2 g2 t2 fun S' e o c => ⟨fun hc => ?_, fun hc => ?_⟩⟩
  · obtain ⟨x, hx, rx⟩ := r2.get (List.getElem?_eq_getElem hc)
    refine ⟨⟨vs, x, there S' e o, hx⟩, fun y H' hy => ?_⟩
    obtain ⟨e2, hy⟩ := hy
    have e3 := hy vs (there S' e o)
    rw [hx] at e3
    cases e3
    exact ⟨e2, _, List.getElem?_eq_getElem hc, rx.mono e⟩
  · exact ⟨vs, there S' e o, by rw [r2.length]; omega⟩
theorem es_tup (h : EvD K p te σ S (.tup ds)) : EvS K p (iTup K te) σ S ds := fun S1 g R q => h S1 g _ fun v S2 g2 t2 r => by
  cases r with
  | @tup a vs _ h1 r2 =>
  have there : ∀ S' : Wd, Ex S2.F S'.F → Ok K p S' → SqT K S'.H a vs := fun S' e o => Evl.ex_t (e.trans o.sub) h1
  refine ⟨a, rfl, ⟨vs, there S2 (fun _ _ q => q) g2.ok⟩, q _ S2 g2 t2 fun S' e o c => ⟨fun hc => ?_, fun hc => ?_⟩⟩
  · obtain ⟨x, hx, rx⟩ := r2.get (List.getElem?_eq_getElem hc)
    refine ⟨⟨vs, x, there S' e o, hx⟩, fun y H' hy => ?_⟩
    obtain ⟨e2, hy⟩ := hy
    have e3 := hy vs (there S' e o)
    rw [hx] at e3
    cases e3
    exact ⟨e2, _, List.getElem?_eq_getElem hc, rx.mono e⟩
  · exact ⟨vs, there S' e o, by rw [r2.length]; omega⟩
/-- the signs of a text -/
def signs (s : Str) : List DL.D := s.cps.toList.map fun c => .str ⟨#[c]⟩
theorem es_str {s : Str} (h : EvD K p te σ S (.str s)) : EvS K p (iStr te) σ S (signs s) := fun S1 g R q => h S1 g _ fun v S2 g2 t2 r => by
  cases r
  refine ⟨s, rfl, q _ S2 g2 t2 fun S' e o c => ⟨fun hc => ?_, fun hc => ?_⟩⟩
  · have hc' : c < s.cps.size := by unfold signs at hc; rw [List.length_map, Array.length_toList] at hc; exact hc
    refine ⟨hc', fun x H' hx => ?_⟩
    obtain ⟨e1, z, e2, e3⟩ := hx
    subst e3
    refine ⟨e1, .str ⟨#[z]⟩, ?_, .str _⟩
    unfold signs
    rw [List.getElem?_map, Array.getElem?_toList, e2]
    rfl
  · unfold signs at hc
    rw [List.length_map, Array.length_toList] at hc
    exact Nat.le_of_eq hc.symm
/-- lo, lo + 1, .. -/
def rng (lo : Int) (n : Nat) : List DL.D := (List.range n).map fun i => .int (lo + (i : Nat))
theorem rng_get {lo : Int} {n c : Nat} (h : c < n) : (rng lo n)[c]? = some (.int (lo + (c : Nat))) := by
  unfold rng
  rw [List.getElem?_map, List.getElem?_range h]
  rfl
theorem src_rng {lo : Int} {n : Nat} {B : Hp} : Src K p (Itr lo n) B (rng lo n) := fun S' e o c => by
  have el : (rng lo n).length = n := by unfold rng; rw [List.length_map, List.length_range]
  rw [el]
  refine ⟨fun hc => ⟨hc, fun x H' hx => ?_⟩, fun hc => Nat.le_of_eq hc.symm⟩
  obtain ⟨e1, e2⟩ := hx
  subst e2
  exact ⟨e1, _, rng_get hc, .int _⟩
theorem es_rng1 {ta : TA} {z : Int} (h : EvAH K p ta σ S [.int z]) (hz : -(2 ^ 62) ≤ z ∧ z < 2 ^ 62) : EvS K p (iRng1 ta) σ S (rng 0 z.toNat) := fun S1 g R q => h S1 g _ fun vs S2 g2 t2 r => by
  cases r with
  | cons r1 r2 => cases r2; cases r1; exact ⟨z, rfl, hz.1, hz.2, q _ S2 g2 t2 src_rng⟩
theorem es_rng2 {ta : TA} {y z : Int} (h : EvAH K p ta σ S [.int y, .int z]) (hy : -(2 ^ 62) ≤ y ∧ y < 2 ^ 62) (hz : -(2 ^ 62) ≤ z ∧ z < 2 ^ 62) : EvS K p (iRng2 ta) σ S (rng y (z - y).toNat) := fun S1 g R q => h S1 g _ fun vs S2 g2 t2 r => by
  cases r with
  | cons r1 r2 => cases r2 with
    | cons r2 r3 => cases r3; cases r1; cases r2; exact ⟨y, z, rfl, ⟨hy.1, hy.2, hz.1, hz.2⟩, q _ S2 g2 t2 src_rng⟩
/-- for x in what is walked: each turn draws at most w times -/
theorem s_for {α : Type} {wi : TI} {tb : TS} {w : Nat} (I : Nat → α → Prop) (e : α → En) (a0 : α) (h : Sta K p S0 B m M n σ S l) (hq : EvS K p wi σ S ds) (hi : i < m) (h0 : I 0 a0) (hs : sub (e a0) l)
    (hb : ∀ (B' : Hp) (c : Nat) (a : α) (d : DL.D) σ S, ds[c]? = some d → I c a → Sta K p S0 B' m M (n + c * w) σ S (put i (.dat d) (e a)) → ∀ D' : Ends, D'.rt = D.rt → (∀ a' σ' S' l', I (c + 1) a' → Sta K p S0 B' m M (n + (c + 1) * w) σ' S' l' → sub (e a') l' → D'.nx σ' S'.H) →
      (∀ a' σ' S' l', I (c + 1) a' → Sta K p S0 B' m M (n + (c + 1) * w) σ' S' l' → sub (e a') l' → D'.ct σ' S'.H) → (∀ σ' H', D'.bk σ' H' = D.nx σ' H') → tb D' σ S.H)
    (hd : ∀ a σ S, I ds.length a → Sta K p S0 B m M (n + ds.length * w) σ S (e a) → D.nx σ S.H) : tFor wi (gName i) tb D σ S.H := by
  refine hq S (Gr.refl h.ok) _ fun J S2 g2 t2 src => ?_
  have H2 := h.grow0 g2 t2
  refine ⟨fun c k σ' H' => k = ds.length - c ∧ c ≤ ds.length ∧ ∃ a S', I c a ∧ S'.H = H' ∧ Sta K p S0 S2.F m M (n + c * w) σ' S' (e a), ⟨ds.length, by simp, Nat.zero_le _, a0, S2, h0, rfl, by rw [Nat.zero_mul]; exact (H2.base (fun _ _ q => q)).weak hs⟩, ?_⟩
  rintro c k σ' H' ⟨rfl, hc, a, S', ia, rfl, st⟩
  obtain ⟨s1, s2⟩ := src S' st.bs st.ok c
  by_cases hlt : c < ds.length
  · obtain ⟨go, yl⟩ := s1 hlt
    refine .inr ⟨go, fun σ' H' => ∃ a S', I (c + 1) a ∧ S'.H = H' ∧ Sta K p S0 S2.F m M (n + (c + 1) * w) σ' S' (e a), fun σ' H' q => ⟨ds.length - (c + 1), by omega, rfl, hlt, q⟩, fun x H' y => ?_⟩
    obtain ⟨eH, d, hd', rx⟩ := yl x H' y
    subst eH
    have st2 : Sta K p S0 S2.F m M (n + c * w) (σ'.set i (some x)) S' (put i (.dat d) (e a)) := st.set hi rx (fun z => by cases z)
    exact hb S2.F c a d _ S' hd' ia st2 _ rfl (fun a' σ'' S'' l' i' st' sb => ⟨a', S'', i', rfl, st'.weak sb⟩) (fun a' σ'' S'' l' i' st' sb => ⟨a', S'', i', rfl, st'.weak sb⟩) fun _ _ => rfl
  · have ec : c = ds.length := by omega
    subst ec
    exact .inl ⟨s2 rfl, hd a σ' S' ia (st.base (h.bs.trans (g2.ff.trans st.bs)))⟩

/-! ### list comprehensions -/
theorem get_del_mem {vs : List Nat} : ∀ {l : En} {q : Nat × Ty}, q ∈ l.filter (fun q => !vs.contains q.1) → q ∈ l ∧ q.1 ∉ vs := fun {l q} h => by
  obtain ⟨h1, h2⟩ := List.mem_filter.mp h
  exact ⟨h1, fun z => by simp [z] at h2⟩
theorem wipe_get {σ : L2.St} {j : Nat} : ∀ {vs : List Nat}, j ∉ vs → (wipe σ vs)[j]? = σ[j]?
  | [], _ => rfl
  | v :: vs, h => by
    unfold wipe
    rw [List.getElem?_set_ne (fun z => h (by rw [z]; exact List.mem_cons_self))]
    exact wipe_get fun z => h (List.mem_cons_of_mem _ z)
/-- the state within a comprehension's block -/
theorem Sta.wiped (vs : List Nat) (h : Sta K p S0 B m M n σ S l) : Sta K p S0 B m M n (wipe σ vs) S (l.filter fun q => !vs.contains q.1) := by
  refine ⟨h.ok0, h.g, h.bs, by rw [wipe_length]; exact h.len, h.tb, h.tn, fun q hq => ?_, fun a ha b hb ne oa ob v ea => ?_⟩
  · obtain ⟨h1, h2⟩ := get_del_mem hq
    rw [wipe_get h2]
    exact h.has q h1
  · obtain ⟨h1, h2⟩ := get_del_mem ha
    obtain ⟨h3, h4⟩ := get_del_mem hb
    rw [wipe_get h2] at ea
    rw [wipe_get h4]
    exact h.sep a h1 b h3 ne oa ob v ea
theorem wipe_set {σ : L2.St} {i : Nat} {x : Option V} : ∀ {vs : List Nat}, i ∈ vs → wipe (σ.set i x) vs = wipe σ vs
  | v :: vs, h => by
    unfold wipe
    by_cases hv : i ∈ vs
    · rw [wipe_set hv]
    · have e : v = i := by
        rcases List.mem_cons.mp h with h | h
        · exact h.symm
        · exact absurd h hv
      subst e
      have : ∀ vs : List Nat, v ∉ vs → wipe (σ.set v x) vs = (wipe σ vs).set v x := by
        intro vs
        induction vs with
        | nil => intro _; rfl
        | cons u us ih =>
          intro hu
          unfold wipe
          rw [ih (fun z => hu (List.mem_cons_of_mem _ z)), List.set_comm]
          exact fun z => hu (by rw [z]; exact List.mem_cons_self)
      rw [this vs hv, List.set_set]
theorem wipe_wipe {σ : L2.St} : ∀ {vs us : List Nat}, (∀ v ∈ vs, v ∈ us) → wipe (wipe σ vs) us = wipe σ us
  | [], _, _ => rfl
  | v :: vs, us, h => by
    show wipe ((wipe σ vs).set v none) us = _
    rw [wipe_set (h v List.mem_cons_self), wipe_wipe fun x hx => h x (List.mem_cons_of_mem _ hx)]
/-- an object that is new since S1, and not fixed, changes -/
theorem Gr.chg {A : Addr} {o o' : HO} (ok1 : Ok K p S1) (g : Gr K p S1 S) (h0 : S1.H A = none) (hF : S.F A = none) (hA : S.H A = some o') (n1 : ∀ ps, o' ≠ .tbl ps) (n2 : ∀ c q, o' ≠ LamX.CodeO c q) (nt : NoT o := by intro ps z; cases z) : Gr K p S1 ⟨S.F, upd S.H A o, S.T⟩ := by
  refine ⟨g.ff, fun b o q np nt => ?_, fun b q => ?_, g.old, ⟨fun b o q => ?_, fun b q => ?_, g.ok.nt, tabs_chg g.ok.tb hA n1 n2 nt⟩⟩ <;> dsimp only at *
  · rw [upd_ne (ne_of_none q h0)]
    exact g.hh b o q np nt
  · have hb : b ≠ A := fun z => by subst z; exact q h0
    rw [upd_ne hb]
    exact g.al b q
  · have hb : b ≠ A := fun z => by subst z; rw [hF] at q; cases q
    rw [upd_ne hb]
    exact g.ok.sub b o q
  · obtain ⟨⟨c, t, r, cs, q1, q2, q3⟩, q4⟩ := g.ok.pen b q
    have hb : b ≠ A := fun z => by subst z; exact ok_ne ok1 h0 q.symm
    exact ⟨⟨c, t, r, cs, by rw [upd_ne hb]; exact q1, q2, q3⟩, q4⟩
/-- [f x for x in what is walked if b x] -/
theorem eo_lc {wi : TI} {tt : TT} {vs : List Nat} {b : DL.D → Bool} {f : DL.D → DL.D} (h : Sta K p S0 B m M n σ S l) (hq : EvS K p wi σ S ds) (hi : i < m) (hv : vs.contains i = true)
    (he : ∀ d ∈ ds, ∀ B' n' σ' S', Sta K p S0 B' m M n' σ' S' (put i (.dat d) (l.filter fun q => !vs.contains q.1)) → EvT K p tt σ' S' (b d) ∧ (b d = true → EvD K p te σ' S' (f d))) (hz : ds.length < sizeLine) :
    EvO K p (tLc wi (gName i) tt te vs) σ S ((ds.filter b).map f) := by
  intro S1 g1 Q q
  have hm : i ∈ vs := by simpa using hv
  refine hq S1 g1 _ fun J S2 g2 t2 src => ?_
  intro A hA
  have hF2 := g2.ok.freshF hA
  have hAp := ok_ne g2.ok hA
  refine ⟨fun c k H' => k = ds.length - c ∧ c ≤ ds.length ∧ ∃ S' acc, S'.H = H' ∧ Gr K p S2 S' ∧ S'.T ≤ S2.T ∧ S'.H A = some (.lst acc) ∧ S'.F A = none ∧ Rps K S'.F acc (((ds.take c).filter b).map f),
    ⟨ds.length, by simp, Nat.zero_le _, ⟨S2.F, upd S2.H A (.lst []), S2.T⟩, [], rfl, Gr.newO g2.ok hA, Nat.le_refl _, upd_same, hF2, by rw [List.take_zero]; exact .nil⟩, ?_⟩
  rintro c k H' ⟨rfl, hc, S', acc, rfl, g', t', hA', hF', ra⟩
  obtain ⟨s1, s2⟩ := src S' g'.ff g'.ok c
  by_cases hlt : c < ds.length
  · obtain ⟨go, yl⟩ := s1 hlt
    refine .inr ⟨go, fun H' => ∃ S' acc, S'.H = H' ∧ Gr K p S2 S' ∧ S'.T ≤ S2.T ∧ S'.H A = some (.lst acc) ∧ S'.F A = none ∧ Rps K S'.F acc (((ds.take (c + 1)).filter b).map f), fun H' q => ⟨ds.length - (c + 1), by omega, rfl, hlt, q⟩, fun x H' y => ?_⟩
    obtain ⟨eH, d, hd, rx⟩ := yl x H' y
    subst eH
    have st := (h.any ((g1.trans g2).trans g')).wiped vs
    have st2 := (st.set (t := .dat d) hi rx (fun z => by cases z)).base (fun _ _ q => q)
    obtain ⟨e1, e2⟩ := he d (List.mem_of_getElem? hd) _ _ _ _ st2
    refine ⟨by rw [wipe_set hm, wipe_wipe fun _ z => z], e1 S' (Gr.refl g'.ok) _ fun S3 g3 t3 => ?_⟩
    have tk : (ds.take (c + 1)).filter b = if b d = true then (ds.take c).filter b ++ [d] else (ds.take c).filter b := by
      rw [List.take_succ, hd, List.filter_append]
      simp only [Option.toList, List.filter_cons, List.filter_nil]
      split <;> simp
    cases hb : b d with
    | true =>
      rw [if_pos rfl]
      refine e2 hb S3 g3 _ fun y S4 g4 t4 ry => ?_
      have g5 := g3.trans g4
      have hA4 := g5.hh _ _ hA' hAp
      have hF4 : S4.F A = none := (g5.old A (by rw [hA']; simp)).trans hF'
      have hl : acc.length ≤ ds.length := by
        rw [ra.length, List.length_map]
        exact Nat.le_trans (List.length_filter_le _ _) (by rw [List.length_take]; omega)
      refine ⟨acc, hA4, by omega, ⟨S4.F, upd S4.H A (.lst (acc ++ [y])), S4.T⟩, acc ++ [y], rfl, Gr.chg g2.ok (g'.trans g5) hA hF4 hA4 (fun ps z => by cases z) code_ne_lst, by show S4.T ≤ _; omega, upd_same, hF4, ?_⟩
      rw [tk, hb, if_pos rfl, List.map_append]
      exact ((ra.mono g5.ff).snoc ry)
    | false =>
      rw [if_neg Bool.false_ne_true]
      have hA3 := g3.hh _ _ hA' hAp
      have hF3 : S3.F A = none := (g3.old A (by rw [hA']; simp)).trans hF'
      refine ⟨S3, acc, rfl, g'.trans g3, by omega, hA3, hF3, ?_⟩
      rw [tk, hb, if_neg Bool.false_ne_true]
      exact ra.mono g3.ff
  · have e : c = ds.length := by omega
    subst e
    rw [List.take_length] at ra
    exact .inl ⟨s2 rfl, q A acc S' (g2.trans g') (by omega) (g2.fresh hA) hA' hF' ra⟩
/-- [draws for x in what is walked], no test; each item draws at most w times -/
theorem en_lc {wi : TI} {vs : List Nat} {w : Nat} {R : DL.D → DL.D → Prop} (h : Sta K p S0 B m M n σ S l) (hq : EvS K p wi σ S ds) (hi : i < m) (hv : vs.contains i = true)
    (he : ∀ d ∈ ds, ∀ B' n' σ' S', Sta K p S0 B' m M n' σ' S' (put i (.dat d) (l.filter fun q => !vs.contains q.1)) → EvN K p te σ' S' w (R d)) (hz : ds.length < sizeLine) :
    EvON K p (tLc wi (gName i) tYes te vs) σ S (ds.length * w) (fun es => es.length = ds.length ∧ ∀ (c : Nat) (d e : DL.D), ds[c]? = some d → es[c]? = some e → R d e) := by
  intro S1 g1 hB Q q
  have hm : i ∈ vs := by simpa using hv
  refine hq S1 g1 _ fun J S2 g2 t2 src => ?_
  intro A hA
  have hF2 := g2.ok.freshF hA
  have hAp := ok_ne g2.ok hA
  refine ⟨fun c k H' => k = ds.length - c ∧ c ≤ ds.length ∧ ∃ S' acc es, S'.H = H' ∧ Gr K p S2 S' ∧ S'.T ≤ S2.T + c * w ∧ S'.H A = some (.lst acc) ∧ S'.F A = none ∧ Rps K S'.F acc es ∧ es.length = c ∧ ∀ (c' : Nat) (d e : DL.D), ds[c']? = some d → es[c']? = some e → R d e,
    ⟨ds.length, by simp, Nat.zero_le _, ⟨S2.F, upd S2.H A (.lst []), S2.T⟩, [], [], rfl, Gr.newO g2.ok hA, by show S2.T ≤ _; omega, upd_same, hF2, .nil, rfl, fun c' d e _ q => by simp at q⟩, ?_⟩
  rintro c k H' ⟨rfl, hc, S', acc, es, rfl, g', t', hA', hF', ra, el, hes⟩
  obtain ⟨s1, s2⟩ := src S' g'.ff g'.ok c
  by_cases hlt : c < ds.length
  · obtain ⟨go, yl⟩ := s1 hlt
    refine .inr ⟨go, fun H' => ∃ S' acc es, S'.H = H' ∧ Gr K p S2 S' ∧ S'.T ≤ S2.T + (c + 1) * w ∧ S'.H A = some (.lst acc) ∧ S'.F A = none ∧ Rps K S'.F acc es ∧ es.length = c + 1 ∧ ∀ (c' : Nat) (d e : DL.D), ds[c']? = some d → es[c']? = some e → R d e, fun H' q => ⟨ds.length - (c + 1), by omega, rfl, hlt, q⟩, fun x H' y => ?_⟩
    obtain ⟨eH, d, hd, rx⟩ := yl x H' y
    subst eH
    have st := (h.any ((g1.trans g2).trans g')).wiped vs
    have st2 := (st.set (t := .dat d) hi rx (fun z => by cases z)).base (fun _ _ q => q)
    have e2 := he d (List.mem_of_getElem? hd) _ _ _ _ st2
    have hw : c * w + w ≤ ds.length * w := by
      have : (c + 1) * w ≤ ds.length * w := Nat.mul_le_mul_right w hlt
      rw [Nat.add_mul, Nat.one_mul] at this
      exact this
    refine ⟨by rw [wipe_set hm, wipe_wipe fun _ z => z], ?_⟩
    show te _ S'.H _
    refine e2 S' (Gr.refl g'.ok) (by omega) _ fun y e S4 g4 t4 ry hR => ?_
    have hA4 := g4.hh _ _ hA' hAp
    have hF4 : S4.F A = none := (g4.old A (by rw [hA']; simp)).trans hF'
    have hl : acc.length ≤ ds.length := by rw [ra.length, el]; omega
    refine ⟨acc, hA4, by omega, ⟨S4.F, upd S4.H A (.lst (acc ++ [y])), S4.T⟩, acc ++ [y], es ++ [e], rfl, Gr.chg g2.ok (g'.trans g4) hA hF4 hA4 (fun ps z => by cases z) code_ne_lst, ?_, upd_same, hF4, (ra.mono g4.ff).snoc ry, by rw [List.length_append, el]; rfl, fun c' d' e' h1 h2 => ?_⟩
    · show S4.T ≤ _
      rw [Nat.add_mul, Nat.one_mul]
      omega
    · by_cases hcc : c' < es.length
      · rw [List.getElem?_append_left hcc] at h2
        exact hes c' d' e' h1 h2
      · have hce : c' = c := by
          have := (List.getElem?_eq_some_iff.mp h2).1
          rw [List.length_append, List.length_singleton] at this
          omega
        subst hce
        rw [List.getElem?_append_right (by omega), el, Nat.sub_self] at h2
        cases h2
        rw [hd] at h1
        cases h1
        exact hR
  · have e : c = ds.length := by omega
    subst e
    exact .inl ⟨s2 rfl, q A acc es S' (g2.trans g') (by omega) (g2.fresh hA) hA' hF' ra ⟨el, hes⟩⟩
theorem EvON.ed {P : List DL.D → Prop} (h : EvON K p te σ S n P) : EvN K p te σ S n (fun d => ∃ ds, d = .lst ds ∧ P ds) := fun S1 g hb Q q => h S1 g hb Q fun a vs ds S2 g2 t h0 h1 h2 r hp =>
  q (.ref a) _ ⟨upd S2.F a (.lst vs), S2.H, S2.T⟩ (g2.fix h0 h1 h2 (ok_ne g.ok h0)) t (.lst upd_same (r.mono (Ex.new h2))) ⟨ds, rfl, hp⟩
end
end DL
namespace DL
open PySem L2
open Evl (Ex)
variable {K : PySem.W.Frag} [LT K] {p : Option Addr} {S S0 S1 S2 S3 : Wd} {B : Hp} {σ σ' : L2.St} {te ta tb tc to : TE} {d d1 d2 d3 : D} {ds es : List D} {v : V} {m M n k : Nat} {P P1 P2 : D → Prop} {l l' : En} {i j : Nat} {t : Ty}

/-! ## promises -/
/-- a def that reads data and hands back new data -/
def spP (K : PySem.W.Frag) [LT K] (n : Nat) (pre : List D → Prop) (f : List D → D) : Sp := fun vs H Q _ => ∃ (F : Hp) (ds : List D), Ok K none ⟨F, H, 0⟩ ∧ Rps K F vs ds ∧ ds.length = n ∧ pre ds ∧ ∀ v F' H', Gr K none ⟨F, H, 0⟩ ⟨F', H', 0⟩ → Rp K F' v (f ds) → Q v H'
/-- a def that draws: its first argument is the pen, at most N draws -/
def spN (K : PySem.W.Frag) [LT K] (n N : Nat) (pre : List D → Prop) (post : List D → D → Prop) : Sp := fun vs H Q _ => ∃ (S : Wd) (a : Addr) (ws : List V) (ds : List D), vs = .ref a :: ws ∧ S.H = H ∧ Ok K (some a) S ∧ Rps K S.F ws ds ∧ ds.length = n ∧ pre ds ∧ S.T + N ≤ 1000000000 ∧
  ∀ v d S', Gr K (some a) S S' → S'.T ≤ S.T + N → Rp K S'.F v d → post ds d → Q v S'.H
theorem spP_len {pre : List D → Prop} {f : List D → D} {vs : List V} {H : Hp} {Q : VK} {E : XK} (h : spP K n pre f vs H Q E) : vs.length = n := by
  obtain ⟨F, ds, _, r, hl, _⟩ := h
  rw [r.length, hl]
theorem spN_len {N : Nat} {pre : List D → Prop} {post : List D → D → Prop} {vs : List V} {H : Hp} {Q : VK} {E : XK} (h : spN K n N pre post vs H Q E) : vs.length = n + 1 := by
  obtain ⟨S, a, ws, ds, rfl, _, _, r, hl, _⟩ := h
  rw [List.length_cons, r.length, hl]
/-- the slots at the entry -/
def ents : Nat → List D → En
  | _, [] => []
  | k, d :: ds => (k, .dat d) :: ents (k + 1) ds
theorem ents_mem : ∀ {ds : List D} {k : Nat} {q : Nat × Ty}, q ∈ ents k ds → ∃ (c : Nat) (d : D), q = (k + c, .dat d) ∧ ds[c]? = some d
  | d :: ds, k, q, h => by
    rcases List.mem_cons.mp h with rfl | h
    · exact ⟨0, d, rfl, rfl⟩
    · obtain ⟨c, e, rfl, h2⟩ := ents_mem h
      exact ⟨c + 1, e, by rw [Nat.add_assoc, Nat.add_comm 1 c], by simpa using h2⟩
theorem start_get {N : List Str} {vs : List V} {c : Nat} {x : V} (h : vs[c]? = some x) : (L2.start N vs)[c]? = some (some x) := by
  unfold L2.start
  have hc := (List.getElem?_eq_some_iff.mp h).1
  rw [List.getElem?_append_left (by simpa using hc), List.getElem?_map, h]
  rfl
theorem start_len {N : List Str} {vs : List V} (h : vs.length ≤ N.length) : (L2.start N vs).length = N.length := by
  unfold L2.start
  rw [List.length_append, List.length_map, List.length_replicate]
  omega
theorem sta_start {N : List Str} {vs : List V} (ok : Ok K p S) (r : Rps K S.F vs ds) (hl : vs.length ≤ N.length) (hM : S.T + M ≤ 1000000000) : Sta K p S S.F N.length M 0 (L2.start N vs) S (ents 0 ds) := by
  refine ⟨ok, Gr.refl ok, fun _ _ q => q, start_len hl, hM, Nat.le_refl _, fun q hq => ?_, fun a ha b hb ne oa => ?_⟩
  · obtain ⟨c, d, rfl, hc⟩ := ents_mem hq
    obtain ⟨x, hx, rx⟩ := r.get hc
    refine ⟨x, ?_, rx⟩
    rw [Nat.zero_add]
    exact start_get hx
  · obtain ⟨c, d, rfl, hc⟩ := ents_mem ha
    cases oa
theorem sta_startN {N : List Str} {a : Addr} {vs : List V} (ok : Ok K p S) (r : Rps K S.F vs ds) (hl : vs.length + 1 ≤ N.length) (hM : S.T + M ≤ 1000000000) : Sta K p S S.F N.length M 0 (L2.start N (.ref a :: vs)) S ((0, .val (.ref a)) :: ents 1 ds) := by
  refine ⟨ok, Gr.refl ok, fun _ _ q => q, start_len (by simpa using hl), hM, Nat.le_refl _, fun q hq => ?_, fun x hx b hb ne oa => ?_⟩
  · rcases List.mem_cons.mp hq with rfl | hq
    · exact ⟨.ref a, start_get rfl, rfl⟩
    · obtain ⟨c, d, rfl, hc⟩ := ents_mem hq
      obtain ⟨x, hx, rx⟩ := r.get hc
      refine ⟨x, ?_, rx⟩
      rw [Nat.add_comm 1 c]
      exact start_get (by simpa using hx)
  · rcases List.mem_cons.mp hx with rfl | hx
    · cases oa
    · obtain ⟨c, d, rfl, hc⟩ := ents_mem hx
      cases oa
/-- f(..) of such a def -/
theorem ed_call {pre : List D → Prop} {f : List D → D} {t : TA} {E : XK} (h : EvA K p t σ S ds) (hn : ds.length = n) (hp : pre ds) : EvD K p (tCall (spP K n pre f) [] E t) σ S (f ds) := fun S1 g Q q =>
  h S1 g _ fun vs S2 g2 t2 rs => by
    rw [List.append_nil]
    refine ⟨S2.F, ds, ⟨g2.ok.sub, fun a e => (by cases e), g2.ok.nt, g2.ok.tb⟩, rs, hn, hp, fun v F' H' g' r => ?_⟩
    have g3 : Gr K none S2 ⟨F', H', S2.T⟩ := ⟨g'.ff, fun b o q np n => g'.hh b o q np n, g'.al, g'.old, ⟨g'.ok.sub, fun a e => (by cases e), g'.ok.nt, g'.ok.tb⟩⟩
    exact q v ⟨F', H', S2.T⟩ (g2.trans (g3.up g2.ok rfl)) t2 r
/-- f(k = e, ..) -/
theorem ed_callK {pre : List D → Prop} {f : List D → D} {tk : TA} {E : XK} {gV : List V → List V → List V} {gD : List D → List D} (h : EvA K p tk σ S ds) (hg : ∀ F vs, Rps K F vs ds → Rps K F (gV [] vs) (gD ds)) (hn : (gD ds).length = n) (hp : pre (gD ds)) : EvD K p (tCallK (spP K n pre f) gV E tNil tk) σ S (f (gD ds)) := fun S1 g Q q =>
  h S1 g _ fun vs S2 g2 t2 rs => by
    refine ⟨S2.F, gD ds, ⟨g2.ok.sub, fun a e => (by cases e), g2.ok.nt, g2.ok.tb⟩, hg _ _ rs, hn, hp, fun v F' H' g' r => ?_⟩
    have g3 : Gr K none S2 ⟨F', H', S2.T⟩ := ⟨g'.ff, fun b o q np n => g'.hh b o q np n, g'.al, g'.old, ⟨g'.ok.sub, fun a e => (by cases e), g'.ok.nt, g'.ok.tb⟩⟩
    exact q v ⟨F', H', S2.T⟩ (g2.trans (g3.up g2.ok rfl)) t2 r
/-- f(pen, ..): the arguments behind the pen draw nothing -/
theorem en_call {a : Addr} {N : Nat} {pre : List D → Prop} {post : List D → D → Prop} {t : TA} {E : XK} (hv : EvV K (some a) te σ S (.ref a)) (h : EvA K (some a) t σ S ds) (hn : ds.length = n) (hp : pre ds) : EvN K (some a) (tCall (spN K n N pre post) [] E (tCons te t)) σ S N (post ds) := fun S1 g hb Q q =>
  hv S1 g _ fun S2 g2 t2 => h S2 (g.trans g2) _ fun vs S3 g3 t3 rs => by
    show spN K n N pre post ((.ref a :: vs) ++ []) S3.H Q E
    rw [List.append_nil]
    refine ⟨S3, a, vs, ds, rfl, rfl, g3.ok, rs, hn, hp, by omega, fun v d S' g' t' r k => ?_⟩
    exact q v d S' ((g2.trans g3).trans g') (by omega) r k
/-- f(pen, e): e draws too -/
theorem en_callN {a : Addr} {N : Nat} {pre : List D → Prop} {post : List D → D → Prop} {E : XK} (hv : EvV K (some a) te σ S (.ref a)) (h : EvN K (some a) ta σ S k P) (hp : ∀ d, P d → pre [d]) : EvN K (some a) (tCall (spN K 1 N pre post) [] E (tCons te (tCons ta tNil))) σ S (k + N) (fun e => ∃ d, P d ∧ post [d] e) := fun S1 g hb Q q =>
  hv S1 g _ fun S2 g2 t2 => h S2 (g.trans g2) (by omega) _ fun v d S3 g3 t3 r3 p3 => by
    show spN K 1 N pre post _ S3.H Q E
    refine ⟨S3, a, [v], [d], rfl, rfl, g3.ok, .one r3, rfl, hp d p3, by omega, fun v' d' S' g' t' r k => ?_⟩
    exact q v' d' S' ((g2.trans g3).trans g') (by omega) r ⟨d, p3, k⟩

/-! ### isinstance -/
def tyD : D → Option String
  | .non => some "NoneType"
  | .bl _ => some "bool"
  | .int _ => some "int"
  | .str _ => some "str"
  | .lst _ => some "list"
  | .tup _ => some "tuple"
  | .dic _ => some "dict"
  | _ => none
theorem tyX_rp {H : Hp} {T : String} (r : Rp K H v d) (h : tyD d = some T) : TyX K H v (.type T) := by
  cases r with
  | non => cases h; exact .base .non
  | bl b => cases h; exact .base (.bl b)
  | int b => cases h; exact .base (.int b)
  | str b => cases h; exact .base (.str b)
  | lst h1 => cases h; exact .base (.lst h1)
  | tup h1 =>
    cases h
    rcases h1 with (h1 | ⟨o, h1⟩) | ⟨o, its, n, hk, hc, _⟩
    · exact .base (.tup h1)
    · exact .fTuple h1
    · exact .kTuple hk hc
  | dic h1 => cases h; exact .base (.dK h1)
  | ins _ => cases h
  | val _ => cases h
/-- the answer of isinstance with a built-in class -/
def isiD (U : String) (d : D) : Option Bool := (tyD d).bind fun T => kitB T U
theorem ed_isi {U : String} {b : Bool} (h : EvH K p te σ S d) (hb : isiD U d = some b) : EvD K p (tCB (rIsi K) (tCons te (tCons (tC (.ty U)) tNil))) σ S (.bl b) := fun S1 g Q q => h S1 g _ fun x S2 g2 t2 r => by
  unfold isiD at hb
  cases e : tyD d with
  | none => rw [e] at hb; cases hb
  | some T =>
    rw [e] at hb
    exact ⟨x, .ty U, .type T, .type U, b, rfl, .ty U, tyX_rp (r.mono hide_ex) e, kit_ty hb, q _ S2 g2 t2 (.bl b)⟩
def isiD2 (U W : String) (d : D) : Option Bool := (isiD U d).bind fun a => if a then some true else isiD W d
theorem ed_isi2 {U W : String} {b : Bool} (h : EvH K p te σ S d) (hb : isiD2 U W d = some b) : EvD K p (tCB (rIsiT K) (tCons te (tCons (tTup (tCons (tC (.ty U)) (tCons (tC (.ty W)) tNil))) tNil))) σ S (.bl b) := fun S1 g Q q => h S1 g _ fun x S2 g2 t2 r => by
  unfold isiD2 isiD at hb
  cases e : tyD d with
  | none => rw [e] at hb; cases hb
  | some T =>
    rw [e] at hb
    refine ⟨by show 2 ≤ sizeLine; decide, fun A hA => ?_⟩
    have g3 : Gr K p S2 ⟨S2.F, upd S2.H A (.tup [.ty U, .ty W]), S2.T⟩ := Gr.newO g2.ok hA
    refine ⟨x, A, [.ty U, .ty W], .type T, [.type U, .type W], b, rfl, upd_same, .cons (.ty U) (.cons (.ty W) .nil), tyX_rp (r.mono (hide_ex.trans (Ex.new hA))) e, ?_, q _ _ (g2.trans g3) t2 (.bl b)⟩
    cases e1 : kitB T U with
    | none => simp [e1] at hb
    | some a =>
      refine kitAny_cons (kit_ty e1) (fun ha => ?_) (fun ha => ?_)
      · subst ha
        simp [e1] at hb
        refine kitAny_cons (kit_ty hb) (fun hb' => by rw [hb']; exact kitAny_nil) (fun hb' => hb')
      · subst ha
        simp [e1] at hb
        exact hb
def isStr : D → Option Bool
  | .str _ => some true
  | .ins _ _ => none
  | .val _ => none
  | _ => some false
def isRow : D → Option Bool
  | .lst _ => some true
  | .tup _ => some true
  | .ins _ _ => none
  | .val _ => none
  | _ => some false
def isTup : D → Option Bool
  | .tup _ => some true
  | .ins _ _ => none
  | .val _ => none
  | _ => some false
def isIntB : D → Option Bool
  | .int _ => some true
  | .bl _ => some true
  | .ins _ _ => none
  | .val _ => none
  | _ => some false
def isBl : D → Option Bool
  | .bl _ => some true
  | .ins _ _ => none
  | .val _ => none
  | _ => some false
theorem isi_str (d : D) : isiD "str" d = isStr d := by cases d <;> first | rfl | (unfold isiD tyD isStr; decide +kernel)
theorem isi_tup (d : D) : isiD "tuple" d = isTup d := by cases d <;> first | rfl | (unfold isiD tyD isTup; decide +kernel)
theorem isi_int (d : D) : isiD "int" d = isIntB d := by cases d <;> first | rfl | (unfold isiD tyD isIntB; decide +kernel)
theorem isi_bl (d : D) : isiD "bool" d = isBl d := by cases d <;> first | rfl | (unfold isiD tyD isBl; decide +kernel)
theorem isi_row (d : D) : isiD2 "list" "tuple" d = isRow d := by cases d <;> first | rfl | (unfold isiD2 isiD tyD isRow; decide +kernel)

/-! ### a call with keywords alone -/
section
variable {X : Cx} {CX : CXT} {f : Addr} {fd : FuncData} {ps ks : List Str} {sp : Sp} {E : XK} {x : Str} {pp pos : Pos} {kws : List Keyword} {tk : TA} {gs : List Value → List Value → List Value} {gV : List V → List V → List V}
theorem pe_callK0 (F : FnOk X.prog X.w X.K X.mg X.base CX k f fd ps sp) (hr : Room k X.A) (hg : Gl X x) (hm : X.mg x = some (.ref f)) (hk : PySem.W.keepIn X.K (.ref f) = true) (hb : KBinds X.K fd ps ks gs gV) (hx : Passes CX X E)
    (hkw : PK X kws tk) (hall : (backToKw pos (keywordEach kws X.env)).all (·.1.isSome) = true := by rfl) (hks : (backToKw pos (keywordEach kws X.env)).filterMap (·.1) = ks := by rfl)
    (hdb : (x == ("__debug__" : Str)) = false := by decide)
    (hpl : ((backTo pos (starEach [] X.env)).any (·.1) || (backToKw pos (keywordEach kws X.env)).any (·.1.isNone)) = false := by rfl) :
    PE X (.Call (.Name x pp) [] kws pos) (tCallK sp gV E tNil tk) := by
  refine ⟨fun pins s σ H Q I h => ?_⟩
  refine wpAny_Call_Name_kw (ld_glob I hg hm ?_ hdb)
  refine PySem.W.callWith_KW0 (h₀ := X.base) I.ok.mod.kin hk hall ?_ hpl
  refine thn (hkw.run pos pins s σ H _ I h) fun ws s2 hws => ?_
  obtain ⟨zs, H2, I2, rz, q2⟩ := hws
  refine ⟨I2.kIn, ?_⟩
  rw [hks]
  exact run_fnk F hr hb hx I2 .nil rz q2
end
end DL
namespace DL
open PySem L2
open Evl (Ex)
/-! ## operators that choose by the values -/
def rAddS : R2 := fun x y H Q => ∃ i j, x = .str i ∧ y = .str j ∧ i.length + j.length ≤ sizeLine ∧ Q (.str (i ++ j)) H
def rAddU (K : PySem.W.Frag) : R2 := fun x y H Q => rI0 (fun i j => .int (i + j)) x y H Q ∨ (rAddS x y H Q ∨ (rCat x y H Q ∨ rCatT K x y H Q))
def rMulU : R2 := fun x y H Q => rI IntMulOk (fun i j => .int (i * j)) x y H Q ∨ rRep x y H Q
/-- == of a list and an empty one -/
def rEqNil (K : PySem.W.Frag) : R2 := fun x y H Q => ∃ a b xs, x = .ref a ∧ y = .ref b ∧ SqL K H a xs ∧ SqL K H b [] ∧ Q (.bl xs.isEmpty) H
def rNeNil (K : PySem.W.Frag) : R2 := fun x y H Q => ∃ a b xs, x = .ref a ∧ y = .ref b ∧ SqL K H a xs ∧ SqL K H b [] ∧ Q (.bl (!xs.isEmpty)) H
def rEqU (K : PySem.W.Frag) : R2 := fun x y H Q => rEq x y H Q ∨ (rEqD K x y H Q ∨ rEqNil K x y H Q)
def rNeU (K : PySem.W.Frag) : R2 := fun x y H Q => rNe x y H Q ∨ (rNeD K x y H Q ∨ rNeNil K x y H Q)
def rSign : R2 := fun x y H Q => ∃ (c : Nat) (z : Str), x = .str ⟨#[c]⟩ ∧ y = .str z ∧ Q (.bl (decide (c ∈ z.cps.toList))) H
def rNSign : R2 := fun x y H Q => ∃ (c : Nat) (z : Str), x = .str ⟨#[c]⟩ ∧ y = .str z ∧ Q (.bl (!decide (c ∈ z.cps.toList))) H
def rInU (K : PySem.W.Frag) : R2 := fun x y H Q => rIn K false x y H Q ∨ rSign x y H Q
def rNinU (K : PySem.W.Frag) : R2 := fun x y H Q => rIn K true x y H Q ∨ rNSign x y H Q
def rIsN : R2 := fun x y H Q => y = .non ∧ Q (.bl (decide (x = .non))) H
def rNotN : R2 := fun x y H Q => y = .non ∧ Q (.bl (!decide (x = .non))) H
def CPowI (i n : Int) : Prop := 0 ≤ n ∧ (Builtin.Int.intBits i : Int) * n ≤ 2 ^ 27
def rLenU (K : PySem.W.Frag) : List V → Hp → VK → Prop := fun xs H Q => ∃ x n, xs = [x] ∧ LenV K x H n ∧ Q (.int n) H
def rAbs : List V → Hp → VK → Prop := fun xs H Q => ∃ i, xs = [.int i] ∧ Q (.int (if i < 0 then -i else i)) H
def rInt1 : List V → Hp → VK → Prop := fun xs H Q => (∃ i, xs = [.int i] ∧ Q (.int i) H) ∨ ∃ k, xs = [.bl k] ∧ Q (.int (if k then 1 else 0)) H
def rList (K : PySem.W.Frag) : List V → Hp → VK → Prop := fun xs H Q => ∃ p ys, xs = [.ref p] ∧ (SqL K H p ys ∨ SqT K H p ys) ∧ ∀ l, H l = none → Q (.ref l) (upd H l (.lst ys))
def rTuple (K : PySem.W.Frag) : List V → Hp → VK → Prop := fun xs H Q => ∃ p ys, xs = [.ref p] ∧ ((SqL K H p ys ∧ ∀ l, H l = none → Q (.ref l) (upd H l (.tup ys))) ∨ (SqT K H p ys ∧ Q (.ref p) H))
/-- the signs of a text as values -/
def signsV (s : Str) : List V := s.cps.toList.map fun c => .str ⟨#[c]⟩
def rListS : List V → Hp → VK → Prop := fun xs H Q => ∃ s, xs = [.str s] ∧ s.cps.size ≤ sizeLine ∧ ∀ l, H l = none → Q (.ref l) (upd H l (.lst (signsV s)))
/-- repr of nested data -/
def rRepr (K : PySem.W.Frag) : List V → Hp → VK → Prop := fun xs H Q => ∃ a d, xs = [.ref a] ∧ Dp K H (.ref a) d ∧ d.showable = true ∧ d.canLay0 = true ∧ d.depth ≤ 64 ∧ d.shown.length ≤ sizeLine ∧ Q (.str d.shown) H
section
variable {X : Cx}
theorem op_addU : OpR X (binaryOp .Add) (rAddU X.K) := op_add.or (op_add_str.or (op_cat.or op_catT))
theorem op_mulI : OpR X (binaryOp .Mult) (rI IntMulOk fun i j => .int (i * j)) := opI fun _ _ _ _ _ _ _ hc q => PyProof.Rows.mul_int q hc
theorem op_mulU : OpR X (binaryOp .Mult) rMulU := op_mulI.or op_rep
theorem op_eqNil (hu : X.A.units + 64 < cLine) : OpR X (compareOp .Eq) (rEqNil X.K) := by
  intro pins s σ H x y v u Q I rx ry h
  obtain ⟨a, b, xs, rfl, rfl, h1, h2, q⟩ := h
  cases (show v = Value.ref a from rx)
  cases (show u = Value.ref b from ry)
  obtain ⟨its, r, pl, hz⟩ := I.list h1
  obtain ⟨jts, r', pl', hz'⟩ := I.list h2
  cases r'
  cases r with
  | nil => exact PySem.SeqAt.eq_listAt (e := fun _ => true) pl.isList pl'.isList rfl (by omega) (fun j h1 _ => absurd h1 (Nat.not_lt_zero _)) ⟨.bl _, H, I, rfl, q⟩
  | cons _ _ => exact PySem.SeqAt.eq_list_lengthsAt pl.isList pl'.isList (by simp) (by omega) ⟨.bl _, H, I, rfl, q⟩
theorem op_neNil (hu : X.A.units + 64 < cLine) : OpR X (compareOp .NotEq) (rNeNil X.K) := by
  intro pins s σ H x y v u Q I rx ry h
  obtain ⟨a, b, xs, rfl, rfl, h1, h2, q⟩ := h
  cases (show v = Value.ref a from rx)
  cases (show u = Value.ref b from ry)
  obtain ⟨its, r, pl, hz⟩ := I.list h1
  obtain ⟨jts, r', pl', hz'⟩ := I.list h2
  cases r'
  cases r with
  | nil => exact PySem.SeqAt.RcNeAt.lists (e := fun _ => true) pl.isList pl'.isList rfl (by omega) (fun j h1 _ => absurd h1 (Nat.not_lt_zero _)) _ _ _ _ ⟨.bl _, H, I, rfl, q⟩
  | cons _ _ => exact PySem.SeqAt.RcNeAt.lists_lengths pl.isList pl'.isList (by simp) (by omega) _ _ _ _ ⟨.bl _, H, I, rfl, q⟩
theorem op_eqU (hu : X.A.units + 64 < cLine) : OpR X (compareOp .Eq) (rEqU X.K) := op_eq.or ((op_eqD hu).or (op_eqNil hu))
theorem op_neU (hu : X.A.units + 64 < cLine) : OpR X (compareOp .NotEq) (rNeU X.K) := op_ne.or ((op_neD hu).or (op_neNil hu))
theorem op_inU : OpR X (compareOp .In) (rInU X.K) := op_in_seq.or op_in_sign
theorem op_ninU : OpR X (compareOp .NotIn) (rNinU X.K) := op_notIn_seq.or op_notIn_sign
theorem op_powI : OpR X (binaryOp .Pow) (rI CPowI fun i j => .int (i ^ j.toNat)) := opI fun _ _ _ _ _ _ _ hc q => PyProof.Rows.pow_int hc.1 hc.2 q
theorem call_listS (hc : X.calm = true) : CallR X (.type "list") rListS := by
  intro pins s σ H xs us Q I r h
  obtain ⟨z, rfl, hz, q⟩ := h
  obtain ⟨u, rfl, t, rfl⟩ := vals1 r
  refine PySem.call_list_str (I.ok.hd hc) z t (fun h' tk acc' c' hk hl hi => ?_) hz
  have hf := I.hok.fresh (Nat.le_refl _)
  refine ⟨.ref s.heap.objs.size, upd H s.heap.objs.size (.lst (signsV z)), I.laid (t' := tk) hk (Nat.le_refl _) ?_, rfl, q _ hf⟩
  have hv : Vals (signsV z) acc'.toList := by
    refine L2.vals_of_at ?_ fun j x u hx hu => ?_
    · unfold signsV
      rw [List.length_map, Array.length_toList, Array.length_toList]
      exact hi.1.symm
    · unfold signsV at hx
      rw [List.getElem?_map, Array.getElem?_toList] at hx
      rw [Array.getElem?_toList] at hu
      obtain ⟨c, k, e1, e2⟩ := hi.2 j u hu
      rw [e1] at hx
      cases hx
      exact ⟨k, e2⟩
  exact ⟨by unfold signsV; rw [List.length_map, Array.length_toList]; exact hz, acc'.toList, c', hv, by simpa using hl⟩
theorem call_repr (hg : X.A.guards = some []) (hu : X.A.units + 66 < cLine) : CallR X (.builtin "repr") (rRepr X.K) := by
  intro pins s σ H xs us Q I r h
  obtain ⟨a, d, rfl, hd, h1, h2, h3, h4, q⟩ := h
  obtain ⟨u, rfl, rx⟩ := vals1 r
  obtain ⟨as, rd⟩ := Dp.reads I d _ u hd rx
  cases (show u = Value.ref a from rx)
  exact PySem.repr_of_reads' rd h1 (PySem.PyData.noDict_hsm (PySem.PyData.hasDict_of_canLay d h2)) hg (by omega) (fun _ _ e => e) (fun h' u tk hk => ⟨.str _, H, I.kept (t' := tk) hk, ⟨_, rfl⟩, q⟩) h4
end

/-! ### what they ask, over data -/
section
variable {K : PySem.W.Frag} [LT K] {p : Option Addr} {S : Wd} {σ : L2.St} {te ta tb : TE} {d d1 d2 : D} {ds es : List D} {r r' : R2}
theorem RD.inl (h : RD K p r d1 d2 d) : RD K p (fun x y H Q => r x y H Q ∨ r' x y H Q) d1 d2 d := fun S1 x y o rx ry Q q => .inl (h S1 x y o rx ry Q q)
theorem RD.inr (h : RD K p r' d1 d2 d) : RD K p (fun x y H Q => r x y H Q ∨ r' x y H Q) d1 d2 d := fun S1 x y o rx ry Q q => .inr (h S1 x y o rx ry Q q)
theorem rd_add {i j : Int} : RD K p (rAddU K) (.int i) (.int j) (.int (i + j)) := RD.inl rd_I0
theorem rd_addS {a b : Str} (hz : a.length + b.length ≤ sizeLine) : RD K p (rAddU K) (.str a) (.str b) (.str (a ++ b)) := RD.inr (RD.inl (rd_adds hz))
theorem rd_mul {i j : Int} (h : IntMulOk i j) : RD K p rMulU (.int i) (.int j) (.int (i * j)) := RD.inl (rd_I h)
theorem rd_eqU (h1 : d1.sh = true) (h2 : d2.sh = true) : RD K p (rEqU K) d1 d2 (.bl (eqD d1 d2)) := RD.inr (RD.inl (rd_eq h1 h2))
theorem rd_neU (h1 : d1.sh = true) (h2 : d2.sh = true) : RD K p (rNeU K) d1 d2 (.bl (!eqD d1 d2)) := RD.inr (RD.inl (rd_ne h1 h2))
theorem rd_eqNil : RD K p (rEqU K) (.lst ds) (.lst []) (.bl ds.isEmpty) := RD.inr (RD.inr (rd_of (fun _ => .bl _) fun S1 x y o rx ry Q q => by
  cases rx with
  | lst h1 r1 => cases ry with
    | lst h2 r2 => cases r2; exact ⟨_, _, _, rfl, rfl, .of (hide_ex _ _ h1), .of (hide_ex _ _ h2), by cases r1 <;> exact q⟩))
theorem rd_neNil : RD K p (rNeU K) (.lst ds) (.lst []) (.bl (!ds.isEmpty)) := RD.inr (RD.inr (rd_of (fun _ => .bl _) fun S1 x y o rx ry Q q => by
  cases rx with
  | lst h1 r1 => cases ry with
    | lst h2 r2 => cases r2; exact ⟨_, _, _, rfl, rfl, .of (hide_ex _ _ h1), .of (hide_ex _ _ h2), by cases r1 <;> exact q⟩))
theorem rd_eqUs {a b : Str} : RD K p (rEqU K) (.str a) (.str b) (.bl (decide (a = b))) := RD.inl rd_eqs
theorem rd_nes {a b : Str} : RD K p rNe (.str a) (.str b) (.bl (!decide (a = b))) := rd_of (fun _ => .bl _) fun S1 x y o rx ry Q q => by
  cases rx; cases ry
  have e : decide (V.str a = V.str b) = decide (a = b) := by
    by_cases h : a = b
    · subst h; simp
    · rw [decide_eq_false h, decide_eq_false (fun z => h (V.str.inj z))]
  exact ⟨rfl, by rw [e]; exact q⟩
theorem rd_neUs {a b : Str} : RD K p (rNeU K) (.str a) (.str b) (.bl (!decide (a = b))) := RD.inl rd_nes
theorem rd_inUT (h1 : flatD d1 = true) (h2 : ds.all flatD = true) : RD K p (rInU K) d1 (.tup ds) (.bl (inD d1 ds)) := RD.inl (rd_inT (neg := false) h1 h2)
theorem rd_inUL (h1 : flatD d1 = true) (h2 : ds.all flatD = true) : RD K p (rInU K) d1 (.lst ds) (.bl (inD d1 ds)) := RD.inl (rd_inL (neg := false) h1 h2)
theorem rd_ninUT (h1 : flatD d1 = true) (h2 : ds.all flatD = true) : RD K p (rNinU K) d1 (.tup ds) (.bl (!inD d1 ds)) := RD.inl (rd_inT (neg := true) h1 h2)
theorem rd_ninUL (h1 : flatD d1 = true) (h2 : ds.all flatD = true) : RD K p (rNinU K) d1 (.lst ds) (.bl (!inD d1 ds)) := RD.inl (rd_inL (neg := true) h1 h2)
theorem rd_inUS {c : Nat} {z : Str} : RD K p (rInU K) (.str ⟨#[c]⟩) (.str z) (.bl (decide (c ∈ z.cps.toList))) := RD.inr rd_sign
theorem rd_ninUS {c : Nat} {z : Str} : RD K p (rNinU K) (.str ⟨#[c]⟩) (.str z) (.bl (!decide (c ∈ z.cps.toList))) := RD.inr rd_nsign
theorem rd_isN {b : Bool} (h : isNon d1 = some b) : RD K p rIsN d1 .non (.bl b) := rd_isNon h
theorem rd_notN {b : Bool} (h : isNon d1 = some b) : RD K p rNotN d1 .non (.bl (!b)) := rd_notNon h
theorem eo_catU (ha : EvQ K p ta σ S true ds) (hb : EvQ K p tb σ S true es) (hz : ds.length + es.length ≤ sizeLine) : EvO K p (tOp (rAddU K) ta tb) σ S (ds ++ es) := fun S1 g Q q =>
  ha S1 g _ fun a xs S2 g2 t2 h2 r2 => hb S2 (g.trans g2) _ fun b ys S3 g3 t3 h3 r3 => by
    rw [if_pos rfl] at h2 h3
    have e1 := r2.length
    have e2 := r3.length
    refine .inr (.inr (.inl ⟨a, b, xs, ys, rfl, rfl, g3.hh _ _ h2.1 h2.2, h3.1, by omega, fun q' hq' => ?_⟩))
    exact q q' (xs ++ ys) ⟨S3.F, upd S3.H q' (.lst (xs ++ ys)), S3.T⟩ ((g2.trans g3).trans (Gr.newO g3.ok hq')) (by show S3.T ≤ _; omega) ((g2.trans g3).fresh hq') upd_same (g3.ok.freshF hq') ((r2.mono g3.ff).append r3)
theorem eo_repU {k : Int} (ha : EvQ K p ta σ S true ds) (hb : EvD K p tb σ S (.int k)) (hk : -(2 ^ 63) ≤ k ∧ k < 2 ^ 63) (hz : ds.length * k.toNat ≤ sizeLine) : EvO K p (tOp rMulU ta tb) σ S (List.replicate k.toNat ds).flatten := fun S1 g Q q =>
  ha S1 g _ fun a xs S2 g2 t2 h2 r2 => hb S2 (g.trans g2) _ fun b S3 g3 t3 r3 => by
    rw [if_pos rfl] at h2
    cases r3
    refine .inr ⟨a, k, xs, rfl, rfl, g3.hh _ _ h2.1 h2.2, hk.1, hk.2, by rw [r2.length]; exact hz, fun q' hq' => ?_⟩
    exact q q' _ ⟨S3.F, upd S3.H q' (.lst (List.replicate k.toNat xs).flatten), S3.T⟩ ((g2.trans g3).trans (Gr.newO g3.ok hq')) (by show S3.T ≤ _; omega) ((g2.trans g3).fresh hq') upd_same (g3.ok.freshF hq') (rps_rep (r2.mono g3.ff) _)
/-- list(text) -/
theorem rps_signs {F : Hp} (s : Str) : Rps K F (signsV s) (signs s) := by
  unfold signsV signs
  generalize s.cps.toList = l
  induction l with
  | nil => exact .nil
  | cons c r ih => exact .cons (.str _) ih
theorem eo_listS {s : Str} (h : EvD K p te σ S (.str s)) (hz : s.cps.size ≤ sizeLine) : EvO K p (tCB rListS (tCons te tNil)) σ S (signs s) := fun S1 g Q q => h S1 g _ fun v S2 g2 t2 r => by
  cases r
  exact ⟨s, rfl, hz, fun a ha => q a (signsV s) ⟨S2.F, upd S2.H a (.lst (signsV s)), S2.T⟩ (g2.trans (Gr.newO g2.ok ha)) t2 (g2.fresh ha) upd_same (g2.ok.freshF ha) (rps_signs s)⟩
/-- repr of a list or tuple -/
theorem rc_repr (hr : ∀ F v, Rp K F v d → ∃ a, v = .ref a) (h0 : d.pl = true) (h1 : d.py.showable = true) (h2 : d.py.canLay0 = true) (h3 : d.py.depth ≤ 64) (h4 : d.py.shown.length ≤ sizeLine) : RC K p (rRepr K) [d] (.str d.py.shown) := rc_of (fun _ => .str _) fun S1 vs o rs Q q => by
  cases rs with
  | cons h r =>
    cases r
    obtain ⟨a, rfl⟩ := hr _ _ h
    exact ⟨a, d.py, rfl, (h.mono hide_ex).dp h0, h1, h2, h3, h4, q⟩
theorem rc_reprL (h0 : (D.lst ds).pl = true) (h1 : (D.lst ds).py.showable = true) (h2 : (D.lst ds).py.canLay0 = true) (h3 : (D.lst ds).py.depth ≤ 64) (h4 : (D.lst ds).py.shown.length ≤ sizeLine) : RC K p (rRepr K) [.lst ds] (.str (D.lst ds).py.shown) :=
  rc_repr (fun F v h => by cases h; exact ⟨_, rfl⟩) h0 h1 h2 h3 h4
end
end DL
namespace DL
open PySem PySem.Spec PyProof.Rows L2
open Evl (Ex)
/-! ## promises of defs that may ask repr: no repr is running -/
structure GnOk (P : Program) (w : World) (K : PySem.W.Frag) (mg : Str → Option Value) (base : Heap) (CX : CXT) (k : Nat) (f : Addr) (fd : FuncData) (ps : List Str) (sp : Sp) : Prop where
  len : ∀ vs H Q E, sp vs H Q E → vs.length = ps.length
  go : ∀ (A : Around) (outer : List Env) (s : Shared) (H : Hp) (args : Args) (us : List Value) (vs : List V) (Q : VK) (E : XK), A.guards = some [] → Room k A → Env0 P w K mg base A outer s H → BindsTo s fd args (ps.zip us) → Vals vs us → sp vs H Q E →
    codeAny (model P w) A (.call (.ref f) args) (CR CX outer P w H s Q E) s
section
variable {P : Program} {w : World} {K : PySem.W.Frag} {mg : Str → Option Value} {base : Heap} {CX : CXT} {k j : Nat} {f : Addr} {fd : FuncData} {ps : List Str} {sp : Sp}
theorem GnOk.of (F : FnOk P w K mg base CX k f fd ps sp) : GnOk P w K mg base CX k f fd ps sp := ⟨F.len, fun A outer s H args us vs Q E _ hr e0 hb r h => F.run A outer s H args us vs Q E hr e0 hb r h⟩
/-- under a context whose repr guards are known, such a def is as any other -/
theorem run_gn {X : Cx} {pins : List (Addr × Obj)} {σ : L2.St} {H : Hp} {s : Shared} {Q : VK} {us : List Value} {vs : List V} {E : XK} (G : GnOk X.prog X.w X.K X.mg X.base CX k f fd ps sp) (hG : X.A.guards = some []) (hr : Room k X.A) (hb : Binds X.K fd ps []) (hx : Passes CX X E)
    (I : Inv X pins σ H s) (r : Vals vs us) (h : sp vs H Q E) : wpAny (model X.prog X.w) X.A (call (.ref f) us) (EP X pins σ Q) X.xe s := by
  have hl : us.length = ps.length := by rw [← r.length]; exact G.len _ _ _ _ h
  have hb2 := hb s us I.kIn (by rw [List.append_nil]; exact hl)
  rw [List.append_nil] at hb2
  refine wpAny_call (codeAny_mono (G.go X.A X.stack s H ⟨us, []⟩ us vs Q E hG hr I.env0 hb2 r h) fun r s' hq => ?_)
  cases r with
  | error e => exact hx pins σ H s e s' I hq
  | ok fl =>
    cases fl with
    | ret u => exact I.after hq
    | next => exact False.elim hq
    | brk => exact False.elim hq
    | cont => exact False.elim hq
theorem pe_callG {X : Cx} {E : XK} {x : Str} {p pos : Pos} {e : Expr} {es : List Expr} {t : TA} (G : GnOk X.prog X.w X.K X.mg X.base CX k f fd ps sp) (hG : X.A.guards = some []) (hr : Room k X.A) (hg : Gl X x) (hm : X.mg x = some (.ref f)) (hk : PySem.W.keepIn X.K (.ref f) = true)
    (hb : Binds X.K fd ps []) (hx : Passes CX X E) (ha : PA X (e :: es) t) (hdb : (x == ("__debug__" : Str)) = false := by decide) (he : starEach (e :: es) X.env = (false, eval e X.env) :: starEach es X.env := by rfl) (hpl : (backTo pos (starEach es X.env)).any (·.1) = false := by rfl) :
    PE X (.Call (.Name x p) (e :: es) [] pos) (tCall sp [] E t) := by
  refine ⟨fun pins s σ H Q I h => ?_⟩
  refine wpAny_Call_Name_kw (ld_glob I hg hm ?_ hdb)
  refine PySem.W.callWith_K (h₀ := X.base) I.ok.mod.kin hk (thn (ha.run pos pins s σ H _ I h) fun us s1 hvs => ?_) he hpl
  obtain ⟨vs, H1, I1, r, q⟩ := hvs
  refine ⟨I1.kIn, ?_⟩
  rw [List.append_nil] at q
  exact run_gn G hG hr hb hx I1 r q
/-- a def by its body, the guards known -/
theorem gn_of {name qual : Str} {params : Arguments} {body : List Stmt} {scope : Scope} {dV kV doc pm cdv ct oc : Value} {an od : Option Addr} {osl : Array (Option Value)} {N : List Str}
    (lk : K.lookup f = some ⟨oc, od, .func (PySem.W.fnOf name qual params body scope dV kV doc pm an cdv ct), osl⟩) (hcd : PySem.W.codeIn K cdv qual = true) (S : FnScope N ps scope) (len : ∀ vs H Q E, sp vs H Q E → vs.length = ps.length)
    (hbody : ∀ (A : Around) (outer : List Env) (s : Shared) (H : Hp) (vs : List V) (Q : VK) (E : XK), A.guards = some [] → Room k (A.deeper (envOfC qual scope s.heap.objs.size f cdv)) → sp vs H Q E →
      ∃ t, PSs (cxOf CX P w K mg base N qual scope f cdv A outer s H E) body t ∧ t { nx := fun _ H' => Q .non H', rt := Q } (L2.start N vs) H) :
    GnOk P w K mg base CX (k + 1) f (PySem.W.fnOf name qual params body scope dV kV doc pm an cdv ct) ps sp := by
  refine ⟨len, fun A outer s H args us vs Q E hG hr e0 hb r hsp => ?_⟩
  have nl := len _ _ _ _ hsp
  have kept : ∀ b o, base.get? b = some o → s.heap.get? b = some o := fun b o e => (e0.bs b o e).1
  have bound : ∀ y ∈ ps.zip us, scope.names.lookup y.1 = some .local ∨ (scope.names.lookup y.1 = some .cell ∧ ((cellsFrom (s.heap.objs.size + 1) scope.names []).lookup y.1).isSome = true) := by
    rintro ⟨y, v⟩ hy
    have hp := S.par y (List.of_mem_zip hy).1
    exact hp.imp id fun q => ⟨q, PySem.W.cellsFrom_some _ _ _ (.inl q)⟩
  have KX : K.In s.heap := e0.mod.kin.keeps kept
  refine codeAny_call_function hr.depth (KX _ _ lk) rfl S.co S.gen rfl (PySem.W.codeRec_of KX hcd) (hb _ _ _ _ ?_)
  refine wpAny_newFunctionEnv_cells S.kind bound fun env he s1 x => ?_
  cases he
  refine ⟨(e0.mod.nolimit.keeps kept).keeps x.toInCall.keep, codeAny_func ?_⟩
  obtain ⟨t, ht, hq⟩ := hbody A outer s H vs Q E hG (hr.deeper _) hsp
  have I0 : Inv (cxOf CX P w K mg base N qual scope f cdv A outer s H E) [] (L2.start N vs) H s1 := inv_start S hr.hd e0 nl r x
  refine wpAny_mono (ht.run [] s1 (L2.start N vs) H _ I0 hq) (fun fl s' hs => ?_) fun e s' hs => hs
  cases fl with
  | brk => obtain ⟨_, _, _, no⟩ := hs; exact no.elim
  | cont => obtain ⟨_, _, _, no⟩ := hs; exact no.elim
  | next =>
    obtain ⟨σ', H', J, q⟩ := hs
    exact ⟨.non, H', J.os, J.bare, J.base, J.hok, rfl, q⟩
  | ret u =>
    obtain ⟨v, σ', H', J, rv, q⟩ := hs
    exact ⟨v, H', J.os, J.bare, J.base, J.hok, rv, q⟩
/-- a def of the text that lets no exception out, the guards known -/
theorem gn_ok {x qual : Str} {st : Stmt} {N : List Str} (F : Fun K x qual st f fd) (S : FnScope N ps (defScope st)) (len : ∀ vs H Q E, sp vs H Q E → vs.length = ps.length)
    (hbody : ∀ (cdv : Value) (A : Around) (outer : List Env) (s : Shared) (H : Hp) (vs : List V) (Q : VK) (E : XK), A.guards = some [] → Room k (A.deeper (envOfC qual (defScope st) s.heap.objs.size f cdv)) → sp vs H Q E →
      ∃ t, PSs (cxOf CX0 P w K mg base N qual (defScope st) f cdv A outer s H E).nox (defBody st) t ∧ t { nx := fun _ H' => Q .non H', rt := Q } (L2.start N vs) H) : GnOk P w K mg base CX0 (k + 1) f fd ps sp := by
  obtain ⟨oc, od, kV, doc, pm, an, cdv, ct, osl, rfl, lk, hcd⟩ := F.ex
  refine gn_of lk hcd S len fun A outer s H vs Q E hG hr hsp => ?_
  obtain ⟨t, h, q⟩ := hbody cdv A outer s H vs Q E hG hr hsp
  exact ⟨t, h.nox, q⟩
end
end DL
namespace DL
open PySem PySem.Spec PyProof.Rows L2
/-- the heap at the law's entry: nothing is tracked but the script -/
structure Start (P : Program) (w : World) (K : PySem.W.Frag) (s : Shared) (a : Addr) (ns : List Int) (H : Hp) : Prop where
  only : Only H
  sq : SqL K H a (ns.map V.int)
  hok : HOk P w H s.heap
  one : ∀ b, H b ≠ none → b = a
  kno : H a ≠ none → K.lookup a = none
theorem start_ex {P : Program} {w : World} {K : PySem.W.Frag} {s : Shared} {a : Addr} {vs : List Value} {ns : List Int} (KX : K.In s.heap) (ha : s.heap.get? a = some { cls := .type "list", data := .seq vs.toArray }) (hi : IntsAre vs ns) (hl : ns.length ≤ sizeLine) :
    ∃ H, Start P w K s a ns H := by
  have rv := vals_ints hi
  cases hk : K.lookup a with
  | some o =>
    have e := KX a o hk
    rw [ha] at e
    cases e
    exact ⟨fun _ => none, fun _ => .inl rfl, .inr ⟨_, vs.toArray, _, hk, rfl, rfl, rfl, by rw [List.size_toArray, hi.length]; exact hl, by simpa using rv⟩, (fun b u z => nomatch (show (none : Option HO) = some u from z)), fun b z => absurd rfl z, fun z => absurd rfl z⟩
  | none =>
    refine ⟨fun b => if b = a then some (.frz { cls := .type "list", data := .seq vs.toArray } (.lst (ns.map V.int))) else none, fun b => ?_, .inl (.inr ⟨{ cls := .type "list", data := .seq vs.toArray }, if_pos rfl⟩), fun b u z => ?_, fun b z => ?_, fun _ => hk⟩
    · by_cases hb : b = a
      · exact .inr ⟨_, _, if_pos hb⟩
      · exact .inl (if_neg hb)
    · by_cases hb : b = a
      · cases hb
        have z' := (if_pos rfl).symm.trans z
        cases z'
        exact ⟨ha, by rw [List.length_map]; exact hl, vs, _, rv, ha⟩
      · cases (if_neg hb).symm.trans z
    · by_cases hb : b = a
      · exact hb
      · exact absurd (if_neg hb) z
theorem callG {P : Program} {w : World} {K : PySem.W.Frag} {mg mb : Str → Option Value} {k : Nat} {fa a : Addr} {fd : FuncData} {x : Str} {sp : Sp} {s₁ : Shared} {vs : List Value} {ns : List Int}
    (KX : K.In s₁.heap) (hns : s₁.heap.Ns mainGlobals mg) (hb : s₁.heap.Ns builtinsNs mb) (hbb : ∀ x : Str, x ≠ "__name__" → mb x = bootBuiltins x) (hlim : s₁.heap.NoLimit) (hg : s₁.gens = #[])
    (ha : s₁.heap.get? a = some { cls := .type "list", data := .seq vs.toArray }) (hi : IntsAre vs ns) (hl : ns.length ≤ sizeLine) (hr : Room k callerA)
    (F : ∀ base : Heap, K.In base → base.Ns mainGlobals mg → GnOk P w K mg base CX0 k fa fd [x] sp) (hbind : ∀ (s : Shared) (u : Value), BindsTo s fd ⟨[u], []⟩ [(x, u)])
    (hsp : ∀ H : Hp, Only H → SqL K H a (ns.map V.int) → sp [.ref a] H (fun v _ => v = .bl true) fun _ _ _ => False) :
    codeAny (model P w) callerA (.call (.ref fa) ⟨[.ref a], []⟩) (fun r s' => r = .ok (.ret (.bool true)) ∧ OldK s₁.heap s'.heap ∧ s'.os = s₁.os ∧ AllBare s'.gens) s₁ := by
  obtain ⟨H, Z⟩ := start_ex (P := P) (w := w) KX ha hi hl
  have tr : ∀ {b : Addr} {o : Obj}, s₁.heap.get? b = some o → H b ≠ none → o = { cls := .type "list", data := .seq vs.toArray } := fun {b o} e n => by
    have q := Z.one b n
    subst q
    rw [ha] at e
    cases e
    rfl
  have hide : ∀ {b : Addr} {o : Obj}, s₁.heap.get? b = some o → (H b ≠ none → False) → (hidT s₁.heap H).get? b = some o := fun {b o} e n => hidT_get e (by
    cases q : H b with
    | none => rfl
    | some u => exact (n (by rw [q]; simp)).elim)
  have ns1 : ∀ {b : Addr} {m : Str → Option Value}, s₁.heap.Ns b m → (hidT s₁.heap H).Ns b m := fun {b m} ⟨o, es, ep, e, d, r⟩ => ⟨o, es, ep, hide e (fun n => by rw [tr e n] at d; cases d), d, r⟩
  have kb : K.In (hidT s₁.heap H) := fun b o e => hide (KX b o e) fun n => by
    have q := Z.one b n
    subst q
    rw [Z.kno n] at e
    cases e
  have M : Mod K mg (hidT s₁.heap H) := ⟨kb, ns1 hns, ⟨mb, ns1 hb, hbb⟩, hlim.imp fun mc h => ⟨ns1 h.1, h.2⟩⟩
  have e0 : Env0 P w K mg (hidT s₁.heap H) callerA [] s₁ H := ⟨rfl, M, fun b o e => of_hidT e, Nat.le_of_eq (hidT_size _ _), trivial, (fun b hb => nomatch (show b ∈ ([] : List Addr) from hb)), Z.hok, .of_eq hg⟩
  refine codeAny_mono ((F _ kb (ns1 hns)).go callerA [] s₁ H ⟨[.ref a], []⟩ [.ref a] [.ref a] _ _ rfl hr e0 (hbind s₁ (.ref a)) (.cons rfl .nil) (hsp H Z.only Z.sq)) fun r s' h => ?_
  cases r with
  | error e => exact h.elim
  | ok fl =>
    cases fl with
    | next => exact h.elim
    | brk => exact h.elim
    | cont => exact h.elim
    | ret u =>
      obtain ⟨v, H', os, bare, un, hok', r', q⟩ := h
      cases (show v = .bl true from q)
      cases (show u = Value.bool true from r')
      refine ⟨rfl, OldK.of_keep fun b o e => ?_, os, bare⟩
      rcases Z.only b with z | ⟨ob, xs, z⟩
      · exact un.keep b o e z (fun z => nomatch (show b ∈ ([] : List Addr) from z)) (by simp)
      · have e1 := (Z.hok b _ z).1
        have e2 := (hok' b _ (un.frzs b ob _ z)).1
        rw [e] at e1
        cases e1
        exact e2
/-- the goal that k_head leaves, from the law's promise where the guards are known -/
theorem walk_ofG {l : PySem.W.OpenLaw} {n k : Nat} {q : Program} {loose : List Str} {XP : (Str → Option Value) → Heap → Prop} {YP : World → Heap → Prop} {d : DefRec} {K : Params → PySem.W.Frag} {sp : World → Sp} {x : Str}
    (hn : l.most = some n) (hn2 : n ≤ sizeLine) (hdf : d.params.defaults = []) (hr : Room k callerA) (hY : ∀ (w : World) (h : Heap), YP w h → (K w.params).In h)
    (F : ∀ (w : World) (mg : Str → Option Value) (fa : Addr) (h : Heap), (K w.params).In h → h.Ns mainGlobals mg → mg d.name = some (.ref fa) →
      ∃ fd : FuncData, (∀ (s : Shared) (u : Value), BindsTo s fd ⟨[u], []⟩ [(x, u)]) ∧ ∀ base : Heap, (K w.params).In base → base.Ns mainGlobals mg → GnOk l.prog w (K w.params) mg base CX0 k fa fd [x] (sp w))
    (hsp : ∀ (w : World) (H : Hp) (a : Addr) (ns : List Int), ns.length ≤ n → Only H → SqL (K w.params) H a (ns.map V.int) → sp w [.ref a] H (fun v _ => v = .bl true) fun _ _ _ => False) :
    PySem.W.WalkO q loose XP YP l.row.toRowW d [] (fun f vs => PySem.call f vs) := by
  refine Att.attach_call hn hdf fun w s₀ s₁ mg mb fa o pm cd doc a vs ns G Y ho hd hcd hmg hobj hints hlen hg => ?_
  have KX := hY w _ Y
  obtain ⟨fd, hb, hF⟩ := F w mg fa _ KX G.T.g hmg
  exact callG KX G.T.g G.T.b G.T.builtins G.T.nolimit hg hobj hints (Nat.le_trans hlen hn2) hr hF hb (fun H hO hS => hsp w H a ns hlen hO hS)
end DL
namespace DL
open PySem L2
open Evl (Ex)
/-! ## what the printed terms name -/
section
variable {X : Cx} [LT X.K] {x : Str} {pos : Pos}
theorem pe_gs {s : Str} (hg : Gl X x) (h : ∃ t, X.mg x = some (.str s t)) (hd : (x == ("__debug__" : Str)) = false := by decide) : PE X (.Name x pos) (tC (.str s)) := by
  obtain ⟨t, e⟩ := h
  exact pe_glob hg e ⟨t, rfl⟩ hd
theorem pe_gi {i : Int} (hg : Gl X x) (h : ∃ t, X.mg x = some (.int i t)) (hd : (x == ("__debug__" : Str)) = false := by decide) : PE X (.Name x pos) (tC (.int i)) := by
  obtain ⟨t, e⟩ := h
  exact pe_glob hg e ⟨t, rfl⟩ hd
theorem pe_gr {a : Addr} (hg : Gl X x) (h : X.mg x = some (.ref a)) (hd : (x == ("__debug__" : Str)) = false := by decide) : PE X (.Name x pos) (tC (.ref a)) := pe_glob hg h rfl hd
end
def KTup (K : PySem.W.Frag) (a : Addr) (ss : List Str) : Prop := ∃ (o : Obj) (its : Array Value) (n : Nat), K.lookup a = some o ∧ o.cls = .type "tuple" ∧ o.data = .seq its n ∧ its.size ≤ sizeLine ∧ Vals (ss.map V.str) its.toList
def strsB : List Value → List Str → Bool
  | [], [] => true
  | .str x _ :: r, s :: t => decide (x = s) && strsB r t
  | _, _ => false
def tupStr (o : Obj) (ss : List Str) : Bool := match o with
  | ⟨.type n, _, .seq its _, _⟩ => (n == "tuple") && decide (its.size ≤ 1000) && strsB its.toList ss
  | _ => false
theorem strsB_vals (us : List Value) (ss : List Str) (h : strsB us ss = true) : Vals (ss.map V.str) us := by
  fun_induction strsB us ss with
  | case1 => exact .nil
  | case2 x k r s t ih =>
    rw [Bool.and_eq_true] at h
    have e := of_decide_eq_true h.1
    subst e
    exact .cons ⟨k, rfl⟩ (ih h.2)
  | case3 => cases h
theorem KTup.of {K : PySem.W.Frag} {a : Addr} {o : Obj} {ss : List Str} (l : K.lookup a = some o) (h : tupStr o ss = true) : KTup K a ss := by
  obtain ⟨c, d, dt, sl⟩ := o
  unfold tupStr at h
  split at h
  · rename_i n _ its k _ e
    cases e
    rw [Bool.and_eq_true, Bool.and_eq_true] at h
    have e1 : n = "tuple" := by simpa using h.1.1
    subst e1
    exact ⟨_, its, k, l, rfl, rfl, Nat.le_trans (of_decide_eq_true h.1.2) (by decide), strsB_vals _ _ h.2⟩
  · cases h
theorem KTup.rp {K : PySem.W.Frag} {a : Addr} {ss : List Str} (h : KTup K a ss) : ∀ F, Rp K F (.ref a) (.tup (ss.map D.str)) := fun F => by
  obtain ⟨o, its, n, h1, h2, h3, h4, h5⟩ := h
  exact .tup (.inr ⟨o, its, n, h1, h2, h3, h4, h5⟩) (Rps.strs ss)
theorem hu66_of {A : Around} {k : Nat} (hr : Room k A) : A.units + 66 < cLine := Nat.lt_of_le_of_lt (by omega) hr.un
/-! keywords -/
theorem kbinds_mk {K : PySem.W.Frag} {x qual : Str} {st : Stmt} {f : Addr} {fd : FuncData} {ps ks : List Str} {g : List Value → List Value → List Value} {gV : List V → List V → List V} (F : Fun K x qual st f fd)
    (h : ∀ (kV doc pm : Value) (an : Option Addr) (cdv ct : Value) (us ws : List Value), (g us ws).length = ps.length → bindArgs (PySem.W.fnOf x qual (defArgs st) (defBody st) (defScope st) .none kV doc pm an cdv ct) ⟨us, ks.zip ws⟩ = pure (ps.zip (g us ws)))
    (hr : ∀ {vs : List V} {us : List Value} {zs : List V} {ws : List Value}, Vals vs us → Vals zs ws → Vals (gV vs zs) (g us ws)) : KBinds K fd ps ks g gV := by
  obtain ⟨oc, od, kV, doc, pm, an, cdv, ct, osl, rfl, lk, hcd⟩ := F.ex
  exact ⟨fun s us ws _ hl => .of_eq (h kV doc pm an cdv ct us ws hl), fun r q => hr r q⟩
theorem vals_1 {x : V} {us : List Value} (r : Vals [x] us) : ∃ u, us = [u] ∧ RelV x u := by cases r with | cons h t => cases t; exact ⟨_, rfl, h⟩
def rSplit : V → List V → Hp → VK → Prop := fun x xs H Q => ∃ a b, x = .str a ∧ xs = [.str b] ∧ (b.length == 0) = false ∧ a.length + 2 ≤ sizeLine ∧ rNewStrs (Txt.split a b) H Q
def rJoin (K : PySem.W.Frag) : V → List V → Hp → VK → Prop := fun x xs H Q => ∃ a p, ∃ ys : List Str, x = .str a ∧ xs = [.ref p] ∧ (SqL K H p (ys.map V.str) ∨ SqT K H p (ys.map V.str)) ∧ (ys.map (·.length)).sum + ys.length * a.length ≤ 16777216 ∧ Q (.str (Txt.join a ys)) H
def tTru (K : PySem.W.Frag) (ta : TE) : TT := fun σ H Q => ta σ H fun x H' => ∃ k, TruV K x H' k ∧ Q k H'
/-! a def's reading from its promise -/
section
variable {K : PySem.W.Frag} [LT K] {n N : Nat} {t : TS} {Ns : List Str} {vs : List V} {H : Hp} {Q : VK} {E : XK}
theorem fnP {pre : List D → Prop} {f : List D → D} (h : spP K n pre f vs H Q E) (hN : n ≤ Ns.length)
    (body : ∀ (S0 : Wd) (ds : List D) (σ : L2.St) (D : Ends), ds.length = n → pre ds → Sta K none S0 S0.F Ns.length 0 0 σ S0 (ents 0 ds) → (∀ v S', Gr K none S0 S' → S'.T ≤ S0.T + 0 → Rp K S'.F v (f ds) → D.rt v S'.H) → t D σ S0.H) :
    t { nx := fun _ H' => Q .non H', rt := Q } (L2.start Ns vs) H := by
  obtain ⟨F, ds, ok, r, hn, hp, k⟩ := h
  refine body ⟨F, H, 0⟩ ds _ _ hn hp (sta_start ok r (by rw [r.length, hn]; exact hN) (by show 0 + 0 ≤ 1000000000; decide)) fun v S' g ht rv => ?_
  refine k v S'.F S'.H ⟨g.ff, fun b o q np n => g.hh b o q np n, g.al, g.old, ⟨g.ok.sub, fun a e => (by cases e), g.ok.nt, g.ok.tb⟩⟩ rv
theorem fnP1 {pre : List D → Prop} {f : List D → D} (h : spP K 1 pre f vs H Q E) (hN : 1 ≤ Ns.length)
    (body : ∀ (S0 : Wd) (d : D) (σ : L2.St) (D : Ends), pre [d] → Sta K none S0 S0.F Ns.length 0 0 σ S0 [(0, .dat d)] → (∀ v S', Gr K none S0 S' → S'.T ≤ S0.T + 0 → Rp K S'.F v (f [d]) → D.rt v S'.H) → t D σ S0.H) :
    t { nx := fun _ H' => Q .non H', rt := Q } (L2.start Ns vs) H := fnP h hN fun S0 ds σ D hn hp st k => match ds, hn, hp, st, k with
  | [d], _, hp, st, k => body S0 d σ D hp st k
theorem fnP2 {pre : List D → Prop} {f : List D → D} (h : spP K 2 pre f vs H Q E) (hN : 2 ≤ Ns.length)
    (body : ∀ (S0 : Wd) (d e : D) (σ : L2.St) (D : Ends), pre [d, e] → Sta K none S0 S0.F Ns.length 0 0 σ S0 [(0, .dat d), (1, .dat e)] → (∀ v S', Gr K none S0 S' → S'.T ≤ S0.T + 0 → Rp K S'.F v (f [d, e]) → D.rt v S'.H) → t D σ S0.H) :
    t { nx := fun _ H' => Q .non H', rt := Q } (L2.start Ns vs) H := fnP h hN fun S0 ds σ D hn hp st k => match ds, hn, hp, st, k with
  | [d, e], _, hp, st, k => body S0 d e σ D hp st k
theorem fnP3 {pre : List D → Prop} {f : List D → D} (h : spP K 3 pre f vs H Q E) (hN : 3 ≤ Ns.length)
    (body : ∀ (S0 : Wd) (d e c : D) (σ : L2.St) (D : Ends), pre [d, e, c] → Sta K none S0 S0.F Ns.length 0 0 σ S0 [(0, .dat d), (1, .dat e), (2, .dat c)] → (∀ v S', Gr K none S0 S' → S'.T ≤ S0.T + 0 → Rp K S'.F v (f [d, e, c]) → D.rt v S'.H) → t D σ S0.H) :
    t { nx := fun _ H' => Q .non H', rt := Q } (L2.start Ns vs) H := fnP h hN fun S0 ds σ D hn hp st k => match ds, hn, hp, st, k with
  | [d, e, c], _, hp, st, k => body S0 d e c σ D hp st k
theorem fnN {pre : List D → Prop} {post : List D → D → Prop} (h : spN K n N pre post vs H Q E) (hN : n + 1 ≤ Ns.length)
    (body : ∀ (S0 : Wd) (a : Addr) (ds : List D) (σ : L2.St) (D : Ends), ds.length = n → pre ds → Sta K (some a) S0 S0.F Ns.length N 0 σ S0 ((0, .val (.ref a)) :: ents 1 ds) → (∀ v d S', post ds d → Gr K (some a) S0 S' → S'.T ≤ S0.T + N → Rp K S'.F v d → D.rt v S'.H) → t D σ S0.H) :
    t { nx := fun _ H' => Q .non H', rt := Q } (L2.start Ns vs) H := by
  obtain ⟨S, a, ws, ds, rfl, rfl, ok, r, hn, hp, hb, k⟩ := h
  exact body S a ds _ _ hn hp (sta_startN ok r (by rw [r.length, hn]; exact hN) hb) fun v d S' po g ht rv => k v d S' g ht rv po
end
end DL
namespace DL
open PySem L2
open Evl (Ex)
variable {K : PySem.W.Frag} [LT K] {p : Option Addr} {S S0 S1 S2 S3 : Wd} {B : Hp} {σ σ' : L2.St} {te ta tb tc to : TE} {d d1 d2 d3 : D} {ds es : List D} {v : V} {m M n k : Nat} {l l' : En} {i j : Nat}
theorem ed_chain {r r' : R2} {a b : Bool} (ha : EvH K p ta σ S d1) (hb : EvH K p tb σ S d2) (h1 : RD K p r d1 d2 (.bl a)) (hc : a = true → EvH K p tc σ S d3) (h2 : RD K p r' d2 d3 (.bl b)) : EvD K p (tChain r r' ta tb tc) σ S (.bl (a && b)) := fun S1 g Q q =>
  ha S1 g _ fun x S2 g2 t2 rx => hb S2 (g.trans g2) _ fun y S3 g3 t3 ry => h1 S3 x y g3.ok (rx.mono g3.hid) ry _ fun z S4 g4 t4 rz => by
    cases rz
    refine ⟨a, rfl, ?_⟩
    cases a with
    | false =>
      rw [if_neg Bool.false_ne_true]
      exact q _ S4 ((g2.trans g3).trans g4) (by omega) (.bl _)
    | true =>
      rw [if_pos rfl]
      refine hc rfl S4 (((g.trans g2).trans g3).trans g4) _ fun w S5 g5 t5 rw' => h2 S5 y w g5.ok (ry.mono (g4.hid.trans g5.hid)) rw' Q fun u S6 g6 t6 r6 => ?_
      exact q u S6 ((((g2.trans g3).trans g4).trans g5).trans g6) (by omega) r6
end DL
namespace DL
open PySem L2
open Evl (Ex)
/-! ## what is walked: a list or a tuple, by the value -/
def iRow (K : PySem.W.Frag) (tl : TE) : TI := fun σ H R => tl σ H fun x H1 => (∃ a, x = .ref a ∧ (∃ xs, SqL K H1 a xs) ∧ R (Itl K a) H1) ∨ ∃ a, x = .ref a ∧ (∃ xs, SqT K H1 a xs) ∧ R (Itt K a) H1
section
variable {X : Cx} {tg : Expr}
theorem pi_row {l : Expr} {tl : TE} (hl : PE X l tl) : PI X tg l (iRow X.K tl) := by
  refine ⟨fun pins s σ H R I h => ?_⟩
  refine thn (hl.run pins s σ H _ I h) fun v s1 ⟨x, H1, I1, r1, q1⟩ => ?_
  rcases q1 with ⟨a, e, ⟨xs, hq⟩, q⟩ | ⟨a, e, ⟨xs, hq⟩, q⟩
  · subst e
    cases r1
    obtain ⟨its, rv, p, hz⟩ := I1.list hq
    refine wpAny_pyIter_list p.isList ?_
    refine ⟨s1.heap.objs.size, [s1.heap.objs.size], _, _, H1, rfl, I1.kept (t' := s1.toks) fun b o e => Heap.get?_push_of_some _ e, turn_list a _, ⟨_, Heap.get?_push_size _ rfl, rfl, rfl⟩, fun b hb => ?_, q⟩
    have e : b = s1.heap.objs.size := by simpa using hb
    subst e
    exact I1.fpOk (Nat.le_refl _) (I1.hok.fresh (Nat.le_refl _))
  · subst e
    cases r1
    obtain ⟨its, rv, p, hz⟩ := I1.tuple hq
    refine wpAny_pyIter_tuple (show s1.heap.IsTuple a its.toArray from p) ?_
    refine ⟨s1.heap.objs.size, [s1.heap.objs.size], _, _, H1, rfl, I1.kept (t' := s1.toks) fun b o e => Heap.get?_push_of_some _ e, turn_tuple a _, ⟨_, Heap.get?_push_size _ rfl, rfl, rfl⟩, fun b hb => ?_, q⟩
    have e : b = s1.heap.objs.size := by simpa using hb
    subst e
    exact I1.fpOk (Nat.le_refl _) (I1.hok.fresh (Nat.le_refl _))
/-! ## len of whatever -/
def rLenA (K : PySem.W.Frag) : List V → Hp → VK → Prop := fun xs H Q => rLenU K xs H Q ∨ ∃ a kvs, xs = [V.ref a] ∧ H a = some (.dK kvs) ∧ Q (.int (kvs : List (Key × V)).length) H
theorem call_lenA : CallR X (.builtin "len") (rLenA X.K) := CallR.or call_len call_lenD
/-! ## in, not in: dicts too -/
def rInD : R2 := fun y x H Q => ∃ a o, x = .ref a ∧ DGet H a y o ∧ Q (.bl o.isSome) H
def rNinD : R2 := fun y x H Q => ∃ a o, x = .ref a ∧ DGet H a y o ∧ Q (.bl (!o.isSome)) H
theorem op_inD (hu : X.A.units + 1 < cLine) : OpR X (compareOp .In) rInD := by
  intro pins s σ H y x u v Q I ry rx h
  obtain ⟨a, ov, rfl, g, q⟩ := h
  obtain rfl : v = Value.ref a := rx
  exact d_in hu I g ry fun s3 I3 => ⟨.bl ov.isSome, H, I3, rfl, q⟩
theorem op_ninD (hu : X.A.units + 1 < cLine) : OpR X (compareOp .NotIn) rNinD := by
  intro pins s σ H y x u v Q I ry rx h
  obtain ⟨a, ov, rfl, g, q⟩ := h
  obtain rfl : v = Value.ref a := rx
  exact d_notIn hu I g ry fun s3 I3 => ⟨.bl (!ov.isSome), H, I3, rfl, q⟩
def rInV (K : PySem.W.Frag) : R2 := fun x y H Q => rInU K x y H Q ∨ rInD x y H Q
def rNinV (K : PySem.W.Frag) : R2 := fun x y H Q => rNinU K x y H Q ∨ rNinD x y H Q
theorem op_inV (hu : X.A.units + 1 < cLine) : OpR X (compareOp .In) (rInV X.K) := op_inU.or (op_inD hu)
theorem op_ninV (hu : X.A.units + 1 < cLine) : OpR X (compareOp .NotIn) (rNinV X.K) := op_ninU.or (op_ninD hu)
end
section
variable {K : PySem.W.Frag} [LT K] {p : Option Addr} {S S0 S1 S2 S3 : Wd} {B : Hp} {σ σ' : L2.St} {te ta tb tc to : TE} {d d1 d2 d3 : D} {ds es : List D} {v : V} {m M n k : Nat} {P P1 P2 : D → Prop} {l l' : En} {i j : Nat} {t : Ty} {G : Ends}
theorem es_rowL (h : EvD K p te σ S (.lst ds)) : EvS K p (iRow K te) σ S ds := fun S1 g R q => h S1 g _ fun v S2 g2 t2 r => by
  cases r with
  | @lst a vs _ h1 r2 =>
  have there : ∀ S' : Wd, Ex S2.F S'.F → Ok K p S' → SqL K S'.H a vs := fun S' e o => .of (o.sub _ _ (e _ _ h1))
  refine .inl ⟨a, rfl, ⟨vs, there S2 (fun _ _ q => q) g2.ok⟩, q _ S2 g2 t2 fun S' e o c => ⟨fun hc => ?_, fun hc => ?_⟩⟩
  · obtain ⟨x, hx, rx⟩ := r2.get (List.getElem?_eq_getElem hc)
    refine ⟨⟨vs, x, there S' e o, hx⟩, fun y H' hy => ?_⟩
    obtain ⟨e2, hy⟩ := hy
    have e3 := hy vs (there S' e o)
    rw [hx] at e3
    cases e3
    exact ⟨e2, _, List.getElem?_eq_getElem hc, rx.mono e⟩
  · exact ⟨vs, there S' e o, by rw [r2.length]; omega⟩
theorem es_rowT (h : EvD K p te σ S (.tup ds)) : EvS K p (iRow K te) σ S ds := fun S1 g R q => h S1 g _ fun v S2 g2 t2 r => by
  cases r with
  | @tup a vs _ h1 r2 =>
  have there : ∀ S' : Wd, Ex S2.F S'.F → Ok K p S' → SqT K S'.H a vs := fun S' e o => Evl.ex_t (e.trans o.sub) h1
  refine .inr ⟨a, rfl, ⟨vs, there S2 (fun _ _ q => q) g2.ok⟩, q _ S2 g2 t2 fun S' e o c => ⟨fun hc => ?_, fun hc => ?_⟩⟩
  · obtain ⟨x, hx, rx⟩ := r2.get (List.getElem?_eq_getElem hc)
    refine ⟨⟨vs, x, there S' e o, hx⟩, fun y H' hy => ?_⟩
    obtain ⟨e2, hy⟩ := hy
    have e3 := hy vs (there S' e o)
    rw [hx] at e3
    cases e3
    exact ⟨e2, _, List.getElem?_eq_getElem hc, rx.mono e⟩
  · exact ⟨vs, there S' e o, by rw [r2.length]; omega⟩
/-- the items of a row -/
def rowD : D → Option (List D)
  | .lst ds => some ds
  | .tup ds => some ds
  | _ => none
theorem es_row (h : EvD K p te σ S d) (hd : rowD d = some ds) : EvS K p (iRow K te) σ S ds := by
  cases d with
  | lst xs => cases hd; exact es_rowL h
  | tup xs => cases hd; exact es_rowT h
  | _ => cases hd
theorem RC.inl {r r' : List V → Hp → VK → Prop} (h : RC K p r ds d) : RC K p (fun xs H Q => r xs H Q ∨ r' xs H Q) ds d := fun S1 vs o rs Q q => .inl (h S1 vs o rs Q q)
theorem RC.inr {r r' : List V → Hp → VK → Prop} (h : RC K p r' ds d) : RC K p (fun xs H Q => r xs H Q ∨ r' xs H Q) ds d := fun S1 vs o rs Q q => .inr (h S1 vs o rs Q q)
theorem rl_L (hz : ds.length ≤ sizeLine := by decide) : RC K p (rLenA K) [.lst ds] (.int (ds.length : Int)) := RC.inl (rc_lenL hz)
theorem rl_T : RC K p (rLenA K) [.tup ds] (.int (ds.length : Int)) := RC.inl rc_lenT
theorem rl_S {s : Str} (hz : s.length ≤ sizeLine) : RC K p (rLenA K) [.str s] (.int (s.length : Int)) := RC.inl (rc_lenS hz)
theorem rl_row (hd : rowD d = some ds) (hz : ds.length ≤ sizeLine) : RC K p (rLenA K) [d] (.int (ds.length : Int)) := by
  cases d with
  | lst xs => cases hd; exact rl_L hz
  | tup xs => cases hd; exact rl_T
  | _ => cases hd
theorem rl_D {kds : List (Key × D)} : RC K p (rLenA K) [.dic kds] (.int (kds.length : Int)) := RC.inr (rc_of (fun _ => .int _) fun S1 vs o rs Q q => by
  cases rs with
  | cons h r =>
    cases r
    cases h with
    | @dic a kvs _ h1 h2 h3 =>
      have e : kvs.length = kds.length := by have := congrArg List.length h2; simpa using this
      exact ⟨a, kvs, rfl, hide_ex _ _ h1, by rw [e]; exact q⟩)
theorem ed_len (h : EvH K p te σ S d) (hr : RC K p (rLenA K) [d] d2) : EvD K p (tCB (rLenA K) (tCons te tNil)) σ S d2 := ed_cb (eh_cons h eh_nil) hr
/-! ## membership -/
theorem rd_inT2 (h1 : flatD d1 = true) (h2 : ds.all flatD = true) : RD K p (rInV K) d1 (.tup ds) (.bl (inD d1 ds)) := RD.inl (rd_inUT h1 h2)
theorem rd_inL2 (h1 : flatD d1 = true) (h2 : ds.all flatD = true) : RD K p (rInV K) d1 (.lst ds) (.bl (inD d1 ds)) := RD.inl (rd_inUL h1 h2)
theorem rd_inS2 {c : Nat} {z : Str} : RD K p (rInV K) (.str ⟨#[c]⟩) (.str z) (.bl (decide (c ∈ z.cps.toList))) := RD.inl rd_inUS
theorem rd_ninT2 (h1 : flatD d1 = true) (h2 : ds.all flatD = true) : RD K p (rNinV K) d1 (.tup ds) (.bl (!inD d1 ds)) := RD.inl (rd_ninUT h1 h2)
theorem rd_ninL2 (h1 : flatD d1 = true) (h2 : ds.all flatD = true) : RD K p (rNinV K) d1 (.lst ds) (.bl (!inD d1 ds)) := RD.inl (rd_ninUL h1 h2)
theorem rd_ninS2 {c : Nat} {z : Str} : RD K p (rNinV K) (.str ⟨#[c]⟩) (.str z) (.bl (!decide (c ∈ z.cps.toList))) := RD.inl rd_ninUS
def kD : Key → D
  | .inl i => .int i
  | .inr x => .str x
theorem kD_kV {F : Hp} {x : V} {k : Key} (h : Rp K F x (kD k)) : x = kV k := by
  cases k with
  | inl i => cases h; rfl
  | inr i => cases h; rfl
theorem rp_kV {F : Hp} (k : Key) : Rp K F (kV k) (kD k) := by
  cases k with
  | inl i => exact .int i
  | inr i => exact .str i
theorem valV_some {α : Type} {kvs : List (Key × V)} {kds : List (Key × α)} (h : kvs.map (·.1) = kds.map (·.1)) (k : Key) : (valV kvs k).isSome = (kds.map (·.1)).any (fun z => decide (z = k)) := by
  rw [← h]
  unfold valV
  rw [Option.isSome_map, List.any_map]
  induction kvs generalizing kds with
  | nil => rfl
  | cons q r ih =>
    rw [List.find?_cons, List.any_cons]
    by_cases e : q.1 = k
    · simp [e]
    · simp only [e, decide_false, Function.comp, Bool.false_or]
      cases kds with
      | nil => cases h
      | cons q2 r2 => exact ih (kds := r2) (by simpa using congrArg List.tail h)
theorem rd_inD2 {k : Key} {kds : List (Key × D)} : RD K p (rInV K) (kD k) (.dic kds) (.bl ((kds.map (·.1)).any fun z => decide (z = k))) := RD.inr (rd_of (fun _ => .bl _) fun S1 x y o rx ry Q q => by
  have ex := kD_kV rx
  subst ex
  cases ry with
  | @dic a kvs _ h1 h2 h3 => exact ⟨a, _, rfl, .k (hide_ex _ _ h1), by rw [valV_some h2]; exact q⟩)
theorem rd_ninD2 {k : Key} {kds : List (Key × D)} : RD K p (rNinV K) (kD k) (.dic kds) (.bl (!(kds.map (·.1)).any fun z => decide (z = k))) := RD.inr (rd_of (fun _ => .bl _) fun S1 x y o rx ry Q q => by
  have ex := kD_kV rx
  subst ex
  cases ry with
  | @dic a kvs _ h1 h2 h3 => exact ⟨a, _, rfl, .k (hide_ex _ _ h1), by rw [valV_some h2]; exact q⟩)
/-! ## logic, short -/
theorem et_orT {t u : TT} (h1 : EvT K p t σ S true) : EvT K p (tOr t u) σ S true := EvT.is (et_or (b := true) h1 fun z => by cases z) rfl
theorem et_andF {t u : TT} (h1 : EvT K p t σ S false) : EvT K p (tAnd t u) σ S false := EvT.is (et_and (b := true) h1 fun z => by cases z) rfl
theorem ed_orT (h1 : EvD K p ta σ S (.bl true)) : EvD K p (tOrV ta tb) σ S (.bl true) := EvD.is (ed_or (b := true) h1 fun z => by cases z) rfl
theorem ed_andF (h1 : EvD K p ta σ S (.bl false)) : EvD K p (tAndV ta tb) σ S (.bl false) := EvD.is (ed_and (b := true) h1 fun z => by cases z) rfl
theorem ed_neg {z : Int} (h : EvD K p te σ S (.int z)) : EvD K p (tUn (rU fun i => .int (-i)) te) σ S (.int (-z)) := fun S1 g Q q => h S1 g _ fun v S2 g2 t2 r => by
  cases r
  exact ⟨z, rfl, q _ S2 g2 t2 (.int _)⟩
/-! ## items, slices -/
theorem ixN_get {α : Type} {xs : List α} {i : Int} {x : α} (h : atI xs i = some x) : ∃ c, ixN xs.length i = some c ∧ xs[c]? = some x := by
  unfold atI at h
  exact Option.bind_eq_some_iff.mp h
theorem ed_ix {b : Bool} {z : Int} (ha : EvQ K p ta σ S b ds) (hb : EvD K p tb σ S (.int z)) (hd : atI ds z = some d) : EvD K p (tOp (rIx K) ta tb) σ S d := fun S1 g Q q =>
  ha S1 g _ fun a xs S2 g2 t2 h2 r2 => hb S2 (g.trans g2) _ fun y S3 g3 t3 r3 => by
    cases r3
    obtain ⟨c, h4, h5⟩ := ixN_get hd
    obtain ⟨x, hx, rx⟩ := r2.get h5
    have ex : atI xs z = some x := by unfold atI; rw [r2.length, h4]; exact hx
    cases b with
    | true =>
      rw [if_pos rfl] at h2
      exact .inl ⟨a, xs, z, x, rfl, rfl, .of (g3.hh _ _ h2.1 h2.2), ex, q x S3 (g2.trans g3) (by omega) (rx.mono g3.ff)⟩
    | false =>
      rw [if_neg Bool.false_ne_true] at h2
      exact .inr (.inl ⟨a, xs, z, x, rfl, rfl, Evl.ex_t (g3.ff.trans g3.ok.sub) h2, ex, q x S3 (g2.trans g3) (by omega) (rx.mono g3.ff)⟩)
theorem ed_ixS {z : Int} {s : Str} {c : Nat} (ha : EvD K p ta σ S (.str s)) (hb : EvD K p tb σ S (.int z)) (hz : s.length ≤ sizeLine) (hd : atI s.cps.toList z = some c) : EvD K p (tOp (rIx K) ta tb) σ S (.str ⟨#[c]⟩) := fun S1 g Q q =>
  ha S1 g _ fun a S2 g2 t2 r2 => hb S2 (g.trans g2) _ fun y S3 g3 t3 r3 => by
    cases r2; cases r3
    exact .inr (.inr ⟨s, z, c, rfl, rfl, hz, hd, q _ S3 (g2.trans g3) (by omega) (.str _)⟩)
def cutL {α : Type} (xs : List α) (lo hi : Option Int) : List α := (xs.drop (HT.sIx xs.length 0 lo)).take (HT.sIx xs.length xs.length hi - HT.sIx xs.length 0 lo)
theorem Rps.cut {F : Hp} {vs : List V} (r : Rps K F vs ds) (lo hi : Option Int) : Rps K F (cutV vs lo hi) (cutL ds lo hi) := by
  unfold cutV cutL
  rw [r.length]
  exact (r.drop _).take _
/-- a slice's bound -/
def EvB (K : PySem.W.Frag) [LT K] (p : Option Addr) (tt : TO) (σ : L2.St) (S : Wd) (z : Option Int) : Prop := ∀ S1, Gr K p S S1 → ∀ Q : Option Int → Hp → Prop, (∀ S2, Gr K p S1 S2 → S2.T ≤ S1.T → Q z S2.H) → tt σ S1.H Q
theorem eb_no : EvB K p tNoPart σ S none := fun S1 g Q q => q S1 (Gr.refl g.ok) (Nat.le_refl _)
theorem eb_int {z : Int} (h : EvD K p te σ S (.int z)) : EvB K p (tPart te) σ S (some z) := fun S1 g Q q => h S1 g _ fun v S2 g2 t2 r => by cases r; exact ⟨z, rfl, q S2 g2 t2⟩
theorem eo_sl {tl th : TO} {lo hi : Option Int} (ha : EvQ K p ta σ S true ds) (hl : EvB K p tl σ S lo) (hh : EvB K p th σ S hi) : EvO K p (tSl (rSlL K) ta tl th) σ S (cutL ds lo hi) := fun S1 g Q q =>
  ha S1 g _ fun a xs S2 g2 t2 h2 r2 => hl S2 (g.trans g2) _ fun S3 g3 t3 => hh S3 ((g.trans g2).trans g3) _ fun S4 g4 t4 => by
    rw [if_pos rfl] at h2
    refine ⟨a, xs, rfl, .of (g4.hh _ _ (g3.hh _ _ h2.1 h2.2) h2.2), fun q' hq' => ?_⟩
    exact q q' (cutV xs lo hi) ⟨S4.F, upd S4.H q' (.lst (cutV xs lo hi)), S4.T⟩ (((g2.trans g3).trans g4).trans (Gr.newO g4.ok hq')) (by show S4.T ≤ _; omega) (((g2.trans g3).trans g4).fresh hq') upd_same (g4.ok.freshF hq') (((r2.mono g3.ff).mono g4.ff).cut lo hi)
/-! ## texts split and joined -/
theorem eo_split {a b : Str} (ha : EvD K p ta σ S (.str a)) (hb : EvD K p tb σ S (.str b)) (h1 : (b.length == 0) = false) (h2 : a.length + 2 ≤ sizeLine) : EvO K p (tM1 rSplit ta tb) σ S ((Txt.split a b).map D.str) := fun S1 g Q q =>
  ha S1 g _ fun x S2 g2 t2 r2 => by
    cases r2
    refine ⟨⟨a, rfl⟩, hb S2 (g.trans g2) _ fun y S3 g3 t3 r3 => ?_⟩
    cases r3
    refine ⟨a, b, rfl, rfl, h1, h2, fun q' hq' => ?_⟩
    exact q q' _ ⟨S3.F, upd S3.H q' (.lst ((Txt.split a b).map V.str)), S3.T⟩ ((g2.trans g3).trans (Gr.newO g3.ok hq')) (by show S3.T ≤ _; omega) ((g2.trans g3).fresh hq') upd_same (g3.ok.freshF hq') (Rps.strs _)
theorem ed_join {b : Bool} {a : Str} {ys : List Str} (ha : EvD K p ta σ S (.str a)) (hb : EvQ K p tb σ S b (ys.map D.str)) (hz : (ys.map (·.length)).sum + ys.length * a.length ≤ 16777216) : EvD K p (tM1 (rJoin K) ta tb) σ S (.str (Txt.join a ys)) := fun S1 g Q q =>
  ha S1 g _ fun x S2 g2 t2 r2 => by
    cases r2
    refine ⟨⟨a, rfl⟩, hb S2 (g.trans g2) _ fun y xs S3 g3 t3 h3 r3 => ?_⟩
    have e := r3.strs_inv
    subst e
    refine ⟨a, y, ys, rfl, rfl, ?_, hz, q _ S3 (g2.trans g3) (by omega) (.str _)⟩
    cases b with
    | true => rw [if_pos rfl] at h3; exact .inl (.of h3.1)
    | false => rw [if_neg Bool.false_ne_true] at h3; exact .inr (Evl.ex_t g3.ok.sub h3)
/-! ## draws within arguments and displays -/
def EvAN (K : PySem.W.Frag) [LT K] (p : Option Addr) (ta : TA) (σ : L2.St) (S : Wd) (n : Nat) (P : List D → Prop) : Prop := ∀ S1, Gr K p S S1 → S1.T + n ≤ 1000000000 → ∀ Q : List V → Hp → Prop, (∀ vs ds S2, Gr K p S1 S2 → S2.T ≤ S1.T + n → Rps K S2.F vs ds → P ds → Q vs S2.H) → ta σ S1.H Q
theorem ean_nil : EvAN K p tNil σ S 0 (fun ds => ds = []) := fun S1 g _ Q q => q [] [] S1 (Gr.refl g.ok) (Nat.le_refl _) .nil rfl
theorem ean_cons {tr : TA} {PS : List D → Prop} (h : EvN K p te σ S n P) (hr : EvAN K p tr σ S k PS) : EvAN K p (tCons te tr) σ S (n + k) (fun es => ∃ d ds, es = d :: ds ∧ P d ∧ PS ds) := fun S1 g hb Q q =>
  h S1 g (by omega) _ fun x d S2 g2 t2 rx px => hr S2 (g.trans g2) (by omega) _ fun xs ds S3 g3 t3 rs ps => q (x :: xs) (d :: ds) S3 (g2.trans g3) (by omega) (.cons (rx.mono g3.ff) rs) ⟨d, ds, rfl, px, ps⟩
theorem EvA.toN {tr : TA} (h : EvA K p tr σ S ds) : EvAN K p tr σ S 0 (fun es => es = ds) := fun S1 g _ Q q => h S1 g Q fun vs S2 g2 t r => q vs ds S2 g2 t r rfl
theorem EvAN.le {tr : TA} {PS PS' : List D → Prop} (h : EvAN K p tr σ S n PS) (hn : n ≤ m) (hP : ∀ d, PS d → PS' d) : EvAN K p tr σ S m PS' := fun S1 g b Q q => h S1 g (by omega) Q fun v d S2 g2 t r k => q v d S2 g2 (by omega) r (hP d k)
theorem en_lst {tr : TA} {PS : List D → Prop} (h : EvAN K p tr σ S n PS) (hz : ∀ ds, PS ds → ds.length ≤ sizeLine) : EvN K p (tLst tr) σ S n (fun d => ∃ ds, d = .lst ds ∧ PS ds) := fun S1 g hb Q q =>
  h S1 g hb _ fun xs ds S2 g2 t2 rs ps => ⟨by rw [rs.length]; exact hz ds ps, fun a ha => q (.ref a) (.lst ds) ⟨upd S2.F a (.lst xs), upd S2.H a (.lst xs), S2.T⟩ (g2.trans (Gr.new g2.ok ha)) t2 (.lst upd_same (rs.mono (Ex.new (g2.ok.freshF ha)))) ⟨ds, rfl, ps⟩⟩
theorem en_tup {tr : TA} {PS : List D → Prop} (h : EvAN K p tr σ S n PS) (hz : ∀ ds, PS ds → ds.length ≤ sizeLine) : EvN K p (tTup tr) σ S n (fun d => ∃ ds, d = .tup ds ∧ PS ds) := fun S1 g hb Q q =>
  h S1 g hb _ fun xs ds S2 g2 t2 rs ps => ⟨by rw [rs.length]; exact hz ds ps, fun a ha => q (.ref a) (.tup ds) ⟨upd S2.F a (.tup xs), upd S2.H a (.tup xs), S2.T⟩ (g2.trans (Gr.new g2.ok ha)) t2 (.tup (.of upd_same) (rs.mono (Ex.new (g2.ok.freshF ha)))) ⟨ds, rfl, ps⟩⟩
/-- a draw, then something of data -/
theorem en_op1 {r : R2} {P' : D → Prop} (ha : EvN K p ta σ S n P) (hb : EvD K p tb σ S d2) (hr : ∀ d, P d → ∃ e, P' e ∧ RD K p r d d2 e) : EvN K p (tOp r ta tb) σ S n P' := fun S1 g hB Q q =>
  ha S1 g hB _ fun x d S2 g2 t2 rx px => hb S2 (g.trans g2) _ fun y S3 g3 t3 ry => by
    obtain ⟨e, pe, hr'⟩ := hr d px
    exact hr' S3 x y g3.ok ((rx.mono g3.ff).mono g3.ok.subh) (ry.mono g3.ok.subh) Q fun v S4 g4 t4 r4 => q v e S4 ((g2.trans g3).trans g4) (by omega) r4 pe
theorem en_op2 {r : R2} {P' : D → Prop} (ha : EvD K p ta σ S d1) (hb : EvN K p tb σ S n P) (hr : ∀ d, P d → ∃ e, P' e ∧ RD K p r d1 d e) : EvN K p (tOp r ta tb) σ S n P' := fun S1 g hB Q q =>
  ha S1 g _ fun x S2 g2 t2 rx => hb S2 (g.trans g2) (by omega) _ fun y d S3 g3 t3 ry px => by
    obtain ⟨e, pe, hr'⟩ := hr d px
    exact hr' S3 x y g3.ok ((rx.mono g3.ff).mono g3.ok.subh) (ry.mono g3.ok.subh) Q fun v S4 g4 t4 r4 => q v e S4 ((g2.trans g3).trans g4) (by omega) r4 pe
/-- f(pen, ..) whose arguments draw too -/
theorem en_callA {a : Addr} {nn N : Nat} {pre : List D → Prop} {post : List D → D → Prop} {t : TA} {E : XK} {PS : List D → Prop} (hv : EvV K (some a) te σ S (.ref a)) (h : EvAN K (some a) t σ S k PS) (hn : ∀ ds, PS ds → ds.length = nn ∧ pre ds) : EvN K (some a) (tCall (spN K nn N pre post) [] E (tCons te t)) σ S (k + N) (fun e => ∃ ds, PS ds ∧ post ds e) := fun S1 g hb Q q =>
  hv S1 g _ fun S2 g2 t2 => h S2 (g.trans g2) (by omega) _ fun vs ds S3 g3 t3 rs ps => by
    show spN K nn N pre post ((.ref a :: vs) ++ []) S3.H Q E
    rw [List.append_nil]
    refine ⟨S3, a, vs, ds, rfl, rfl, g3.ok, rs, (hn ds ps).1, (hn ds ps).2, by omega, fun v d S' g' t' r k => ?_⟩
    exact q v d S' ((g2.trans g3).trans g') (by omega) r ⟨ds, ps, k⟩
/-- if not (a draw that is true): goes on -/
theorem s_ifN {tu tw : TS} (h : Sta K p S0 B m M n σ S l) (he : EvN K p te σ S k (fun d => d = .bl true)) (hn : n + k ≤ M) (kk : ∀ S', Sta K p S0 B m M (n + k) σ S' l → tw G σ S'.H) : tIfS (tNot (tB te)) tu tw G σ S.H :=
  he S (Gr.refl h.ok) (by have := h.tb; have := h.tn; omega) _ fun v d S2 g2 t2 r e => by
    subst e
    cases r
    exact ⟨true, rfl, by
      show if (!true) = true then _ else _
      rw [if_neg (by decide)]
      exact kk S2 (h.grow g2 t2)⟩
theorem en_if {t : TT} {b : Bool} (h : EvT K p t σ S b) (h1 : b = true → EvN K p ta σ S n P) (h2 : b = false → EvN K p tb σ S n P) : EvN K p (tIf t ta tb) σ S n P := fun S1 g hB Q q => h S1 g _ fun S2 g2 t2 => by
  cases b with
  | true =>
    rw [if_pos rfl]
    exact h1 rfl S2 (g.trans g2) (by omega) Q fun v d S3 g3 t3 r3 p3 => q v d S3 (g2.trans g3) (by omega) r3 p3
  | false =>
    rw [if_neg Bool.false_ne_true]
    exact h2 rfl S2 (g.trans g2) (by omega) Q fun v d S3 g3 t3 r3 p3 => q v d S3 (g2.trans g3) (by omega) r3 p3
/-! ## x, y = e, f -/
/-- something that a slot may take -/
def EvX (K : PySem.W.Frag) [LT K] (p : Option Addr) (te : TE) (σ : L2.St) (S : Wd) (n : Nat) (P : Ty → Prop) : Prop := ∀ S1, Gr K p S S1 → S1.T + n ≤ 1000000000 → ∀ Q : VK, (∀ v t S2, Gr K p S1 S2 → S2.T ≤ S1.T + n → Ty.is K S1.H S2 v t → P t → Q v S2.H) → te σ S1.H Q
theorem EvD.x (h : EvD K p te σ S d) : EvX K p te σ S 0 (fun t => t = .dat d) := fun S1 g _ Q q => h S1 g Q fun v S2 g2 t r => q v (.dat d) S2 g2 t r rfl
theorem EvO.x (h : EvO K p te σ S ds) : EvX K p te σ S 0 (fun t => t = .own ds) := fun S1 g _ Q q => h S1 g Q fun a vs S2 g2 t h0 h1 h2 r => q (.ref a) (.own ds) S2 g2 t ⟨a, vs, rfl, h1, r, h2, h0⟩ rfl
theorem EvN.x (h : EvN K p te σ S n P) : EvX K p te σ S n (fun t => ∃ d, t = .dat d ∧ P d) := fun S1 g hb Q q => h S1 g hb Q fun v d S2 g2 t r pd => q v (.dat d) S2 g2 t r ⟨d, rfl, pd⟩
/-- what a value may be, seen from an earlier heap -/
theorem Ty.back {H0 H1 : Hp} {t : Ty} (hb : ∀ a, H1 a = none → H0 a = none) (h : Ty.is K H1 S v t) : Ty.is K H0 S v t := by
  cases t with
  | dat _ => exact h
  | val _ => exact h
  | own ds => obtain ⟨a, vs, e, h1, h2, h3, h4⟩ := h; exact ⟨a, vs, e, h1, h2, h3, hb a h4⟩
  | odc ds => obtain ⟨a, vs, e, h1, h2, h3, h5, h4⟩ := h; exact ⟨a, vs, e, h1, h2, h3, h5, hb a h4⟩
theorem Ty.ref_of {H1 : Hp} {t : Ty} (h : Ty.is K H1 S v t) (o : t.ow = true) : ∃ a, v = .ref a ∧ H1 a = none ∧ S.H a ≠ none := by
  cases t with
  | dat _ => cases o
  | val _ => cases o
  | own ds => obtain ⟨a, vs, e, h1, h2, h3, h4⟩ := h; exact ⟨a, e, h4, by rw [h1]; simp⟩
  | odc ds => obtain ⟨a, vs, e, h1, h2, h3, h5, h4⟩ := h; exact ⟨a, e, h4, by rw [h1]; simp⟩
/-- a value made behind the state at S is stored -/
theorem Sta.setX {H1 : Hp} (h : Sta K p S0 B m M n σ S l) (hi : i < m) (ht : Ty.is K H1 S v t) (hb : ∀ a, H1 a = none → S0.H a = none) (hs : ∀ q ∈ del i l, q.2.ow = true → ∀ a, σ[q.1]? = some (some (.ref a)) → H1 a ≠ none) : Sta K p S0 B m M n (σ.set i (some v)) S (put i t l) :=
  h.set hi (Ty.back hb ht) fun o q hq oq e => by
    obtain ⟨a, rfl, h1, _⟩ := Ty.ref_of ht o
    exact hs q hq oq a e h1
theorem Sta.alive (h : Sta K p S0 B m M n σ S l) {q : Nat × Ty} (hq : q ∈ l) (oq : q.2.ow = true) {a : Addr} (e : σ[q.1]? = some (some (.ref a))) : S.H a ≠ none := by
  obtain ⟨v, e2, r⟩ := h.has q hq
  rw [e2] at e
  cases e
  obtain ⟨b, e3, _, h3⟩ := Ty.ref_of r oq
  cases e3
  exact h3
theorem s_par {k2 : Nat} {P1 P2 : Ty → Prop} (h : Sta K p S0 B m M n σ S l) (h1 : EvX K p ta σ S k P1) (h2 : EvX K p tb σ S k2 P2) (hi : i < m) (hj : j < m) (hij : i ≠ j) (hn : n + (k + k2) ≤ M)
    (kk : ∀ t1 t2 σ' S', P1 t1 → P2 t2 → Sta K p S0 B m M (n + (k + k2)) σ' S' (put j t2 (put i t1 l)) → G.nx σ' S'.H) : tPar i j (tCons ta (tCons tb tNil)) G σ S.H :=
  h1 S (Gr.refl h.ok) (by have := h.tb; have := h.tn; omega) _ fun v t1 S2 g2 q2 r1 p1 => h2 S2 g2 (by have := h.tb; have := h.tn; omega) _ fun w t2 S3 g3 q3 r2 p2 => by
    have ht := h.tb
    have hn' := h.tn
    have H3 : Sta K p S0 B m M (n + (k + k2)) σ S3 l := h.grow (g2.trans g3) (by omega)
    refine ⟨v, w, rfl, kk t1 t2 _ S3 p1 p2 ?_⟩
    have f0 : ∀ a, S.H a = none → S0.H a = none := fun a e => h.g.fresh e
    have r1' : Ty.is K S.H S3 v t1 := Ty.grow (H0 := S.H) g2 h.ok g3 r1
    have A := H3.setX (t := t1) hi r1' f0 fun q hq oq a e => h.alive (del_mem hq).1 oq e
    refine A.setX (t := t2) hj r2 (fun a e => f0 a (g2.fresh e)) fun q hq oq a e => ?_
    obtain ⟨hq1, hq2⟩ := del_mem hq
    rcases List.mem_cons.mp hq1 with rfl | hq1
    · rw [List.getElem?_set_self (by rw [h.len]; exact hi)] at e
      cases e
      obtain ⟨b, e3, _, h3⟩ := Ty.ref_of r1 oq
      cases e3
      exact h3
    · have hq1' := del_mem hq1
      rw [List.getElem?_set_ne (Ne.symm hq1'.2)] at e
      exact g2.al a (h.alive hq1'.1 oq e)
/-- i = x.pop(), j = .. -/
theorem s_popPar (h : Sta K p S0 B m M n σ S l) {c : Nat} (hg : get l c = some (.own (ds ++ [d]))) (hi : i < m) (hj : j < m) (hij : i ≠ j) (hb : ∀ S', Sta K p S0 B m M n σ S' (put c (.own ds) l) → EvD K p tb σ S' d2)
    (kk : ∀ σ' S', Sta K p S0 B m M n σ' S' (put j (.dat d2) (put i (.dat d) (put c (.own ds) l))) → G.nx σ' S'.H) : tPar i j (tCons (tBM0 K "list" rPop (tVar c)) (tCons tb tNil)) G σ S.H := by
  obtain ⟨v, e, a, vs, rfl, h1, h2, h3, h4⟩ := h.has _ (get_mem hg)
  have el : vs.length = ds.length + 1 := by rw [h2.length, List.length_append, List.length_singleton]
  obtain ⟨x, ex, rx⟩ := h2.get (i := ds.length) (d := d) (by simp)
  refine ⟨_, e, .inl ⟨rfl, vs, .of h1⟩, a, vs, x, rfl, rfl, h1, by rw [el]; exact ex, ?_⟩
  have hd : Rps K S.F vs.dropLast ds := by
    have q := h2.dropLast
    rw [List.dropLast_concat] at q
    exact q
  have H2 := h.chg hg e h1 hd
  have e2 := hb ⟨S.F, upd S.H a (.lst vs.dropLast), S.T⟩ H2
  refine e2 _ (Gr.refl H2.ok) _ fun w S3 g3 t3 r3 => ⟨x, w, rfl, kk _ S3 ?_⟩
  have H3 := H2.grow0 g3 t3
  exact (H3.set hi (t := .dat d) (rx.mono g3.ff) fun z => by cases z).set hj (t := .dat d2) r3 fun z => by cases z
/-- i, j = x.pop(), the popped a pair -/
theorem s_popPair (h : Sta K p S0 B m M n σ S l) {c : Nat} (hg : get l c = some (.own (ds ++ [.tup [d1, d2]]))) (hi : i < m) (hj : j < m)
    (kk : ∀ σ' S', Sta K p S0 B m M n σ' S' (put j (.dat d2) (put i (.dat d1) (put c (.own ds) l))) → G.nx σ' S'.H) : tAsg (tBM0 K "list" rPop (tVar c)) (gTup K 2 (gCons (gName i) (gCons (gName j) gNil))) G σ S.H := by
  obtain ⟨v, e, a, vs, rfl, h1, h2, h3, h4⟩ := h.has _ (get_mem hg)
  have el : vs.length = ds.length + 1 := by rw [h2.length, List.length_append, List.length_singleton]
  obtain ⟨x, ex, rx⟩ := h2.get (i := ds.length) (d := .tup [d1, d2]) (by simp)
  refine ⟨_, e, .inl ⟨rfl, vs, .of h1⟩, a, vs, x, rfl, rfl, h1, by rw [el]; exact ex, ?_⟩
  have hd : Rps K S.F vs.dropLast ds := by
    have q := h2.dropLast
    rw [List.dropLast_concat] at q
    exact q
  have H2 := h.chg hg e h1 hd
  cases rx with
  | @tup b us _ hb hr =>
    cases hr with
    | @cons x1 _ _ _ r1 hr =>
      cases hr with
      | @cons x2 _ _ _ r2 hr =>
        cases hr
        refine ⟨b, _, rfl, Evl.ex_t H2.ok.sub hb, rfl, ?_⟩
        refine ⟨_, _, rfl, _, _, rfl, rfl, ?_⟩
        exact kk _ ⟨S.F, upd S.H a (.lst vs.dropLast), S.T⟩ ((H2.set hi (t := .dat d1) r1 fun z => by cases z).set hj (t := .dat d2) r2 fun z => by cases z)
end
end DL
namespace DL
open PySem L2
open Evl (Ex)
/-! ## dicts made -/
def putG {α : Type} (kds : List (Key × α)) (k : Key) (d : α) : List (Key × α) :=
  if (kds.any fun kv => decide (kv.1 = k)) = true then kds.map (fun kv => if kv.1 = k then (kv.1, d) else kv) else kds ++ [(k, d)]
theorem any_keys {α β : Type} {kvs : List (Key × α)} {kds : List (Key × β)} (h : kvs.map (·.1) = kds.map (·.1)) (k : Key) : (kvs.any fun kv => decide (kv.1 = k)) = (kds.any fun kv => decide (kv.1 = k)) := by
  have e1 : (kvs.any fun kv => decide (kv.1 = k)) = (kvs.map (·.1)).any fun z => decide (z = k) := by rw [List.any_map]; rfl
  have e2 : (kds.any fun kv => decide (kv.1 = k)) = (kds.map (·.1)).any fun z => decide (z = k) := by rw [List.any_map]; rfl
  rw [e1, e2, h]
theorem rps_upd {K : PySem.W.Frag} [LT K] {F : Hp} {k : Key} {v : V} {d : D} (hv : Rp K F v d) : ∀ {kvs : List (Key × V)} {kds : List (Key × D)}, kvs.map (·.1) = kds.map (·.1) → Rps K F (kvs.map (·.2)) (kds.map (·.2)) →
    (kvs.map fun kv => if kv.1 = k then (kv.1, v) else kv).map (·.1) = (kds.map fun kv => if kv.1 = k then (kv.1, d) else kv).map (·.1) ∧
    Rps K F ((kvs.map fun kv => if kv.1 = k then (kv.1, v) else kv).map (·.2)) ((kds.map fun kv => if kv.1 = k then (kv.1, d) else kv).map (·.2))
  | [], [], _, _ => ⟨rfl, .nil⟩
  | [], _ :: _, h, _ => by cases h
  | _ :: _, [], h, _ => by cases h
  | (k1, v1) :: r, (k2, d2) :: r2, h, q => by
    have h1 : k1 = k2 := (List.cons.inj h).1
    have h2 : r.map (·.1) = r2.map (·.1) := (List.cons.inj h).2
    subst h1
    cases q with
    | cons q1 q2 =>
      obtain ⟨e1, e2⟩ := rps_upd (k := k) hv h2 q2
      by_cases e : k1 = k
      · subst e
        simp only [List.map_cons, if_true]
        exact ⟨by rw [e1], .cons hv e2⟩
      · simp only [List.map_cons, if_neg e]
        exact ⟨by rw [e1], .cons q1 e2⟩
theorem rps_put {K : PySem.W.Frag} [LT K] {F : Hp} {k : Key} {v : V} {d : D} {kvs : List (Key × V)} {kds : List (Key × D)} (hk : kvs.map (·.1) = kds.map (·.1)) (r : Rps K F (kvs.map (·.2)) (kds.map (·.2))) (hv : Rp K F v d) :
    (putK kvs k v).map (·.1) = (putG kds k d).map (·.1) ∧ Rps K F ((putK kvs k v).map (·.2)) ((putG kds k d).map (·.2)) := by
  unfold putK putG
  rw [any_keys hk k]
  split
  · exact rps_upd hv hk r
  · rw [List.map_append, List.map_append, List.map_append, List.map_append, hk]
    exact ⟨rfl, r.append (.cons hv .nil)⟩
theorem putG_len {α : Type} (kds : List (Key × α)) (k : Key) (d : α) : (putG kds k d).length ≤ kds.length + 1 := by
  unfold putG
  split
  · rw [List.length_map]; omega
  · rw [List.length_append]; simp
def mkD (ks : List (Key × D)) : List (Key × D) := ks.foldl (fun acc kd => putG acc kd.1 kd.2) []
theorem mkD_snoc (ks : List (Key × D)) (k : Key) (d : D) : mkD (ks ++ [(k, d)]) = putG (mkD ks) k d := by
  unfold mkD
  rw [List.foldl_append]
  rfl
theorem mkD_len (ks : List (Key × D)) : (mkD ks).length ≤ ks.length := by
  unfold mkD
  have : ∀ (ks acc : List (Key × D)), (ks.foldl (fun acc kd => putG acc kd.1 kd.2) acc).length ≤ acc.length + ks.length := by
    intro ks
    induction ks with
    | nil => intro acc; exact Nat.le_refl _
    | cons q r ih =>
      intro acc
      rw [List.foldl_cons]
      have h1 := ih (putG acc q.1 q.2)
      have h2 := putG_len acc q.1 q.2
      rw [List.length_cons]
      omega
  have h := this ks []
  simpa using h
section
variable {K : PySem.W.Frag} [LT K] {p : Option Addr} {S S0 S1 S2 S3 : Wd} {B : Hp} {σ σ' : L2.St} {te ta tb tc to tk tv : TE} {d d1 d2 d3 : D} {ds es : List D} {v : V} {m M n k : Nat} {P P1 P2 : D → Prop} {l l' : En} {i j : Nat} {t : Ty} {kds : List (Key × D)}
def EvOD (K : PySem.W.Frag) [LT K] (p : Option Addr) (te : TE) (σ : L2.St) (S : Wd) (kds : List (Key × D)) : Prop := ∀ S1, Gr K p S S1 → ∀ Q : VK, (∀ a kvs S2, Gr K p S1 S2 → S2.T ≤ S1.T → S1.H a = none → S2.H a = some (.dK kvs) → S2.F a = none → kvs.map (·.1) = kds.map (·.1) → Rps K S2.F (kvs.map (·.2)) (kds.map (·.2)) → Q (.ref a) S2.H) → te σ S1.H Q
theorem EvOD.ed (h : EvOD K p te σ S kds) : EvD K p te σ S (.dic kds) := fun S1 g Q q => h S1 g Q fun a kvs S2 g2 t h0 h1 h2 hk r =>
  q (.ref a) ⟨upd S2.F a (.dK kvs), S2.H, S2.T⟩ (g2.fix h0 h1 h2 (ok_ne g.ok h0)) t (.dic upd_same hk (r.mono (Ex.new h2)))
theorem EvOD.x (h : EvOD K p te σ S kds) : EvX K p te σ S 0 (fun t => t = .odc kds) := fun S1 g _ Q q => h S1 g Q fun a kvs S2 g2 t h0 h1 h2 hk r => q (.ref a) (.odc kds) S2 g2 t ⟨a, kvs, rfl, h1, hk, r, h2, h0⟩ rfl
theorem eod_new : EvOD K p tDNewK σ S [] := fun S1 g Q q => fun a ha => q a [] ⟨S1.F, upd S1.H a (.dK []), S1.T⟩ (Gr.newO g.ok ha) (Nat.le_refl _) ha upd_same (g.ok.freshF ha) rfl .nil
theorem eod_dc {wi : TI} {tt : TT} {vs : List Nat} {b : DL.D → Bool} {kf : DL.D → Key} {f : DL.D → DL.D} (h : Sta K p S0 B m M n σ S l) (hq : EvS K p wi σ S ds) (hi : i < m) (hv : vs.contains i = true)
    (he : ∀ d ∈ ds, ∀ B' n' σ' S', Sta K p S0 B' m M n' σ' S' (put i (.dat d) (l.filter fun q => !vs.contains q.1)) → EvT K p tt σ' S' (b d) ∧ (b d = true → EvD K p tk σ' S' (kD (kf d)) ∧ EvD K p tv σ' S' (f d))) (hz : ds.length < sizeLine) :
    EvOD K p (tDc wi (gName i) tt tk tv vs) σ S (mkD ((ds.filter b).map fun d => (kf d, f d))) := by
  intro S1 g1 Q q
  have hm : i ∈ vs := by simpa using hv
  refine hq S1 g1 _ fun J S2 g2 t2 src => ?_
  intro A hA
  have hF2 := g2.ok.freshF hA
  have hAp := ok_ne g2.ok hA
  refine ⟨fun c k H' => k = ds.length - c ∧ c ≤ ds.length ∧ ∃ (S' : Wd) (acc : List (Key × V)), S'.H = H' ∧ Gr K p S2 S' ∧ S'.T ≤ S2.T ∧ S'.H A = some (.dK acc) ∧ S'.F A = none ∧ acc.map (·.1) = (mkD (((ds.take c).filter b).map fun d => (kf d, f d))).map (·.1) ∧ Rps K S'.F (acc.map (·.2)) ((mkD (((ds.take c).filter b).map fun d => (kf d, f d))).map (·.2)),
    ⟨ds.length, by simp, Nat.zero_le _, ⟨S2.F, upd S2.H A (.dK []), S2.T⟩, [], rfl, Gr.newO g2.ok hA, Nat.le_refl _, upd_same, hF2, by rw [List.take_zero]; rfl, by rw [List.take_zero]; exact .nil⟩, ?_⟩
  rintro c k H' ⟨rfl, hc, S', acc, rfl, g', t', hA', hF', ka, ra⟩
  obtain ⟨s1, s2⟩ := src S' g'.ff g'.ok c
  by_cases hlt : c < ds.length
  · obtain ⟨go, yl⟩ := s1 hlt
    refine .inr ⟨go, fun H' => ∃ (S' : Wd) (acc : List (Key × V)), S'.H = H' ∧ Gr K p S2 S' ∧ S'.T ≤ S2.T ∧ S'.H A = some (.dK acc) ∧ S'.F A = none ∧ acc.map (·.1) = (mkD (((ds.take (c + 1)).filter b).map fun d => (kf d, f d))).map (·.1) ∧ Rps K S'.F (acc.map (·.2)) ((mkD (((ds.take (c + 1)).filter b).map fun d => (kf d, f d))).map (·.2)), fun H' q => ⟨ds.length - (c + 1), by omega, rfl, hlt, q⟩, fun x H' y => ?_⟩
    obtain ⟨eH, d, hd, rx⟩ := yl x H' y
    subst eH
    have st := (h.any ((g1.trans g2).trans g')).wiped vs
    have st2 := (st.set (t := .dat d) hi rx (fun z => by cases z)).base (fun _ _ q => q)
    obtain ⟨e1, e2⟩ := he d (List.mem_of_getElem? hd) _ _ _ _ st2
    refine ⟨by rw [wipe_set hm, wipe_wipe fun _ z => z], e1 S' (Gr.refl g'.ok) _ fun S3 g3 t3 => ?_⟩
    have tk : (ds.take (c + 1)).filter b = if b d = true then (ds.take c).filter b ++ [d] else (ds.take c).filter b := by
      rw [List.take_succ, hd, List.filter_append]
      simp only [Option.toList, List.filter_cons, List.filter_nil]
      split <;> simp
    cases hb : b d with
    | true =>
      rw [if_pos rfl]
      obtain ⟨ek, ev⟩ := e2 hb
      refine ek S3 g3 _ fun y S4 g4 t4 ry => ev S4 (g3.trans g4) _ fun z S5 g5 t5 rz => ?_
      have g6 := (g3.trans g4).trans g5
      have hA5 := g6.hh _ _ hA' hAp
      have hF5 : S5.F A = none := (g6.old A (by rw [hA']; simp)).trans hF'
      have hl : acc.length ≤ ds.length := by
        have e : acc.length = (mkD (((ds.take c).filter b).map fun d => (kf d, f d))).length := by have := congrArg List.length ka; simpa using this
        rw [e]
        refine Nat.le_trans (mkD_len _) ?_
        rw [List.length_map]
        exact Nat.le_trans (List.length_filter_le _ _) (by rw [List.length_take]; omega)
      have ey := kD_kV ry
      obtain ⟨w1, w2⟩ := rps_put (k := kf d) ka (ra.mono g6.ff) rz
      refine ⟨acc, kf d, ey, hA5, by omega, ⟨S5.F, upd S5.H A (.dK (putK acc (kf d) z)), S5.T⟩, putK acc (kf d) z, rfl, Gr.chg g2.ok (g'.trans g6) hA hF5 hA5 (fun ps z => by cases z) code_ne_dK, by show S5.T ≤ _; omega, upd_same, hF5, ?_, ?_⟩
      · rw [tk, hb, if_pos rfl, List.map_append]
        show _ = (mkD (_ ++ [(kf d, f d)])).map _
        rw [mkD_snoc]
        exact w1
      · rw [tk, hb, if_pos rfl, List.map_append]
        show Rps K S5.F _ ((mkD (_ ++ [(kf d, f d)])).map _)
        rw [mkD_snoc]
        exact w2
    | false =>
      rw [if_neg Bool.false_ne_true]
      have hA3 := g3.hh _ _ hA' hAp
      have hF3 : S3.F A = none := (g3.old A (by rw [hA']; simp)).trans hF'
      refine ⟨S3, acc, rfl, g'.trans g3, by omega, hA3, hF3, ?_, ?_⟩
      · rw [tk, hb, if_neg Bool.false_ne_true]
        exact ka
      · rw [tk, hb, if_neg Bool.false_ne_true]
        exact ra.mono g3.ff
  · have e : c = ds.length := by omega
    subst e
    rw [List.take_length] at ra ka
    exact .inl ⟨s2 rfl, q A acc S' (g2.trans g') (by omega) (g2.fresh hA) hA' hF' ka ra⟩
end
/-! how many keys -/
def addU {α : Type} [DecidableEq α] (acc : List α) (k : α) : List α := if (acc.any fun z => decide (z = k)) = true then acc else acc ++ [k]
theorem putG_keys {α : Type} (kds : List (Key × α)) (k : Key) (d : α) : (putG kds k d).map (·.1) = addU (kds.map (·.1)) k := by
  have e1 : (kds.any fun kv => decide (kv.1 = k)) = (kds.map (·.1)).any fun z => decide (z = k) := by rw [List.any_map]; rfl
  unfold putG addU
  rw [e1]
  split
  · rw [List.map_map]
    apply List.map_congr_left
    intro q _
    show (if q.1 = k then (q.1, d) else q).1 = q.1
    split <;> rfl
  · rw [List.map_append]; rfl
/-- the first of each -/
def uniq {α : Type} [DecidableEq α] (l : List α) : List α := l.foldl addU []
theorem mkD_keys (ks : List (Key × D)) : (mkD ks).map (·.1) = uniq (ks.map (·.1)) := by
  unfold mkD uniq
  have : ∀ (ks acc : List (Key × D)) (a2 : List Key), acc.map (·.1) = a2 → (ks.foldl (fun acc kd => putG acc kd.1 kd.2) acc).map (·.1) = (ks.map (·.1)).foldl addU a2 := by
    intro ks
    induction ks with
    | nil => intro acc a2 h; exact h
    | cons q r ih =>
      intro acc a2 h
      rw [List.foldl_cons, List.map_cons, List.foldl_cons]
      refine ih _ _ ?_
      rw [putG_keys, h]
  exact this ks [] [] rfl
theorem uniq_map {α β : Type} [DecidableEq α] [DecidableEq β] (f : α → β) (hf : ∀ x y, f x = f y → x = y) (l : List α) : uniq (l.map f) = (uniq l).map f := by
  unfold uniq
  have : ∀ (l acc : List α), (l.map f).foldl addU (acc.map f) = (l.foldl addU acc).map f := by
    intro l
    induction l with
    | nil => intro acc; rfl
    | cons q r ih =>
      intro acc
      rw [List.map_cons, List.foldl_cons, List.foldl_cons]
      have e : addU (acc.map f) (f q) = (addU acc q).map f := by
        unfold addU
        have e2 : ((acc.map f).any fun z => decide (z = f q)) = acc.any fun z => decide (z = q) := by
          rw [List.any_map]
          congr 1
          funext z
          show decide (f z = f q) = decide (z = q)
          exact decide_eq_decide.mpr ⟨hf z q, fun h => by rw [h]⟩
        rw [e2]
        split
        · rfl
        · rw [List.map_append]; rfl
      rw [e, ih]
  exact this l []
end DL
/-! ## sum of a list of lists -/
namespace DL.SumL
open PySem PySem.Spec PyProof.Rows
section
variable {prog : Program} {w : World} {A : Around} {R : Result → Shared → Prop} {I : Addr} {fp wr : List Addr} {G : Array GenState → Array GenState → Prop} {n : Nat} {P : Nat → Value → Prop} {St : Nat → Shared → Prop}
def flat (vs : Nat → List Value) : Nat → Nat → List Value
  | _, 0 => []
  | i, k + 1 => vs i ++ flat vs (i + 1) k
theorem loop (W : WalksS prog w A.in1 I fp wr G n P St) (S : Addr) (hSf : S ∉ fp) (b0 : Nat) (hSb : b0 ≤ S) (hw : ∀ b ∈ wr, b0 ≤ b) (hw2 : ∀ b ∈ wr, b < S) (val : Nat → Addr) (hval : ∀ i v, P i v → v = Value.ref (val i)) (hb : ∀ i, i < n → val i < b0) (vs : Nat → List Value) :
    ∀ (k i : Nat) (s : Shared) (T : Addr) (acc : List Value) (c m : Nat), n - i = k → i ≤ n → St i s → s.heap.get? S = some { cls := .type "list", dict := none, data := .seq #[.ref T] c, slots := #[] } →
    s.heap.get? T = some { cls := .type "list", data := .seq acc.toArray m } → T ≠ S → (T < b0 ∨ S < T) → (∀ j, j < n → ∃ m, s.heap.get? (val j) = some { cls := .type "list", data := .seq (vs j).toArray m }) → (acc ++ flat vs i k).length ≤ sizeLine →
    (∀ s' T' m', Moved (S :: wr) G s s' → s'.heap.get? T' = some { cls := .type "list", data := .seq (acc ++ flat vs i k).toArray m' } → ((k = 0 ∧ T' = T) ∨ S < T') → R (.ok (.ret (.ref T'))) s') → codeAny (model prog w) A (.builtin "sum.loop" ⟨[.ref I, .ref S, rawInt 2, rawInt 0], []⟩) R s := by
  have hSw : S ∉ wr := fun h => hSf (W.sub _ h)
  have hsub : ∀ b ∈ wr, b ∈ S :: wr := fun b hb => List.mem_cons_of_mem _ hb
  intro k
  induction k with
  | zero =>
    intro i s T acc c m hk hi hst hS hT hTS hTw hL hz hR
    have hin : i = n := by omega
    subst hin
    refine codeAny_builtin F.entry_sum_loop ?_
    rw [Around.under_plainId F.plain_sum_loop _]
    show wpAny _ A.in1 (seqItems? (.ref S) >>= _) _ _ s
    refine wpAny_bind (wpAny_seqItems hS rfl ?_)
    show wpAny _ A.in1 (tryCatch (pyNext (.ref I)) _ >>= _) _ _ s
    refine wpAny_bind (wpAny_tryCatch (W.done s _ _ hst fun s' hm => ?_))
    have hTw' : T ∉ wr := by
      rcases hTw with h | h
      · exact fun z => absurd (hw _ z) (Nat.not_le_of_lt h)
      · exact fun z => absurd (hw2 _ z) (Nat.not_lt_of_lt h)
    exact wpAny_pure (hR s' T m (hm.mono hsub) (by show _ = some ({ cls := .type "list", data := .seq (acc ++ []).toArray m } : Obj); rw [List.append_nil]; exact hm.heap T _ hTw' hT) (.inl ⟨rfl, rfl⟩))
  | succ k ih =>
    intro i s T acc c m hk hi hst hS hT hTS hTw hL hz hR
    have hlt : i < n := by omega
    have hTw' : T ∉ wr := by
      rcases hTw with h | h
      · exact fun z => absurd (hw _ z) (Nat.not_le_of_lt h)
      · exact fun z => absurd (hw2 _ z) (Nat.not_lt_of_lt h)
    refine codeAny_builtin F.entry_sum_loop ?_
    rw [Around.under_plainId F.plain_sum_loop _]
    show wpAny _ A.in1 (seqItems? (.ref S) >>= _) _ _ s
    refine wpAny_bind (wpAny_seqItems hS rfl ?_)
    show wpAny _ A.in1 (tryCatch (pyNext (.ref I)) _ >>= _) _ _ s
    refine wpAny_bind (wpAny_tryCatch (W.item i s _ _ hlt hst fun v s' hP hst' hm => ?_))
    have ev := hval i v hP
    subst ev
    have old : ∀ b, b < b0 → ∀ o, s.heap.get? b = some o → s'.heap.get? b = some o := fun b hb o e => hm.heap b o (fun z => absurd (hw _ z) (Nat.not_le_of_lt hb)) e
    have hS' := hm.heap S _ hSw hS
    have hT' := hm.heap T _ hTw' hT
    obtain ⟨m2, hv⟩ := hL i hlt
    have hv' := old _ (hb i hlt) _ hv
    have hz1 : acc.length + (vs i).length ≤ sizeLine := by
      have e : (acc ++ flat vs i (k + 1)).length = acc.length + ((vs i).length + (flat vs (i + 1) k).length) := by
        rw [List.length_append]
        show _ + (vs i ++ flat vs (i + 1) k).length = _
        rw [List.length_append]
      omega
    show wpAny _ A.in1 ((holding [Value.ref (val i)] (binaryOp .Add (.ref T) (.ref (val i)))).attempt >>= _) _ _ _
    refine wpAny_bind (wpAny_attempt (wpAny_holding (PySem.P.add_list hT' hv' ?_ (by rw [List.size_toArray, List.size_toArray]; exact hz1))))
    have ea : acc.toArray ++ (vs i).toArray = (acc ++ vs i).toArray := by simp
    rw [ea]
    have hSp := Heap.get?_push_of_some ({ cls := .type "list", data := .seq (acc ++ vs i).toArray } : Obj) hS'
    show wpAny _ A.in1 (updateSeq S (fun _ => #[.ref s'.heap.objs.size]) >>= _) _ _ _
    refine wpAny_bind (wpAny_updateSeq hSp rfl ?_)
    have hS₂ := Heap.get?_update_self (Obj.mapSeq fun _ => #[Value.ref s'.heap.objs.size]) hSp rfl
    refine wpAny_bind (wpAny_letGo ?_)
    have hSz : S < s'.heap.objs.size := Heap.lt_size hS'
    have oth : ∀ b, b ≠ S → ∀ o, s'.heap.get? b = some o → (((s'.heap.push { cls := .type "list", data := .seq (acc ++ vs i).toArray }).update S (Obj.mapSeq fun _ => #[Value.ref s'.heap.objs.size])).update S (Obj.mapSeq fun _ => #[Value.ref s'.heap.objs.size])).get? b = some o := fun b hb o e =>
      (Heap.get?_update_other _ _ (fun h : S = b => hb h.symm)).trans ((Heap.get?_update_other _ _ (fun h : S = b => hb h.symm)).trans (Heap.get?_push_of_some _ e))
    refine wpAny_bind (wpAny_updateSeq hS₂ rfl (wpAny_pure ⟨plainId_quiet F.plain_sum_loop _, ih (i + 1) _ s'.heap.objs.size (acc ++ vs i) _ 0 (by omega) hlt (W.frame _ s' _ _ hst' (by first | exact Nat.le_refl _ | exact Nat.le_succ _ | omega) fun b hb o e => ?_) (Heap.get?_update_self _ hS₂ rfl) ?_ ?_ ?_ (fun j hj => ?_) ?_ fun s'' T'' m'' hm'' hT'' hor => ?_⟩))
    · exact oth b (fun z => hSf (z ▸ hb)) o e
    · have hne : s'.heap.objs.size ≠ S := Nat.ne_of_gt hSz
      exact (Heap.get?_update_other _ _ (fun h : S = _ => hne h.symm)).trans ((Heap.get?_update_other _ _ (fun h : S = _ => hne h.symm)).trans (Heap.get?_push_size _ rfl))
    · exact Nat.ne_of_gt hSz
    · exact .inr hSz
    · obtain ⟨m3, h3⟩ := hL j hj
      exact ⟨m3, oth _ (fun z => by have q := hb j hj; rw [z] at q; exact absurd hSb (Nat.not_le_of_lt q)) _ (old _ (hb j hj) _ h3)⟩
    · rw [List.append_assoc]; exact hz
    · refine hR s'' T'' m'' (Moved.trans W.gtrans ((hm.mono hsub).then_heap (by first | exact Nat.le_refl _ | exact Nat.le_succ _ | omega) fun b o hb e => ?_) hm'') ?_ ?_
      · exact oth b (fun h => hb (by rw [h]; exact List.mem_cons_self)) o e
      · rw [List.append_assoc] at hT''; exact hT''
      · rcases hor with h | h
        · exact .inr (by rw [h.2]; exact hSz)
        · exact .inr h
end
section
variable {prog : Program} {w : World} {A : Around} {E : Value → Shared → Prop} {s : Shared}
theorem args_sum2 (a b : Value) : argsOk "sum" ⟨[a, b], []⟩ := by unfold argsOk; kernel_rfl
theorem call_sum {x : Addr} {b : Addr} {its : Array Value} {m : Nat} {Q : Value → Shared → Prop} (hh : A.handled = none) (hl : s.heap.IsList x its) (val : Nat → Addr) (vs : Nat → List Value) (hval : ∀ i v, its[i]? = some v → v = Value.ref (val i))
    (hL : ∀ j, j < its.size → ∃ m, s.heap.get? (val j) = some { cls := .type "list", data := .seq (vs j).toArray m }) (hb : s.heap.get? b = some { cls := .type "list", data := .seq #[] m }) (hn : 0 < its.size) (hz : (flat vs 0 its.size).length ≤ sizeLine)
    (h : ∀ (h' : Heap) (tk : Nat) (T m' : Nat), (∀ a o, s.heap.get? a = some o → h'.get? a = some o) → s.heap.objs.size ≤ T → h'.get? T = some { cls := .type "list", data := .seq (flat vs 0 its.size).toArray m' } → Q (.ref T) { s with heap := h', toks := tk }) :
    wpAny (model prog w) A (call (.builtin "sum") [.ref x, .ref b]) Q E s := by
  refine call_function_tree F.kind_sum F.plain_sum F.entry_sum (args_sum2 _ _) ?_
  unfold Builtin.«sum»
  simp only [List.length_cons, List.length_nil]
  rw [if_neg (by decide)]
  refine wpAny_bind (wpAny_of_eq (show Builtin.Builtins.bindParams "sum" ["start"] 0 ⟨[.ref b], []⟩ = pure [some (.ref b)] from rfl) ?_)
  have hx : x < s.heap.objs.size := by obtain ⟨o, ho, _⟩ := hl; exact Heap.lt_size ho
  have hbx : b < s.heap.objs.size := Heap.lt_size hb
  refine wpAny_bind (wpAny_pyIter_list hl ?_)
  refine wpAny_bind (wpAny_pure ?_)
  have hb2 : (s.heap.push { cls := .type "list_iterator", data := .fields #[.ref x, .int 0 0] }).get? b = some { cls := .type "list", data := .seq #[] m } := Heap.get?_push_of_some _ hb
  have tb : Shared.TypeIs { s with heap := s.heap.push { cls := .type "list_iterator", data := .fields #[.ref x, .int 0 0] } } (.ref b) "list" := ⟨_, hb2, rfl⟩
  simp only [List.forIn_cons, List.forIn_nil]
  refine wpAny_bind (wpAny_bind (wpAny_bind (wpAny_isInstance (T := "list") (b := false) tb F.sub_list_str ?_)))
  simp only [Bool.false_eq_true, if_false]
  refine wpAny_pure (wpAny_bind (wpAny_bind (wpAny_isInstance (T := "list") (b := false) tb F.sub_list_bytes ?_)))
  simp only [Bool.false_eq_true, if_false]
  refine wpAny_pure (wpAny_bind (wpAny_bind (wpAny_isInstance (T := "list") (b := false) tb F.sub_list_bytearray ?_)))
  simp only [Bool.false_eq_true, if_false]
  refine wpAny_pure (wpAny_pure ?_)
  refine wpAny_bind (wpAny_newObj_type ?_)
  have hs1 : (s.heap.push { cls := .type "list_iterator", data := .fields #[.ref x, .int 0 0] }).objs.size = s.heap.objs.size + 1 := Heap.size_push ..
  have hne : x ≠ s.heap.objs.size := Nat.ne_of_lt hx
  have kp : ∀ a o, s.heap.get? a = some o → ((s.heap.push { cls := .type "list_iterator", data := .fields #[.ref x, .int 0 0] }).push { cls := .type "list", data := .seq [Value.ref b].toArray }).get? a = some o := fun a o e => Heap.get?_push_of_some _ (Heap.get?_push_of_some _ e)
  refine wpAny_pure ⟨plainId_quiet F.plain_sum_loop _, loop ((Walks.list (A := A.in1) hh s.heap.objs.size x hne its).toS) (s.heap.push { cls := .type "list_iterator", data := .fields #[.ref x, .int 0 0] }).objs.size ?_ s.heap.objs.size ?_ ?_ ?_ val (fun i v hv => hval i v hv) (fun i hi => ?_) vs its.size 0 _ b [] _ m (by omega) (Nat.zero_le _) ?_ (Heap.get?_push_size _ rfl) (kp _ _ hb) ?_ (.inl hbx) (fun j hj => ?_) (by rw [List.nil_append]; exact hz) fun s' T' m' hm hT hor => ?_⟩
  · rw [hs1]
    simp only [List.mem_cons, List.not_mem_nil, or_false, not_or]
    exact ⟨Nat.succ_ne_self _, Nat.ne_of_gt (Nat.lt_succ_of_lt hx)⟩
  · rw [hs1]; exact Nat.le_succ _
  · intro q hq
    rw [List.mem_singleton.mp hq]
    exact Nat.le_refl _
  · intro q hq
    rw [List.mem_singleton.mp hq, hs1]
    exact Nat.lt_succ_self _
  · obtain ⟨m, e⟩ := hL i hi
    exact Heap.lt_size e
  · exact ⟨⟨_, Heap.get?_push_of_some _ (Heap.get?_push_size _ rfl), rfl, rfl⟩, (hl.push _).push _⟩
  · rw [hs1]; exact Nat.ne_of_lt (Nat.lt_succ_of_lt hbx)
  · obtain ⟨m, e⟩ := hL j hj
    exact ⟨m, kp _ _ e⟩
  · rw [List.nil_append] at hT
    have hT2 : s.heap.objs.size ≤ T' := by
      rcases hor with z | z
      · omega
      · rw [hs1] at z; exact Nat.le_of_lt (Nat.lt_trans (Nat.lt_succ_self _) z)
    obtain ⟨h', g', d', tk', os'⟩ := s'
    have eg : g' = s.gens := hm.gens
    have ed : d' = s.drawn := hm.drawn
    have eo : os' = s.os := hm.os
    subst eg; subst ed; subst eo
    refine h h' tk' T' m' (fun a o e => hm.heap a o ?_ (kp a o e)) hT2 hT
    have ha := Heap.lt_size e
    rw [hs1]
    simp only [List.mem_cons, List.not_mem_nil, or_false, not_or]
    exact ⟨Nat.ne_of_lt (Nat.lt_succ_of_lt ha), Nat.ne_of_lt ha⟩
end
end DL.SumL
namespace DL
open PySem PySem.Spec PyProof.Rows L2
theorem pick_fun {α β : Type} {P : α → β → Prop} (h : ∀ x, ∃ y, P x y) : ∃ f : α → β, ∀ x, P x (f x) := ⟨fun x => (h x).choose, fun x => (h x).choose_spec⟩
theorem flat_vals {vs : List (List V)} {us : Nat → List Value} : ∀ (k i : Nat), i + k = vs.length → (∀ j xs, vs[j]? = some xs → Vals xs (us j)) → Vals (vs.drop i).flatten (SumL.flat us i k)
  | 0, i, h, _ => by
    rw [List.drop_eq_nil_of_le (by omega)]
    exact .nil
  | k + 1, i, h, hv => by
    have hi : i < vs.length := by omega
    rw [List.drop_eq_getElem_cons hi, List.flatten_cons]
    exact (hv i _ (List.getElem?_eq_getElem hi)).append (flat_vals k (i + 1) (by omega) hv)
/-- sum(a list of lists, []), one list or more -/
def rSumL (K : PySem.W.Frag) : List V → Hp → VK → Prop := fun xs H Q => ∃ (a b : Addr) (ls : List Addr) (vs : List (List V)), xs = [.ref a, .ref b] ∧ SqL K H a (ls.map V.ref) ∧ H b = some (.lst []) ∧ 0 < ls.length ∧ ls.length = vs.length ∧ (∀ (i l : Nat) (ys : List V), ls[i]? = some l → vs[i]? = some ys → H l = some (.lst ys)) ∧ vs.flatten.length ≤ sizeLine ∧
  ∀ p, H p = none → Q (.ref p) (upd H p (.lst vs.flatten))
theorem call_sumL {X : Cx} (hc : X.calm = true) : CallR X (.builtin "sum") (rSumL X.K) := by
  intro pins s σ H xs us Q I r h
  obtain ⟨a, b, ls, vs, rfl, ha, hb, h0, hlen, hl, hz, q⟩ := h
  cases r with
  | cons r1 r =>
    cases r with
    | cons r2 r =>
      cases r
      cases r1
      cases r2
      obtain ⟨its, rv, pl, _⟩ := I.list ha
      obtain ⟨its2, n2, rv2, e2, _⟩ := I.lst hb
      cases rv2
      have hil : its.length = ls.length := by rw [← rv.length, List.length_map]
      have hat : ∀ (i l : Nat), ls[i]? = some l → its[i]? = some (Value.ref l) := fun i l e => by
        obtain ⟨u, hu, ru⟩ := rv.get (i := i) (x := .ref l) (by rw [List.getElem?_map, e]; rfl)
        cases ru
        exact hu
      have hv : ∀ (i : Nat), ∃ us : List Value, ∀ ys, vs[i]? = some ys → ∀ l, ls[i]? = some l → Vals ys us ∧ ∃ m, s.heap.get? l = some { cls := .type "list", data := .seq us.toArray m } := fun i => by
        by_cases hi : i < ls.length
        · obtain ⟨us, m, rr, e, _⟩ := I.lst (hl i ls[i] (vs[i]'(by omega)) (List.getElem?_eq_getElem hi) (List.getElem?_eq_getElem (by omega)))
          refine ⟨us, fun ys hy l hl' => ?_⟩
          rw [List.getElem?_eq_getElem (by omega)] at hy
          rw [List.getElem?_eq_getElem hi] at hl'
          cases hy; cases hl'
          exact ⟨rr, m, e⟩
        · exact ⟨[], fun ys _ l hl' => absurd (List.getElem?_eq_some_iff.mp hl').1 hi⟩
      obtain ⟨uf, huf⟩ := pick_fun hv
      have hfl := flat_vals (vs := vs) (us := uf) vs.length 0 (by omega) (fun j xs e => by
        have hj : j < ls.length := by rw [hlen]; exact (List.getElem?_eq_some_iff.mp e).1
        exact (huf j xs e _ (List.getElem?_eq_getElem hj)).1)
      rw [List.drop_zero] at hfl
      have es : its.toArray.size = vs.length := by rw [List.size_toArray, hil, hlen]
      refine SumL.call_sum (its := its.toArray) (I.ok.hd hc) pl.isList (fun i => ls.getD i 0) uf (fun i v e => ?_) (fun j hj => ?_) e2 (by rw [es]; omega) (by rw [es, ← hfl.length]; exact hz) fun h' tk T m' hk hT hT2 => ?_
      · have e' : its[i]? = some v := by simpa using e
        have hi : i < ls.length := by rw [← hil]; exact (List.getElem?_eq_some_iff.mp e').1
        have e3 := hat i ls[i] (List.getElem?_eq_getElem hi)
        rw [e'] at e3
        cases e3
        rw [List.getD_eq_getElem?_getD, List.getElem?_eq_getElem hi]
        rfl
      · rw [es, ← hlen] at hj
        rw [List.getD_eq_getElem?_getD, List.getElem?_eq_getElem hj]
        exact (huf j _ (List.getElem?_eq_getElem (by omega)) ls[j] (List.getElem?_eq_getElem hj)).2
      · rw [es] at hT2
        have hTn : H T = none := I.hok.fresh hT
        refine ⟨.ref T, upd H T (.lst vs.flatten), I.laid (t' := tk) hk hT ?_, rfl, q T hTn⟩
        exact ⟨hz, _, m', hfl, hT2⟩
end DL
/-! ## set(a list) of numbers, of texts: what it holds; its length; its members in order -/
namespace DL
section
variable {α : Type} [DecidableEq α]
theorem addU_in {l : List α} {x : α} (h : x ∈ l) : addU l x = l := by
  unfold addU
  rw [if_pos (List.any_eq_true.mpr ⟨x, h, decide_eq_true rfl⟩)]
theorem addU_out {l : List α} {x : α} (h : x ∉ l) : addU l x = l ++ [x] := by
  unfold addU
  rw [if_neg]
  intro z
  obtain ⟨y, hy, e⟩ := List.any_eq_true.mp z
  exact h (of_decide_eq_true e ▸ hy)
theorem uniq_snoc (l : List α) (x : α) : uniq (l ++ [x]) = addU (uniq l) x := by
  unfold uniq
  rw [List.foldl_append]
  rfl
theorem mem_addU {l : List α} {x y : α} : y ∈ addU l x ↔ y ∈ l ∨ y = x := by
  by_cases h : x ∈ l
  · rw [addU_in h]
    exact ⟨.inl, fun z => z.elim id fun e => e ▸ h⟩
  · rw [addU_out h, List.mem_append, List.mem_singleton]
theorem mem_uniq {l : List α} {y : α} : y ∈ uniq l ↔ y ∈ l := by
  suffices h : ∀ (r acc : List α), y ∈ r.foldl addU acc ↔ y ∈ acc ∨ y ∈ r from (h l []).trans (by simp)
  intro r
  induction r with
  | nil => intro acc; simp
  | cons x r ih => intro acc; rw [List.foldl_cons, ih, mem_addU, List.mem_cons, or_assoc]
theorem nodup_uniq (l : List α) : (uniq l).Nodup := by
  suffices h : ∀ (r acc : List α), acc.Nodup → (r.foldl addU acc).Nodup from h l [] .nil
  intro r
  induction r with
  | nil => exact fun _ h => h
  | cons x r ih =>
    intro acc h
    refine ih _ ?_
    by_cases z : x ∈ acc
    · rwa [addU_in z]
    · rw [addU_out z]
      exact List.nodup_append.mpr ⟨h, List.nodup_cons.mpr ⟨List.not_mem_nil, .nil⟩, fun a ha b hb e => z (by rw [← List.mem_singleton.mp hb, ← e]; exact ha)⟩
theorem uniq_short (l : List α) : (uniq l).length ≤ l.length := by
  suffices h : ∀ (r acc : List α), (r.foldl addU acc).length ≤ acc.length + r.length from Nat.le_trans (h l []) (by simp)
  intro r
  induction r with
  | nil => exact fun acc => Nat.le_refl _
  | cons x r ih =>
    intro acc
    refine Nat.le_trans (ih _) ?_
    by_cases z : x ∈ acc
    · rw [addU_in z, List.length_cons]; omega
    · rw [addU_out z, List.length_append, List.length_cons, List.length_cons, List.length_nil]; omega
theorem perm_of_len : ∀ {l m : List α}, l.Nodup → (∀ x ∈ l, x ∈ m) → m.length = l.length → m.Perm l
  | [], m, _, _, e => by rw [List.eq_nil_of_length_eq_zero e]
  | x :: l, m, nd, h, e => by
    obtain ⟨n1, n2⟩ := List.nodup_cons.mp nd
    have hx := h x List.mem_cons_self
    refine (List.perm_cons_erase hx).trans (.cons x (perm_of_len n2 (fun y hy => ?_) ?_))
    · exact (List.mem_erase_of_ne (fun z => n1 (by rw [← z]; exact hy))).mpr (h y (List.mem_cons_of_mem _ hy))
    · rw [List.length_erase_of_mem hx, e]
      rfl
end
end DL
namespace DL.SetQ
open PySem PySem.Spec PyProof.Rows L2 PySem.Froz
/-- an empty set -/
abbrev noneIn (w : World) : Obj := { cls := .type "set", dict := none, data := .set #[] 0 (.fresh 0 0 (!w.params.followText "set-order")) }
/-- sets of one kind of values: how they are told, and what an add does -/
structure Kit (P : Program) (w : World) (α : Type) [DecidableEq α] where
  val : α → Tok → Value
  held : Heap → Addr → List α → Prop
  keep : ∀ {h h' : Heap} {a : Addr} {l : List α}, held h a l → (∀ o, h.get? a = some o → h'.get? a = some o) → held h' a l
  new : ∀ {h : Heap} {a : Addr}, h.get? a = some (noneIn w) → held h a []
  size : ∀ {h : Heap} {a : Addr} {l : List α}, held h a l → ∃ o es ep t, h.get? a = some o ∧ o.ExactSet ∧ o.data = .set es ep t ∧ t.fits es.size = true ∧ es.size = l.length
  add : ∀ {A : Around} {E : Value → Shared → Prop} {s : Shared} {a : Addr} {l : List α} {x : α} {t : Tok} {Q : Bool → Shared → Prop}, held s.heap a l → l.length + 1 < scanBound →
    (∀ b h' tk, s.toks ≤ tk → Heap.SameBut a s.heap h' → held h' a (addU l x) → Q b { s with heap := h', toks := tk }) → wpAny (model P w) A (setAdd a (val x t)) Q E s
section
variable {P : Program} {w : World} {α : Type} [DecidableEq α]
/-- the loop that fills a set -/
theorem fill (k : Kit P w α) {A : Around} {R : Result → Shared → Prop} {I : Addr} {fp wr : List Addr} {G : Array GenState → Array GenState → Prop} {n : Nat} {Pv : Nat → Value → Prop} {St : Nat → Shared → Prop} (W : WalksS P w A.in1 I fp wr G n Pv St) {S : Addr} (off : S ∉ fp)
    {xs : List α} (few : xs.length + 1 < scanBound) (len : xs.length = n) (items : ∀ i v, Pv i v → ∃ x t, xs[i]? = some x ∧ v = k.val x t) : ∀ (m i : Nat) (s : Shared), i + m = n → St i s → k.held s.heap S (uniq (xs.take i)) →
      (∀ s', Moved (S :: wr) G s s' → k.held s'.heap S (uniq xs) → R (.ok (.ret .none)) s') → codeAny (model P w) A (.builtin "set.update.loop" ⟨[.ref S, .ref I], []⟩) R s := by
  have noW : S ∉ wr := fun z => off (W.sub S z)
  have wide : ∀ {s s' : Shared}, Moved wr G s s' → Moved (S :: wr) G s s' := fun m => m.mono fun b hb => List.mem_cons_of_mem S hb
  intro m
  induction m with
  | zero =>
    intro i s hi st held fin
    obtain rfl : i = n := hi
    rw [List.take_of_length_le (Nat.le_of_eq len)] at held
    apply codeAny_builtin PyProof.Rows.F.entry_set_update_loop
    rw [Around.under_plainId PyProof.Rows.F.plain_set_update_loop]
    exact wpAny_bind (W.done s _ _ st fun s' mv => wpAny_pure (fin s' (wide mv) (k.keep held fun o e => mv.heap S o noW e)))
  | succ m ih =>
    intro i s hi st held fin
    apply codeAny_builtin PyProof.Rows.F.entry_set_update_loop
    rw [Around.under_plainId PyProof.Rows.F.plain_set_update_loop]
    refine wpAny_bind (W.item i s _ _ (by omega) st fun v s1 pv st1 mv => ?_)
    obtain ⟨x, t, hx, rfl⟩ := items i v pv
    have next : uniq (xs.take (i + 1)) = addU (uniq (xs.take i)) x := by rw [List.take_succ, hx, ← uniq_snoc]; rfl
    have room : (uniq (xs.take i)).length + 1 < scanBound := by
      have a := uniq_short (xs.take i)
      rw [List.length_take] at a
      omega
    refine wpAny_bind (wpAny_holding (k.add (k.keep held fun o e => mv.heap S o noW e) room fun b h' tk le same held2 => ?_))
    have other : ∀ b o, b ≠ S → s1.heap.get? b = some o → h'.get? b = some o := fun b o hb e => (same.2 b hb).trans e
    refine wpAny_pure ⟨plainId_quiet PyProof.Rows.F.plain_set_update_loop _, ih (i + 1) _ (by omega) (W.frame _ s1 _ _ st1 le fun b hb o e => other b o (fun z => off (z ▸ hb)) e) (next ▸ held2) fun s2 mv2 held3 => ?_⟩
    have mv1 : Moved (S :: wr) G s { s1 with heap := h', toks := tk } := (wide mv).then_heap le fun b o hb e => other b o (fun z => hb (z ▸ List.mem_cons_self)) e
    exact fin s2 (.trans W.gtrans mv1 mv2) held3
/-- the call of the class: a new set, then its __init__ -/
theorem called {A : Around} {E : Value → Shared → Prop} {s : Shared} {l : Addr} {Q : Value → Shared → Prop} (isS : Shared.TypeIs { s with heap := s.heap.push (noneIn w) } (.ref s.heap.objs.size) "set")
    (h : wpAny (model P w) A.in1.in1 (Builtin.«set.__init__» ⟨[.ref s.heap.objs.size, .ref l], []⟩) (fun fin s' => match fin with
      | .done f => wants (fun r s2 => r = .none ∧ Q (.ref s.heap.objs.size) s2) E (.ok f) s'
      | .again c' => c'.quiet = true ∧ codeAny (model P w) A.in1 c' (wants (fun r s2 => r = .none ∧ Q (.ref s.heap.objs.size) s2) E) s')
      (fun e s' => wants (fun r s2 => r = .none ∧ Q (.ref s.heap.objs.size) s2) E (.error e) s') { s with heap := s.heap.push (noneIn w) }) : wpAny (model P w) A (call (.type "set") [.ref l]) Q E s := by
  obtain ⟨first, mros, mro⟩ := PySem.F.called_set.mro
  have a1 := PySem.F.called_set.made
  have a2 := PySem.F.called_set.sub
  have a3 := PySem.F.called_set.notType
  have a4 := PySem.F.called_set.canCreate
  have a5 := PySem.F.typeCall_set_1 (.ref l)
  apply wpAny_call
  apply codeAny_of_tree
  change wpAny _ _ (callAny (.type "set") _) _ _ _
  refine wpAny_pure ⟨Code.quiet_builtin _ (by decide +kernel), codeAny_builtin PySem.F.entry_type_call ?_⟩
  rw [Around.under_plain (weight_type_call_type "set" [.ref l] []) rfl]
  repeat (any_goals (first | assumption | wp_step))
  refine codeAny_mono (code_set_led1 (.ref l) (E := E) (Q₁ := fun o s1 => o = .ref s.heap.objs.size ∧ s1 = { s with heap := s.heap.push (noneIn w) }) ⟨rfl, rfl⟩) fun r s1 got => ?_
  match r, got with
  | .ok (.ret o), ⟨e1, e2⟩ =>
    subst e1 e2
    have b1 := PySem.F.called_set.init.lookup
    have b2 := PySem.F.called_set.init.bind (.ref s.heap.objs.size)
    repeat (any_goals (first | assumption | wp_step))
    refine codeAny_mono (codeAny_call_builtin PySem.F.called_set.init.plain PySem.F.entry_set_init (PySem.check_set_init_1 isS h)) fun r2 s2 got2 => ?_
    match r2, got2 with
    | .ok (.ret u), ⟨e3, q⟩ =>
      subst e3
      repeat (any_goals (first | assumption | wp_step))
    | .error e, got2 => exact got2
    | .ok .next, got2 => exact False.elim got2
    | .ok .brk, got2 => exact False.elim got2
    | .ok .cont, got2 => exact False.elim got2
  | .error e, got => exact got
  | .ok .next, got => exact False.elim got
  | .ok .brk, got => exact False.elim got
  | .ok .cont, got => exact False.elim got
/-- set(xs), a list -/
theorem made (k : Kit P w α) {A : Around} {E : Value → Shared → Prop} {s : Shared} {l : Addr} {items : Array Value} {xs : List α} {Q : Value → Shared → Prop} (hh : A.handled = none) (hl : s.heap.IsList l items) (len : xs.length = items.size)
    (hv : ∀ (i : Nat) (v : Value), items[i]? = some v → ∃ (x : α) (t : Tok), xs[i]? = some x ∧ v = k.val x t) (few : xs.length + 1 < scanBound)
    (h : ∀ h' tk, k.held h' s.heap.objs.size (uniq xs) → (∀ b o, s.heap.get? b = some o → h'.get? b = some o) → Q (.ref s.heap.objs.size) { s with heap := h', toks := tk }) : wpAny (model P w) A (call (.type "set") [.ref l]) Q E s := by
  have isS : Shared.TypeIs { s with heap := s.heap.push (noneIn w) } (.ref s.heap.objs.size) "set" := ⟨noneIn w, Heap.get?_push_size _ rfl, rfl⟩
  refine called (l := l) isS ?_
  obtain ⟨ol, ho, hcl, nl, hdl⟩ := hl
  obtain ⟨_, od, _, os⟩ := ol
  dsimp only at hcl hdl
  subst hcl hdl
  have lt : l < s.heap.objs.size := Heap.lt_size ho
  have isL : (s.heap.push (noneIn w)).IsList l items := ⟨_, Heap.get?_push_of_some _ ho, rfl, nl, rfl⟩
  have hS : (s.heap.push (noneIn w)).get? s.heap.objs.size = some (noneIn w) := Heap.get?_push_size _ rfl
  have hol := Heap.get?_push_of_some (noneIn w) ho
  have n1 := PySem.F.sub_list_set
  have n2 := PySem.F.sub_list_frozenset
  have n3 : (Value.type "list" == Value.type "dict") = false := by decide
  unfold Builtin.«set.__init__» noKeywords Builtin.Frozenset.updateFrom
  generalize hI : pyIter = it
  wp_walk
  subst hI
  refine wpAny_pyIter_list isL (wpAny_bind (wpAny_runValue ?_))
  have sz : (s.heap.push (noneIn w)).objs.size = s.heap.objs.size + 1 := Heap.size_push _ _
  have W := (Walks.list (prog := P) (w := w) (A := A.in1.in1.in1) hh (s.heap.push (noneIn w)).objs.size l (by rw [sz]; exact Nat.ne_of_lt (Nat.lt_succ_of_lt lt)) items).toS
  refine fill k W (S := s.heap.objs.size) (by
    rw [sz, List.mem_cons, List.mem_singleton]
    exact fun z => z.elim (Nat.ne_of_lt (Nat.lt_succ_self _)) (Nat.ne_of_gt lt)) few len hv items.size 0 _ (Nat.zero_add _) ⟨⟨_, Heap.get?_push_size _ rfl, rfl, rfl⟩, isL.push _⟩ (k.new (Heap.get?_push_of_some _ hS)) fun s' mv held => ?_
  obtain ⟨h', g', d', tk, os'⟩ := s'
  obtain rfl : g' = s.gens := mv.gens
  obtain rfl : d' = s.drawn := mv.drawn
  obtain rfl : os' = s.os := mv.os
  refine wpAny_pure (wpAny_pure ⟨rfl, h h' tk held fun b o e => mv.heap b o ?_ (Heap.get?_push_of_some _ (Heap.get?_push_of_some _ e))⟩)
  have small : b < s.heap.objs.size := Heap.lt_size e
  rw [sz, List.mem_cons, List.mem_singleton]
  exact fun z => z.elim (Nat.ne_of_lt small) (Nat.ne_of_lt (Nat.lt_succ_of_lt small))
/-! ### texts -/
theorem tail_ris (ep : Nat) (es : Array (Int × Value)) (d : Bool) {t : SetTable} (r : Ris t.place.toList) : Ris (tailTx ep es t d).2.2.place.toList ∧ (tailTx ep es t d).2.2.led = t.led := by
  unfold tailTx
  split
  · exact ⟨relayAll_ris _ _ _, relayAll_led _ _ _⟩
  · exact ⟨r, rfl⟩
theorem grown_ris (h : Int) (v : Value) (D : SD) (r : Ris D.2.2.place.toList) : Ris (addTx h v D).2.2.place.toList ∧ (addTx h v D).2.2.led = D.2.2.led := by
  have a := layNew_ris D.2.2 D.1 h v r
  have b := layNew_led D.2.2 D.1 h v
  have c : ∀ t : SetTable, (if t.plain = true then { t with plain := false } else t).place = t.place ∧ (if t.plain = true then { t with plain := false } else t).led = t.led := fun t => by split <;> exact ⟨rfl, rfl⟩
  have d := tail_ris D.2.1 (layNew D.2.2 D.1 h v).1 (layNew D.2.2 D.1 h v).2.2.1 (t := if (layNew D.2.2 D.1 h v).2.1.plain = true then { (layNew D.2.2 D.1 h v).2.1 with plain := false } else (layNew D.2.2 D.1 h v).2.1) (by rw [(c _).1]; exact a)
  exact ⟨d.1, d.2.trans ((c _).2.trans b)⟩
def heldS (P : Program) (w : World) (h : Heap) (a : Addr) (l : List Str) : Prop := ∃ D : SD, h.get? a = some (sObj "set" D) ∧ TxOk P w D l ∧ Ris D.2.2.place.toList ∧ (w.params.followText "set-order" = true ∨ D.2.2.led = true)
/-- a text that is there already: nothing changes -/
theorem again_in {A : Around} {E : Value → Shared → Prop} {s : Shared} {a : Addr} {D : SD} {l : List Str} {k : Str} {u : Tok} {Q : Bool → Shared → Prop} (ho : s.heap.get? a = some (sObj "set" D)) (F : TxOk P w D l) (hk : k ∈ l) (few : l.length < scanBound) (h : ∀ b, Q b s) :
    wpAny (model P w) A (setAddHashed a (.str k u) (hashStr w k)) Q E s := by
  have sz : D.1.size < scanBound := by rw [F.sz]; exact few
  obtain ⟨j, hj⟩ : ∃ j, List.findIdx? (fun e => (strKind P w).is k e.2) D.1.toList = some j := by
    cases q : List.findIdx? (fun e => (strKind P w).is k e.2) D.1.toList with
    | some j => exact ⟨j, rfl⟩
    | none =>
      obtain ⟨e, he, hs⟩ := (F.mem k).mp hk
      rw [List.findIdx?_eq_none_iff.mp q e he] at hs
      cases hs
  unfold setAddHashed setAddHashedIn
  apply wpAny_holding
  refine wpAny_bind (wpAny_setState_of ho rfl F.fit ?_)
  dsimp only
  rw [byScan_of rfl sz F.el, if_pos rfl]
  unfold setAddByScan
  refine wpAny_bind (wpAny_bind (wpAny_rule (wpAny_bind (wpAny_setScan_of (knd := strKind P w) (k := k) (is_str k u) ho rfl F.fit F.el ?_))))
  rw [hj]
  exact wpAny_pure (wpAny_pure (h _))
def kitS (P : Program) (w : World) : Kit P w Str where
  val := .str
  held := heldS P w
  keep := fun ⟨D, e, r⟩ k => ⟨D, k _ e, r⟩
  new := fun e => ⟨(#[], 0, .fresh 0 0 (!w.params.followText "set-order")), e, TxOk.nil (by rfl), .nil, by
    show _ ∨ (!w.params.followText "set-order") = true
    cases q : w.params.followText "set-order"
    · exact .inr rfl
    · exact .inl rfl⟩
  size := fun ⟨D, e, F, _⟩ => ⟨_, _, _, _, e, ⟨rfl, rfl, rfl⟩, rfl, F.fit, F.sz⟩
  add := fun {A E s a l x t Q} ⟨D, e, F, r, led⟩ few h => by
    unfold setAdd
    apply wpAny_holding
    refine wpAny_bind ((strKind P w).pyHash (k := x) (is_str x t) ?_)
    by_cases hx : x ∈ l
    · exact again_in (s := { s with toks := s.toks + 1 }) e F hx (Nat.lt_of_succ_lt few) fun b => h b s.heap (s.toks + 1) (Nat.le_succ _) (.refl a s.heap) ⟨D, e, by rw [addU_in hx]; exact F, r, led⟩
    · refine add_x (s := { s with toks := s.toks + 1 }) e F hx few (h true _ (s.toks + 1) (Nat.le_succ _) (Heap.SameBut.update _ _ _) ⟨_, get_upd _ e rfl, ?_, (grown_ris _ _ D r).1, led.imp id fun z => (grown_ris _ _ D r).2.trans z⟩)
      have G := add_ok (w := w) t F (k := x)
      rw [addU_out hx]
      exact ⟨G.el, fun y => (by rw [List.mem_append, List.mem_singleton, or_comm, ← List.mem_cons]; exact G.mem y), G.sz.trans (by rw [List.length_append, List.length_cons]; rfl), G.fit⟩
/-! ### numbers -/
def kitI (P : Program) (w : World) : Kit P w Int where
  val := .int
  held := fun h a l => SetR w h a (fun j => decide (j ∈ l)) l.length
  keep := fun R k => R.at k
  new := fun {h a} e => by
    refine ⟨_, #[], 0, .fresh 0 0 (!w.params.followText "set-order"), e, ⟨rfl, rfl, rfl⟩, rfl, fun e he => (by simp at he), .nil, fun j => (by simp), (by decide), (by rfl), rfl, .nil, ?_⟩
    show _ ∨ (!w.params.followText "set-order") = true
    cases q : w.params.followText "set-order"
    · exact .inr rfl
    · exact .inl rfl
  size := fun ⟨o, es, ep, t, ho, hex, hd, _, _, _, _, hf, hn, _⟩ => ⟨o, es, ep, t, ho, hex, hd, hf, hn⟩
  add := fun {A E s a l x t Q} R few h => by
    unfold setAdd
    apply wpAny_holding
    refine wpAny_bind ((intKind P w).pyHash (k := x) (intKind_is P w x t) ?_)
    refine setR_add_hashed (s := { s with toks := s.toks + 1 }) R few fun h' sb r => h _ h' (s.toks + 1) (Nat.le_succ _) sb ?_
    by_cases hx : x ∈ l
    · rw [addU_in hx]
      rw [if_pos (decide_eq_true hx)] at r
      exact r.congr fun j => by by_cases e : j = x <;> simp [e, hx]
    · rw [addU_out hx, List.length_append]
      rw [if_neg (by simp [hx])] at r
      exact r.congr fun j => by simp
end
/-! ### in the hand layer -/
section
variable {X : Cx} {pins : List (Addr × Obj)} {σ : L2.St} {s : Shared} {H : Hp}
/-- how a kit's values are told by V -/
structure Told (α : Type) [DecidableEq α] (k : Kit X.prog X.w α) (v : α → V) : Prop where
  to : ∀ x u, RelV (v x) u → ∃ t, u = k.val x t
theorem toldS : Told (X := X) Str (kitS X.prog X.w) V.str := ⟨fun _ _ r => r⟩
theorem toldI : Told (X := X) Int (kitI X.prog X.w) V.int := ⟨fun _ _ r => r⟩
theorem made_in {α : Type} [DecidableEq α] {k : Kit X.prog X.w α} {v : α → V} (T : Told α k v) (I : Inv X pins σ H s) (hc : X.calm = true) {l : Addr} {xs : List α} (hq : SqL X.K H l (xs.map v)) (few : xs.length ≤ 4000) {Q : Value → Shared → Prop} {E : Value → Shared → Prop}
    (h : ∀ h' tk, k.held h' s.heap.objs.size (uniq xs) → (∀ b o, s.heap.get? b = some o → h'.get? b = some o) → Q (.ref s.heap.objs.size) { s with heap := h', toks := tk }) : wpAny (model X.prog X.w) X.A (call (.type "set") [.ref l]) Q E s := by
  obtain ⟨its, r, pl, hz⟩ := I.list hq
  have len : xs.length = its.toArray.size := by rw [List.size_toArray, ← r.length, List.length_map]
  refine made k (I.ok.hd hc) pl.isList len (fun i u hu => ?_) (by unfold scanBound; omega) h
  have hi : i < xs.length := by
    rw [len]
    exact (Array.getElem?_eq_some_iff.mp hu).1
  obtain ⟨u2, e2, rv⟩ := r.get (i := i) (x := v xs[i]) (by rw [List.getElem?_map, List.getElem?_eq_getElem hi]; rfl)
  obtain rfl : u2 = u := Option.some.inj (e2.symm.trans (by simpa using hu))
  obtain ⟨t, e⟩ := T.to _ _ rv
  exact ⟨xs[i], t, List.getElem?_eq_getElem hi, e⟩
/-- a set that is tracked -/
def setO {P : Program} {w : World} {α : Type} [DecidableEq α] (k : Kit P w α) (a : Addr) (l : List α) : HO := .ext fun h => k.held h a l
theorem setO_ok {P : Program} {w : World} {α : Type} [DecidableEq α] (k : Kit P w α) {H : Hp} {h : Heap} {a : Addr} {l : List α} (x : k.held h a l) : ObjOk P w H h a (setO k a l) :=
  let ⟨o, _, _, _, e, _⟩ := k.size x
  ⟨x, ⟨o, e⟩, fun _ _ y st => k.keep y st⟩
def rSet {P : Program} {w : World} {α : Type} [DecidableEq α] (K : PySem.W.Frag) (k : Kit P w α) (v : α → V) : List V → Hp → VK → Prop := fun xs H Q => ∃ l ys, xs = [.ref l] ∧ SqL K H l (ys.map v) ∧ ys.length ≤ 4000 ∧ ∀ p, H p = none → Q (.ref p) (upd H p (setO k p (uniq ys)))
theorem cr_set {α : Type} [DecidableEq α] {k : Kit X.prog X.w α} {v : α → V} (T : Told α k v) (hc : X.calm = true) : CallR X (.type "set") (rSet X.K k v) := by
  rintro pins s σ H vs us Q I r ⟨l, ys, rfl, hq, few, q⟩
  rw [Vals.ref1 r]
  exact made_in T I hc hq few fun h' tk held kp => ⟨.ref _, _, I.laid kp (Nat.le_refl _) (setO_ok k held), rfl, q _ (I.hok.fresh (Nat.le_refl _))⟩
def rLen {P : Program} {w : World} {α : Type} [DecidableEq α] (k : Kit P w α) : List V → Hp → VK → Prop := fun xs H Q => ∃ a l, xs = [.ref a] ∧ H a = some (setO k a l) ∧ l.length ≤ 4000 ∧ Q (.int l.length) H
theorem cr_len {α : Type} [DecidableEq α] (k : Kit X.prog X.w α) : CallR X (.builtin "len") (rLen k) := by
  rintro pins s σ H vs us Q I r ⟨a, l, rfl, ha, few, q⟩
  rw [Vals.ref1 r]
  obtain ⟨o, es, ep, t, e, ex, d, f, n⟩ := k.size (I.hok a _ ha).1
  exact call_len_set e ex d f (by omega) ⟨.int l.length, H, I.tok _, ⟨_, by rw [n]⟩, q⟩
end
end DL.SetQ
namespace DL
open PySem PySem.Spec PyProof.Rows L2
/-- len(set(xs)), xs a list of texts -/
def tLenSetT (P : Program) (w : World) (K : PySem.W.Frag) (ta : TE) : TE := tCB (SetQ.rLen (SetQ.kitS P w)) (tCons (tCB (SetQ.rSet K (SetQ.kitS P w) V.str) (tCons ta tNil)) tNil)
theorem pe_lenSetT {X : Cx} {a : Expr} {ta : TE} {p p2 q pos : Pos} (hc : X.calm = true) (hg : Gl X "len") (hm : X.mg "len" = none) (hg2 : Gl X "set") (hm2 : X.mg "set" = none) (ha : PE X a ta)
    (na : starEach [a] X.env = (false, eval a X.env) :: starEach [] X.env := by rfl) : PE X (.Call (.Name "len" p) [.Call (.Name "set" p2) [a] [] q] [] pos) (tLenSetT X.prog X.w X.K ta) :=
  pe_callB (SetQ.cr_len (SetQ.kitS X.prog X.w)) hg hm boot_len (pa_cons (pe_callTy (SetQ.cr_set SetQ.toldS hc) hg2 hm2 boot_set (pa_cons ha pa_nil (hs := na)) (he := na)) pa_nil)
end DL
namespace DL
open PySem L2
open Evl (Ex)
section
variable {K : PySem.W.Frag} [LT K] {p : Option Addr} {S : Wd} {σ : L2.St} {te ta tb : TE} {d : D} {ds es : List D}
/-- set(xs): what is asked of it behind the making -/
theorem ev_set {P : Program} {w : World} {α : Type} [DecidableEq α] {kt : SetQ.Kit P w α} {f : α → V} {d : α → D} {xs : List α} {r : List V → Hp → VK → Prop} (inv : ∀ {F : Hp} {vs : List V}, Rps K F vs (xs.map d) → vs = xs.map f) (h : EvQ K p ta σ S true (xs.map d)) (hz : xs.length ≤ 4000) (S1 : Wd) (g : Gr K p S S1)
    (Q : VK) (q : ∀ a S2, Gr K p S1 S2 → S2.T ≤ S1.T → S2.H a = some (SetQ.setO kt a (uniq xs)) → S2.F a = none → S1.H a = none → r [.ref a] S2.H Q) : tCB r (tCons (tCB (SetQ.rSet K kt f) (tCons ta tNil)) tNil) σ S1.H Q := h S1 g _ fun a vs S2 g2 t2 h2 r2 => by
  have e := inv r2
  subst e
  rw [if_pos rfl] at h2
  exact ⟨a, xs, rfl, .of h2.1, hz, fun z hz => q z ⟨S2.F, upd S2.H z _, S2.T⟩ (g2.trans (Gr.newO g2.ok hz (fun ps => by unfold SetQ.setO; intro z; cases z))) t2 upd_same (g2.ok.freshF hz) (g2.fresh hz)⟩
theorem ed_lenSet {P : Program} {w : World} {xs : List Str} (h : EvQ K p ta σ S true (xs.map D.str)) (hz : xs.length ≤ 4000) : EvD K p (tLenSetT P w K ta) σ S (.int (uniq xs).length) := fun S1 g Q q =>
  ev_set (fun r => r.strs_inv) h hz S1 g Q fun a S2 g2 t2 ha _ _ => ⟨a, _, rfl, ha, Nat.le_trans (uniq_short xs) hz, q _ S2 g2 t2 (.int _)⟩
/-- sum of lists that last -/
theorem rps_flat {F : Hp} : ∀ {vs : List (List V)} {dss : List (List D)}, vs.length = dss.length → (∀ (i : Nat) (xs : List V) (ds : List D), vs[i]? = some xs → dss[i]? = some ds → Rps K F xs ds) → Rps K F vs.flatten dss.flatten
  | [], [], _, _ => .nil
  | [], _ :: _, h, _ => by cases h
  | _ :: _, [], h, _ => by cases h
  | x :: vs, d :: dss, h, r => by
    rw [List.flatten_cons, List.flatten_cons]
    exact (r 0 x d rfl rfl).append (rps_flat (by simpa using h) fun i xs ds e1 e2 => r (i + 1) xs ds (by simpa using e1) (by simpa using e2))
theorem eo_sum {dss : List (List D)} (h : EvD K p ta σ S (.lst (dss.map D.lst))) (hn : 0 < dss.length) (hz : dss.flatten.length ≤ sizeLine) : EvO K p (tCB (rSumL K) (tCons ta (tCons (tLst tNil) tNil))) σ S dss.flatten := fun S1 g Q q =>
  h S1 g _ fun v S2 g2 t2 r => ⟨by show 0 ≤ sizeLine; exact Nat.zero_le _, fun b hb => by
    cases r with
    | @lst a xs _ h1 r2 =>
      have g3 : Gr K p S2 ⟨S2.F, upd S2.H b (.lst []), S2.T⟩ := Gr.newO g2.ok hb
      have hx : ∀ (i : Nat) (ds : List D), dss[i]? = some ds → ∃ l ys, xs[i]? = some (.ref l) ∧ S2.F l = some (.lst ys) ∧ Rps K S2.F ys ds := fun i ds e => by
        obtain ⟨x, hx, rx⟩ := r2.get (i := i) (d := .lst ds) (by rw [List.getElem?_map, e]; rfl)
        cases rx with
        | @lst l ys _ h3 r3 => exact ⟨l, ys, hx, h3, r3⟩
      have hx2 : ∀ i : Nat, ∃ ly : Addr × List V, ∀ ds, dss[i]? = some ds → xs[i]? = some (.ref ly.1) ∧ S2.F ly.1 = some (.lst ly.2) ∧ Rps K S2.F ly.2 ds := fun i => by
        cases e : dss[i]? with
        | none => exact ⟨(0, []), fun ds z => by cases z⟩
        | some ds =>
          obtain ⟨l, ys, e1, e2, e3⟩ := hx i ds e
          exact ⟨(l, ys), fun ds' z => by cases z; exact ⟨e1, e2, e3⟩⟩
      obtain ⟨f, hf⟩ := pick_fun hx2
      have hlx : xs.length = dss.length := by rw [r2.length, List.length_map]
      have exs : xs = ((List.range dss.length).map fun i => (f i).1).map V.ref := by
        refine List.ext_getElem? fun i => ?_
        rw [List.map_map, List.getElem?_map]
        by_cases hi : i < dss.length
        · rw [List.getElem?_range hi, (hf i _ (List.getElem?_eq_getElem hi)).1]; rfl
        · rw [List.getElem?_eq_none (by rw [hlx]; omega), List.getElem?_eq_none (by rw [List.length_range]; omega)]; rfl
      have at' : ∀ (i : Nat) (ys : List V), ((List.range dss.length).map fun i => (f i).2)[i]? = some ys → i < dss.length ∧ ys = (f i).2 := fun i ys e => by
        rw [List.getElem?_map] at e
        by_cases hi : i < dss.length
        · rw [List.getElem?_range hi] at e; cases e; exact ⟨hi, rfl⟩
        · rw [List.getElem?_eq_none (by rw [List.length_range]; omega)] at e; cases e
      have hfl : Rps K S2.F ((List.range dss.length).map fun i => (f i).2).flatten dss.flatten := rps_flat (by simp) fun i ys ds e1 e2 => by
        obtain ⟨hi, rfl⟩ := at' i ys e1
        exact (hf i ds e2).2.2
      refine ⟨a, b, (List.range dss.length).map fun i => (f i).1, (List.range dss.length).map fun i => (f i).2, rfl, ?_, upd_same, by simpa using hn, by simp, fun i l ys e1 e2 => ?_, ?_, fun A hA => ?_⟩
      · rw [← exs]
        exact .of (g3.ok.sub _ _ (g3.ff _ _ h1))
      · obtain ⟨hi, rfl⟩ := at' i ys e2
        rw [List.getElem?_map, List.getElem?_range hi] at e1
        cases e1
        exact g3.ok.sub _ _ (g3.ff _ _ (hf i _ (List.getElem?_eq_getElem hi)).2.1)
      · rw [hfl.length]; exact hz
      · exact q A _ ⟨S2.F, upd (upd S2.H b (.lst [])) A (.lst ((List.range dss.length).map fun i => (f i).2).flatten), S2.T⟩ ((g2.trans g3).trans (Gr.newO g3.ok hA)) t2 ((g2.trans g3).fresh hA) upd_same (g3.ok.freshF hA) hfl⟩
end
def rDictP (K : PySem.W.Frag) : List V → Hp → VK → Prop := fun xs H Q => ∃ (a : Addr) (ps : List Addr) (kvs : List (Key × V)), xs = [.ref a] ∧ SqL K H a (ps.map V.ref) ∧ Paired (fun p kv => SqT K H p [kV kv.1, kv.2]) ps kvs ∧
    ∀ p, H p = none → Q (.ref p) (upd H p (.dK (mergeK [] kvs)))
section
variable {K : PySem.W.Frag} [LT K] {p : Option Addr} {S : Wd} {σ : L2.St} {te ta tb : TE} {d : D} {ds es : List D}
theorem rps_pairs {F : Hp} : ∀ {kds : List (Key × D)} {xs : List V}, Rps K F xs (kds.map fun kd => D.tup [kD kd.1, kd.2]) → ∃ (ps : List Addr) (kvs : List (Key × V)), xs = ps.map V.ref ∧ Paired (fun p kv => SqT K F p [kV kv.1, kv.2]) ps kvs ∧ kvs.map (·.1) = kds.map (·.1) ∧ Rps K F (kvs.map (·.2)) (kds.map (·.2))
  | [], _, .nil => ⟨[], [], rfl, .nil, rfl, .nil⟩
  | (k, d) :: kds, _, .cons h r => by
    obtain ⟨ps, kvs, e1, e2, e3, e4⟩ := rps_pairs r
    cases h with
    | @tup a us _ h1 h2 =>
      cases h2 with
      | cons q1 q2 => cases q2 with
        | cons q2 q3 =>
          cases q3
          have ek := kD_kV q1
          subst ek
          exact ⟨a :: ps, (k, _) :: kvs, by rw [e1]; rfl, .cons h1 e2, by rw [List.map_cons, List.map_cons, e3], .cons q2 e4⟩
theorem merge_mk {F : Hp} : ∀ {kds : List (Key × D)} {kvs acc : List (Key × V)} {acd : List (Key × D)}, kvs.map (·.1) = kds.map (·.1) → Rps K F (kvs.map (·.2)) (kds.map (·.2)) → acc.map (·.1) = acd.map (·.1) → Rps K F (acc.map (·.2)) (acd.map (·.2)) →
    (mergeK acc kvs).map (·.1) = (kds.foldl (fun acc kd => putG acc kd.1 kd.2) acd).map (·.1) ∧ Rps K F ((mergeK acc kvs).map (·.2)) ((kds.foldl (fun acc kd => putG acc kd.1 kd.2) acd).map (·.2))
  | [], [], _, _, _, _, h3, h4 => ⟨h3, h4⟩
  | [], _ :: _, _, _, h, _, _, _ => by cases h
  | _ :: _, [], _, _, h, _, _, _ => by cases h
  | (k1, d) :: kds, (k2, v) :: kvs, acc, acd, h1, h2, h3, h4 => by
    have e : k2 = k1 := (List.cons.inj h1).1
    subst e
    cases h2 with
    | cons q1 q2 =>
      obtain ⟨w1, w2⟩ := rps_put (k := k2) h3 h4 q1
      exact merge_mk (kds := kds) (kvs := kvs) (acc := putK acc k2 v) (acd := putG acd k2 d) (List.cons.inj h1).2 q2 w1 w2
theorem Paired.mapL {α β : Type} {R R' : α → β → Prop} : ∀ {xs : List α} {ys : List β}, Paired R xs ys → (∀ x y, R x y → R' x y) → Paired R' xs ys
  | _, _, .nil, _ => .nil
  | _, _, .cons h r, f => .cons (f _ _ h) (Paired.mapL r f)
theorem eod_dictP {kds : List (Key × D)} (h : EvD K p ta σ S (.lst (kds.map fun kd => D.tup [kD kd.1, kd.2]))) : EvOD K p (tCB (rDictP K) (tCons ta tNil)) σ S (mkD kds) := fun S1 g Q q => h S1 g _ fun v S2 g2 t2 r => by
  cases r with
  | @lst a xs _ h1 r2 =>
    obtain ⟨ps, kvs, e1, e2, e3, e4⟩ := rps_pairs r2
    subst e1
    refine ⟨a, ps, kvs, rfl, .of (g2.ok.sub _ _ h1), Paired.mapL e2 fun x y z => Evl.ex_t g2.ok.sub z, fun A hA => ?_⟩
    obtain ⟨w1, w2⟩ := merge_mk (acc := []) (acd := []) e3 e4 rfl .nil
    exact q A _ ⟨S2.F, upd S2.H A (.dK (mergeK [] kvs)), S2.T⟩ (g2.trans (Gr.newO g2.ok hA)) t2 (g2.fresh hA) upd_same (g2.ok.freshF hA) w1 w2
end
end DL
namespace DL
open PySem L2
open Evl (Ex)
/-! ## the laws' helpers: the pen, a draw, a pick -/
def dAt (ds : List D) (i : Nat) : D := ds.getD i .non
def spPen (K : PySem.W.Frag) [LT K] : Sp := fun vs H Q _ => ∃ (a : Addr) (ns : List Int) (F : Hp), vs = [.ref a] ∧ SqL K H a (ns.map V.int) ∧ ns.length ≤ 63 ∧ Ok K none ⟨F, H, 0⟩ ∧
  ∀ (q c : Addr) (F' H' : Hp), Gr K none ⟨F, H, 0⟩ ⟨F', H', 0⟩ → F' c = some (.lst (ns.map V.int)) → H' q = some (.lst [.ref c, .int 0, .int 0]) → F' q = none → H q = none → Q (.ref q) H'
theorem spPen_len {K : PySem.W.Frag} [LT K] {vs : List V} {H : Hp} {Q : VK} {E : XK} (h : spPen K vs H Q E) : vs.length = 1 := by
  obtain ⟨a, ns, F, rfl, _⟩ := h
  rfl
def spDraw (K : PySem.W.Frag) [LT K] : Sp := spN K 1 1 (fun ds => ∃ m : Int, dAt ds 0 = .int m ∧ 1 ≤ m ∧ m ≤ 1000000) (fun ds d => ∃ r m : Int, d = .int r ∧ dAt ds 0 = .int m ∧ 0 ≤ r ∧ r < m)
def itemsD : D → Option (List D)
  | .lst ds => some ds
  | .tup ds => some ds
  | .str s => some (signs s)
  | _ => none
def spPick (K : PySem.W.Frag) [LT K] : Sp := spN K 1 1 (fun ds => ∃ es, itemsD (dAt ds 0) = some es ∧ es ≠ [] ∧ es.length ≤ 1000000) (fun ds d => ∃ es, itemsD (dAt ds 0) = some es ∧ d ∈ es)
end DL
namespace DL
open PySem L2
open Evl (Ex)
/-! ## a draw -/
theorem bits_le {x : Int} {k : Nat} (h1 : -(2 ^ k : Int) < x) (h2 : x < 2 ^ k) : Builtin.Int.intBits x ≤ k := by
  unfold Builtin.Int.intBits
  split
  · exact Nat.zero_le _
  · rename_i h
    have h0 : x ≠ 0 := by simpa using h
    have hn : x.natAbs ≠ 0 := by omega
    have hb : x.natAbs < 2 ^ k := by
      have e : ((2 ^ k : Nat) : Int) = (2 : Int) ^ k := by simp
      omega
    exact (Nat.log2_lt hn).mpr hb
theorem mul_ok {x y : Int} (h1 : -(2 ^ 64 : Int) < y) (h2 : y < 2 ^ 64) : IntMulOk x y := IntMulOk.of_right (bits_le h1 h2)
theorem mul_okL {x y : Int} (h1 : -(2 ^ 64 : Int) < x) (h2 : x < 2 ^ 64) : IntMulOk x y := IntMulOk.of_left (bits_le h1 h2)
theorem pow_ok {x n : Int} {k : Nat} (h1 : -(2 ^ k : Int) < x) (h2 : x < 2 ^ k) (hn : 0 ≤ n) (hk : (k : Int) * n ≤ 2 ^ 27) : CPowI x n := by
  refine ⟨hn, Int.le_trans (Int.mul_le_mul_of_nonneg_right (Int.ofNat_le.mpr (bits_le h1 h2)) hn) hk⟩
/-! what does not touch the heap -/
def Zv (te : TE) (σ : L2.St) (H : Hp) (v : V) : Prop := ∀ Q : VK, Q v H → te σ H Q
section
variable {K : PySem.W.Frag} [LT K] {σ : L2.St} {H : Hp} {x y v : V} {ta tb : TE} {i j : Nat} {G : Ends}
theorem e0_var (h : σ[i]? = some (some v)) : Zv (tVar i) σ H v := fun Q q => ⟨v, h, q⟩
theorem e0_c : Zv (tC v) σ H v := fun Q q => q
theorem e0_op {r : R2} (ha : Zv ta σ H x) (hb : Zv tb σ H y) (hr : ∀ Q : VK, Q v H → r x y H Q) : Zv (tOp r ta tb) σ H v := fun Q q => ha _ (hb _ (hr Q q))
theorem e0_cb {r : List V → Hp → VK → Prop} (ha : Zv ta σ H x) (hr : ∀ Q : VK, Q v H → r [x] H Q) : Zv (tCB r (tCons ta tNil)) σ H v := fun Q q => ha _ (hr Q q)
theorem e0_I0 {f : Int → Int → Int} {a b : Int} (ha : Zv ta σ H (.int a)) (hb : Zv tb σ H (.int b)) : Zv (tOp (rI0 fun i j => .int (f i j)) ta tb) σ H (.int (f a b)) := e0_op ha hb fun Q q => ⟨a, b, rfl, rfl, q⟩
theorem e0_B0 {f : Int → Int → Bool} {a b : Int} (ha : Zv ta σ H (.int a)) (hb : Zv tb σ H (.int b)) : Zv (tOp (rI0 fun i j => .bl (f i j)) ta tb) σ H (.bl (f a b)) := e0_op ha hb fun Q q => ⟨a, b, rfl, rfl, q⟩
theorem e0_I {C : Int → Int → Prop} {f : Int → Int → Int} {a b : Int} (ha : Zv ta σ H (.int a)) (hb : Zv tb σ H (.int b)) (hc : C a b) : Zv (tOp (rI C fun i j => .int (f i j)) ta tb) σ H (.int (f a b)) := e0_op ha hb fun Q q => ⟨a, b, rfl, rfl, hc, q⟩
theorem e0_add {a b : Int} (ha : Zv ta σ H (.int a)) (hb : Zv tb σ H (.int b)) : Zv (tOp (rAddU K) ta tb) σ H (.int (a + b)) := e0_op ha hb fun Q q => .inl ⟨a, b, rfl, rfl, q⟩
theorem e0_mul {a b : Int} (ha : Zv ta σ H (.int a)) (hb : Zv tb σ H (.int b)) (hc : IntMulOk a b) : Zv (tOp rMulU ta tb) σ H (.int (a * b)) := e0_op ha hb fun Q q => .inl ⟨a, b, rfl, rfl, hc, q⟩
theorem e0_int {a : Int} (ha : Zv ta σ H (.int a)) : Zv (tCB rInt1 (tCons ta tNil)) σ H (.int a) := e0_cb ha fun Q q => .inl ⟨a, rfl, q⟩
theorem e0_intB {a : Bool} (ha : Zv ta σ H (.bl a)) : Zv (tCB rInt1 (tCons ta tNil)) σ H (.int (if a then 1 else 0)) := e0_cb ha fun Q q => .inr ⟨a, rfl, q⟩
theorem e0_abs {a : Int} (ha : Zv ta σ H (.int a)) : Zv (tCB rAbs (tCons ta tNil)) σ H (.int (if a < 0 then -a else a)) := e0_cb ha fun Q q => ⟨a, rfl, q⟩
theorem e0_ix {a : Addr} {xs : List V} {z : Int} (ha : Zv ta σ H (.ref a)) (hb : Zv tb σ H (.int z)) (hH : H a = some (.lst xs)) (hv : atI xs z = some v) : Zv (tOp (rIx K) ta tb) σ H v := e0_op ha hb fun Q q => .inl ⟨a, xs, z, v, rfl, rfl, .of hH, hv, q⟩
theorem e0_len {a : Addr} {xs : List V} (ha : Zv ta σ H (.ref a)) (hH : H a = some (.lst xs)) : Zv (tCB (rLenA K) (tCons ta tNil)) σ H (.int (xs.length : Int)) := e0_cb ha fun Q q => .inl ⟨.ref a, xs.length, rfl, .inl ⟨xs, .of hH, rfl⟩, q⟩
theorem a0_asg (he : Zv ta σ H v) (k : G.nx (σ.set i (some v)) H) : tAsg ta (gName i) G σ H := he _ k
theorem a0_pen {a : Addr} {xs : List V} {z : Int} {c : Nat} {tp ti : TE} (he : Zv ta σ H v) (hp : Zv tp σ H (.ref a)) (hi : Zv ti σ H (.int z)) (hH : H a = some (.lst xs)) (hc : ixN xs.length z = some c) (k : G.nx σ (upd H a (.lst (xs.set c v)))) : tAsg ta (gSub tp ti rSetL) G σ H :=
  he _ (hp _ (hi _ ⟨a, xs, z, c, rfl, rfl, hH, hc, k⟩))
theorem a0_ret (he : Zv ta σ H v) (k : G.rt v H) : tRet ta G σ H := he _ k
theorem a0_if {tt : TT} {tu tw : TS} {b : Bool} (he : ∀ Q : Bool → Hp → Prop, Q b H → tt σ H Q) (k1 : b = true → tu G σ H) (k2 : b = false → tw G σ H) : tIfS tt tu tw G σ H := by
  refine he _ ?_
  cases b with
  | true => show if true = true then _ else _; rw [if_pos rfl]; exact k1 rfl
  | false => show if false = true then _ else _; rw [if_neg Bool.false_ne_true]; exact k2 rfl
theorem t0_test {b : Bool} (he : Zv ta σ H (.bl b)) : ∀ Q : Bool → Hp → Prop, Q b H → tTest ta σ H Q := fun Q q => he _ ⟨b, rfl, q⟩
end
/-- the pen's list is stored -/
theorem pen_chg {K : PySem.W.Frag} [LT K] {a c : Addr} {S : Wd} {cs : List Int} {t r : Int} {T : Nat} (ok : Ok K (some a) S) (hc : S.F c = some (.lst (cs.map V.int))) (hl : cs.length ≤ 63) (ht : 0 ≤ t) (hT : t ≤ T) (hr : 0 ≤ r) : Gr K (some a) S ⟨S.F, upd S.H a (.lst [.ref c, .int t, .int r]), T⟩ := by
  have hF : S.F a = none := (ok.pen a rfl).2
  refine ⟨fun _ _ q => q, fun b o q np _ => ?_, fun b q => ?_, fun _ _ => rfl, ⟨fun b o q => ?_, fun b q => ?_, ok.nt, (by obtain ⟨⟨_, _, _, _, q1, _⟩, _⟩ := ok.pen a rfl; exact tabs_lst ok.tb q1)⟩⟩ <;> dsimp only at *
  · rw [upd_ne (fun z => np (by rw [z]))]; exact q
  · intro z
    by_cases hb : b = a
    · subst hb; rw [upd_same] at z; cases z
    · rw [upd_ne hb] at z; exact q z
  · have hb : b ≠ a := fun z => by subst z; rw [hF] at q; cases q
    rw [upd_ne hb]; exact ok.sub b o q
  · cases q
    exact ⟨⟨c, t, r, cs, upd_same, hc, hl, ht, hT, hr⟩, hF⟩
/-- the draw's body, its constants apart -/
def drawT (K : PySem.W.Frag) [LT K] (a1 a2 a3 a4 a5 a6 a7 : Int) : TS :=
  (tSeq (tIfS (tTest (tOp (rI0 fun i j => .bl (decide (j < i))) (tOp (rIx K) (tVar 0) (tC (.int 2))) (tC (.int 0))))
    (tSeq (tAsg (tCB rInt1 (tCons (tOp (rIx K) (tVar 0) (tC (.int 2))) tNil)) (gName 2))
    (tSeq (tAsg (tOp (rI CDiv fun i j => .int (i / j)) (tVar 2) (tVar 1)) (gSub (tVar 0) (tC (.int 2)) rSetL))
    (tRet (tOp (rI (fun _ j => 0 < j) fun i j => .int (i % j)) (tCB rInt1 (tCons (tVar 2) tNil)) (tVar 1)))))
    tNext)
    (tSeq (tAsg (tOp (rIx K) (tVar 0) (tC (.int 1))) (gName 3))
    (tSeq (tAsg (tOp (rAddU K) (tVar 3) (tC (.int 1))) (gSub (tVar 0) (tC (.int 1)) rSetL))
    (tSeq (tAsg (tOp (rAddU K) (tOp rMulU (tC (.int a1)) (tVar 3)) (tC (.int a2))) (gName 4))
    (tSeq (tIfS (tTest (tOp (rNeU K) (tOp (rIx K) (tVar 0) (tC (.int 0))) (tLst tNil)))
    (tAsg (tOp (rIx K) (tOp (rIx K) (tVar 0) (tC (.int 0))) (tOp (rI (fun _ j => 0 < j) fun i j => .int (i % j)) (tCB rInt1 (tCons (tVar 3) tNil)) (tCB (rLenA K) (tCons (tOp (rIx K) (tVar 0) (tC (.int 0))) tNil)))) (gName 4))
    tNext)
    (tSeq (tIfS (tAnd (tTest (tOp (rI0 fun i j => .bl (decide (i < j))) (tVar 3) (tCB (rLenA K) (tCons (tOp (rIx K) (tVar 0) (tC (.int 0))) tNil)))) (tTest (tOp (rI0 fun i j => .bl (decide (j ≤ i))) (tCB rAbs (tCons (tVar 4) tNil)) (tOp (rI CPowI fun i j => .int (i ^ j.toNat)) (tC (.int 10)) (tC (.int 18))))))
    (tSeq (tAsg (tOp (rAddU K) (tOp rMulU (tC (.int 2)) (tOp (rI0 fun i j => .int (i - j)) (tCB rAbs (tCons (tVar 4) tNil)) (tOp (rI CPowI fun i j => .int (i ^ j.toNat)) (tC (.int 10)) (tC (.int 18))))) (tCB rInt1 (tCons (tOp (rI0 fun i j => .bl (decide (i < j))) (tVar 4) (tC (.int 0))) tNil))) (gName 2))
    (tSeq (tAsg (tOp (rI CDiv fun i j => .int (i / j)) (tCB rInt1 (tCons (tVar 2) tNil)) (tVar 1)) (gSub (tVar 0) (tC (.int 2)) rSetL))
    (tRet (tOp (rI (fun _ j => 0 < j) fun i j => .int (i % j)) (tCB rInt1 (tCons (tVar 2) tNil)) (tVar 1)))))
    tNext)
    (tSeq (tAsg (tOp (rI (fun _ j => 0 < j) fun i j => .int (i % j)) (tCB rInt1 (tCons (tOp (rI CPowI fun i j => .int (i ^ j.toNat)) (tOp (rAddU K) (tOp (rAddU K) (tOp (rI (fun _ j => 0 < j) fun i j => .int (i % j)) (tCB rInt1 (tCons (tVar 4) tNil)) (tC (.int 2147483549))) (tOp rMulU (tC (.int a3)) (tVar 3))) (tC (.int a4))) (tC (.int 5))) tNil)) (tC (.int 2147483629))) (gName 5))
    (tSeq (tAsg (tOp (rI (fun _ j => 0 < j) fun i j => .int (i % j)) (tCB rInt1 (tCons (tOp (rI CPowI fun i j => .int (i ^ j.toNat)) (tOp (rAddU K) (tOp (rAddU K) (tOp rMulU (tVar 5) (tOp (rAddU K) (tOp rMulU (tC (.int 2)) (tVar 3)) (tC (.int a5)))) (tOp rMulU (tOp rMulU (tC (.int a6)) (tVar 3)) (tVar 3))) (tC (.int a7))) (tC (.int 3))) tNil)) (tC (.int 2147483587))) (gName 5))
    (tRet (tOp (rI (fun _ j => 0 < j) fun i j => .int (i % j)) (tCB rInt1 (tCons (tOp (rI CDiv fun i j => .int (i / j)) (tVar 5) (tC (.int 64))) tNil)) (tVar 1)))))))))))
section
variable {K : PySem.W.Frag} [LT K]
theorem draw_run {a1 a2 a3 a4 a5 a6 a7 : Int} {vs : List V} {H : Hp} {Q : VK} {E : XK} {N : List Str} (h : spDraw K vs H Q E) (hN : N.length = 6) (b1 : 0 ≤ a1 ∧ a1 ≤ 1000000) (b2 : 0 ≤ a2 ∧ a2 ≤ 1000000) (b3 : 0 ≤ a3 ∧ a3 ≤ 1000000) (b4 : 0 ≤ a4 ∧ a4 ≤ 1000000) (b5 : 0 ≤ a5 ∧ a5 ≤ 1000000) (b6 : 0 ≤ a6 ∧ a6 ≤ 1000000) (b7 : 0 ≤ a7 ∧ a7 ≤ 1000000) :
    drawT K a1 a2 a3 a4 a5 a6 a7 { nx := fun _ H' => Q .non H', rt := Q } (L2.start N vs) H := by
  obtain ⟨S, a, ws, ds, rfl, rfl, ok, r, hn, ⟨m, hm, hm1, hm2⟩, hb, k⟩ := h
  match ds, hn with
  | [d], _ =>
  cases (show d = .int m from hm)
  cases r with
  | cons r1 r2 =>
  cases r2
  cases r1
  obtain ⟨⟨c, t, r, cs, pH, pF, pl, pt, pT, pr⟩, pN⟩ := ok.pen a rfl
  have hst : L2.start N [V.ref a, V.int m] = [some (.ref a), some (.int m), none, none, none, none] := by
    unfold L2.start
    rw [hN]
    rfl
  rw [hst]
  have cdv : CDiv 0 m := ⟨by omega, by omega⟩
  have ix2 : ∀ t' r' : Int, atI [V.ref c, V.int t', V.int r'] 2 = some (.int r') := fun _ _ => rfl
  have ix1 : ∀ t' r' : Int, atI [V.ref c, V.int t', V.int r'] 1 = some (.int t') := fun _ _ => rfl
  have ix0 : ∀ t' r' : Int, atI [V.ref c, V.int t', V.int r'] 0 = some (.ref c) := fun _ _ => rfl
  unfold drawT
  -- the end: an answer below m
  have fin : ∀ (z : Int) (S' : Wd), Gr K (some a) S S' → S'.T ≤ S.T + 1 → Q (.int (z % m)) S'.H := fun z S' g ht =>
    k _ (.int (z % m)) S' g ht (.int _) ⟨z % m, m, rfl, rfl, Int.emod_nonneg _ (by omega), Int.emod_lt_of_pos _ (by omega)⟩
  refine a0_if (t0_test (e0_B0 (f := fun i j => decide (j < i)) (e0_ix (e0_var rfl) e0_c pH (ix2 _ _)) e0_c)) (fun hr => ?_) (fun hr => ?_)
  · refine a0_asg (e0_int (e0_ix (e0_var rfl) e0_c pH (ix2 _ _))) ?_
    refine a0_pen (c := 2) (e0_I (f := fun i j => i / j) (e0_var rfl) (e0_var rfl) ⟨cdv.1, cdv.2⟩) (e0_var rfl) e0_c pH rfl ?_
    refine a0_ret (e0_I (f := fun i j => i % j) (e0_int (e0_var rfl)) (e0_var rfl) (by omega)) ?_
    exact fin r ⟨S.F, upd S.H a (.lst [.ref c, .int t, .int (r / m)]), S.T⟩ (pen_chg ok pF pl pt pT (Int.ediv_nonneg pr (by omega))) (by show S.T ≤ _; omega)
  · show tSeq _ _ _ _ _
    refine a0_asg (e0_ix (e0_var rfl) e0_c pH (ix1 _ _)) ?_
    refine a0_pen (c := 1) (e0_add (e0_var rfl) e0_c) (e0_var rfl) e0_c pH rfl ?_
    have g1 : Gr K (some a) S ⟨S.F, upd S.H a (.lst [.ref c, .int (t + 1), .int r]), S.T + 1⟩ := pen_chg ok pF pl (by omega) (by omega) pr
    refine a0_asg (e0_add (e0_mul e0_c (e0_var rfl) (mul_ok (by omega) (by omega))) e0_c) ?_
    have pH1 : (upd S.H a (.lst [.ref c, .int (t + 1), .int r])) a = some (.lst [.ref c, .int (t + 1), .int r]) := upd_same
    -- a new empty list
    refine e0_ix (e0_var rfl) e0_c pH1 (ix0 _ _) _ ?_
    refine ⟨Nat.zero_le _, fun b hbn => ?_⟩
    have g2 := g1.trans (Gr.newO (o := .lst []) g1.ok hbn)
    have hab : a ≠ b := ne_of_none pH1 hbn
    have cH1 : (upd S.H a (.lst [.ref c, .int (t + 1), .int r])) c = some (.lst (cs.map V.int)) := g1.ok.sub _ _ pF
    have hcb : c ≠ b := ne_of_none cH1 hbn
    have pH2 : (upd (upd S.H a (.lst [.ref c, .int (t + 1), .int r])) b (.lst [])) a = some (.lst [.ref c, .int (t + 1), .int r]) := by rw [upd_ne hab]; exact pH1
    have cH2 : (upd (upd S.H a (.lst [.ref c, .int (t + 1), .int r])) b (.lst [])) c = some (.lst (cs.map V.int)) := by rw [upd_ne hcb]; exact cH1
    generalize hH2 : upd (upd S.H a (.lst [.ref c, .int (t + 1), .int r])) b (.lst []) = H2 at g2 pH2 cH2 ⊢
    have bH2 : H2 b = some (.lst []) := by rw [← hH2]; exact upd_same
    refine .inr (.inr ⟨c, b, cs.map V.int, rfl, rfl, .of cH2, .of bH2, !(cs.map V.int).isEmpty, rfl, ?_⟩)
    have elen : ((cs.map V.int).length : Int) = (cs.length : Int) := by rw [List.length_map]
    have last : ∀ cell : Int, (tSeq (tIfS (tAnd (tTest (tOp (rI0 fun i j => .bl (decide (i < j))) (tVar 3) (tCB (rLenA K) (tCons (tOp (rIx K) (tVar 0) (tC (.int 0))) tNil)))) (tTest (tOp (rI0 fun i j => .bl (decide (j ≤ i))) (tCB rAbs (tCons (tVar 4) tNil)) (tOp (rI CPowI fun i j => .int (i ^ j.toNat)) (tC (.int 10)) (tC (.int 18))))))
        (tSeq (tAsg (tOp (rAddU K) (tOp rMulU (tC (.int 2)) (tOp (rI0 fun i j => .int (i - j)) (tCB rAbs (tCons (tVar 4) tNil)) (tOp (rI CPowI fun i j => .int (i ^ j.toNat)) (tC (.int 10)) (tC (.int 18))))) (tCB rInt1 (tCons (tOp (rI0 fun i j => .bl (decide (i < j))) (tVar 4) (tC (.int 0))) tNil))) (gName 2))
        (tSeq (tAsg (tOp (rI CDiv fun i j => .int (i / j)) (tCB rInt1 (tCons (tVar 2) tNil)) (tVar 1)) (gSub (tVar 0) (tC (.int 2)) rSetL))
        (tRet (tOp (rI (fun _ j => 0 < j) fun i j => .int (i % j)) (tCB rInt1 (tCons (tVar 2) tNil)) (tVar 1)))))
        tNext)
        (tSeq (tAsg (tOp (rI (fun _ j => 0 < j) fun i j => .int (i % j)) (tCB rInt1 (tCons (tOp (rI CPowI fun i j => .int (i ^ j.toNat)) (tOp (rAddU K) (tOp (rAddU K) (tOp (rI (fun _ j => 0 < j) fun i j => .int (i % j)) (tCB rInt1 (tCons (tVar 4) tNil)) (tC (.int 2147483549))) (tOp rMulU (tC (.int a3)) (tVar 3))) (tC (.int a4))) (tC (.int 5))) tNil)) (tC (.int 2147483629))) (gName 5))
        (tSeq (tAsg (tOp (rI (fun _ j => 0 < j) fun i j => .int (i % j)) (tCB rInt1 (tCons (tOp (rI CPowI fun i j => .int (i ^ j.toNat)) (tOp (rAddU K) (tOp (rAddU K) (tOp rMulU (tVar 5) (tOp (rAddU K) (tOp rMulU (tC (.int 2)) (tVar 3)) (tC (.int a5)))) (tOp rMulU (tOp rMulU (tC (.int a6)) (tVar 3)) (tVar 3))) (tC (.int a7))) (tC (.int 3))) tNil)) (tC (.int 2147483587))) (gName 5))
        (tRet (tOp (rI (fun _ j => 0 < j) fun i j => .int (i % j)) (tCB rInt1 (tCons (tOp (rI CDiv fun i j => .int (i / j)) (tVar 5) (tC (.int 64))) tNil)) (tVar 1)))))) { nx := fun _ H' => Q .non H', rt := Q } [some (.ref a), some (.int m), none, some (.int t), some (.int cell), none] H2 := by
      intro cell
      have hpow : Zv (tOp (rI CPowI fun i j => .int (i ^ j.toNat)) (tC (.int 10)) (tC (.int 18))) [some (V.ref a), some (.int m), none, some (.int t), some (.int cell), none] H2 (.int (10 ^ 18)) :=
        e0_I (f := fun i j => i ^ j.toNat) e0_c e0_c (pow_ok (k := 4) (by decide) (by decide) (by decide) (by decide))
      have tst : ∀ Q' : Bool → Hp → Prop, Q' (decide (t < ((cs.map V.int).length : Int)) && decide ((10 : Int) ^ 18 ≤ (if cell < 0 then -cell else cell))) H2 → tAnd (tTest (tOp (rI0 fun i j => .bl (decide (i < j))) (tVar 3) (tCB (rLenA K) (tCons (tOp (rIx K) (tVar 0) (tC (.int 0))) tNil)))) (tTest (tOp (rI0 fun i j => .bl (decide (j ≤ i))) (tCB rAbs (tCons (tVar 4) tNil)) (tOp (rI CPowI fun i j => .int (i ^ j.toNat)) (tC (.int 10)) (tC (.int 18))))) [some (.ref a), some (.int m), none, some (.int t), some (.int cell), none] H2 Q' := fun Q' q => by
        refine t0_test (e0_B0 (f := fun i j => decide (i < j)) (e0_var rfl) (e0_len (e0_ix (e0_var rfl) e0_c pH2 (ix0 _ _)) cH2)) _ ?_
        cases e : decide (t < ((cs.map V.int).length : Int)) with
        | true =>
          rw [e] at q
          exact t0_test (e0_B0 (f := fun i j => decide (j ≤ i)) (e0_abs (e0_var rfl)) hpow) _ q
        | false =>
          rw [e] at q
          exact q
      refine a0_if tst (fun hbig => ?_) (fun _ => ?_)
      · refine a0_asg (e0_add (e0_mul e0_c (e0_I0 (f := fun i j => i - j) (e0_abs (e0_var rfl)) hpow) (mul_okL (by decide) (by decide))) (e0_intB (e0_B0 (f := fun i j => decide (i < j)) (e0_var rfl) e0_c))) ?_
        have hnn : 0 ≤ 2 * ((if cell < 0 then -cell else cell) - 10 ^ 18) + (if decide (cell < 0) = true then (1 : Int) else 0) := by
          rw [Bool.and_eq_true] at hbig
          have h1 := of_decide_eq_true hbig.2
          have h2 : (0 : Int) ≤ (if decide (cell < 0) = true then (1 : Int) else 0) := by split <;> decide
          omega
        refine a0_pen (c := 2) (e0_I (f := fun i j => i / j) (e0_int (e0_var rfl)) (e0_var rfl) ⟨cdv.1, cdv.2⟩) (e0_var rfl) e0_c pH2 rfl ?_
        refine a0_ret (e0_I (f := fun i j => i % j) (e0_int (e0_var rfl)) (e0_var rfl) (by omega)) ?_
        refine fin _ ⟨S.F, upd H2 a (.lst [.ref c, .int (t + 1), .int (_ / m)]), S.T + 1⟩ (g2.trans (pen_chg g2.ok (g2.ff _ _ pF) pl (by omega) (by show t + 1 ≤ ((S.T + 1 : Nat) : Int); omega) (Int.ediv_nonneg hnn (by omega)))) (Nat.le_refl _)
      · show tSeq _ _ _ _ _
        have hc1 := Int.emod_nonneg cell (show (2147483549 : Int) ≠ 0 by decide)
        have hc2 := Int.emod_lt_of_pos cell (show (0 : Int) < 2147483549 by decide)
        have ht9 : t ≤ 1000000000 := by omega
        have m1 : 0 ≤ a3 * t := Int.mul_nonneg b3.1 pt
        have m2 : a3 * t ≤ 1000000 * 1000000000 := Int.mul_le_mul b3.2 ht9 pt (by decide)
        refine a0_asg (e0_I (f := fun i j => i % j) (e0_int (e0_I (f := fun i j => i ^ j.toNat) (e0_add (e0_add (e0_I (f := fun i j => i % j) (e0_int (e0_var rfl)) e0_c (by decide)) (e0_mul e0_c (e0_var rfl) (mul_ok (by omega) (by omega)))) e0_c) e0_c (pow_ok (k := 60) (by omega) (by omega) (by decide) (by decide)))) e0_c (by decide)) ?_
        have hx1 : ∀ z : Int, 0 ≤ z % 2147483629 := fun z => Int.emod_nonneg z (by decide)
        have hx2 : ∀ z : Int, z % 2147483629 < 2147483629 := fun z => Int.emod_lt_of_pos z (by decide)
        generalize hz : (cell % 2147483549 + a3 * t + a4) ^ (5 : Int).toNat % 2147483629 = z
        have hz1 : 0 ≤ z := by rw [← hz]; exact hx1 _
        have hz2 : z < 2147483629 := by rw [← hz]; exact hx2 _
        have m3 : 0 ≤ z * (2 * t + a5) := Int.mul_nonneg hz1 (by omega)
        have m4 : z * (2 * t + a5) ≤ 2147483629 * 3000000000 := Int.mul_le_mul (by omega) (by omega) (by omega) (by decide)
        have m5 : 0 ≤ a6 * t := Int.mul_nonneg b6.1 pt
        have m6 : a6 * t ≤ 1000000 * 1000000000 := Int.mul_le_mul b6.2 ht9 pt (by decide)
        have m7 : 0 ≤ a6 * t * t := Int.mul_nonneg m5 pt
        have m8 : a6 * t * t ≤ 1000000 * 1000000000 * 1000000000 := Int.mul_le_mul m6 ht9 pt (by decide)
        refine a0_asg (e0_I (f := fun i j => i % j) (e0_int (e0_I (f := fun i j => i ^ j.toNat) (e0_add (e0_add (e0_mul (e0_var rfl) (e0_add (e0_mul e0_c (e0_var rfl) (mul_ok (by omega) (by omega))) e0_c) (mul_okL (by omega) (by omega))) (e0_mul (e0_mul e0_c (e0_var rfl) (mul_ok (by omega) (by omega))) (e0_var rfl) (mul_ok (by omega) (by omega)))) e0_c) e0_c (pow_ok (k := 90) (by omega) (by omega) (by decide) (by decide)))) e0_c (by decide)) ?_
        refine a0_ret (e0_I (f := fun i j => i % j) (e0_int (e0_I (f := fun i j => i / j) (e0_var rfl) e0_c ⟨by decide, by decide⟩)) (e0_var rfl) (by omega)) ?_
        exact fin _ ⟨S.F, H2, S.T + 1⟩ g2 (Nat.le_refl _)
    cases hcs : (cs.map V.int).isEmpty with
    | true =>
      show if false = true then _ else _
      rw [if_neg Bool.false_ne_true]
      exact last _
    | false =>
      show if true = true then _ else _
      rw [if_pos rfl]
      have hne : 0 < (cs.map V.int).length := by
        cases hq : cs.map V.int with
        | nil => rw [hq] at hcs; cases hcs
        | cons _ _ => simp
      have hj0 := Int.emod_nonneg t (show ((cs.map V.int).length : Int) ≠ 0 by omega)
      have hj1 := Int.emod_lt_of_pos t (show (0 : Int) < ((cs.map V.int).length : Int) by omega)
      have hat : atI (cs.map V.int) (t % ((cs.map V.int).length : Int)) = some (.int (cs.getD (t % ((cs.map V.int).length : Int)).toNat 0)) := by
        unfold atI ixN
        rw [if_pos hj0, if_pos hj1]
        show (cs.map V.int)[_]? = _
        have hjn : (t % ((cs.map V.int).length : Int)).toNat < cs.length := by
          have e := hj1
          rw [elen] at e ⊢
          omega
        rw [List.getElem?_map, List.getElem?_eq_getElem hjn, List.getD_eq_getElem?_getD, List.getElem?_eq_getElem hjn]
        rfl
      refine a0_asg (e0_ix (e0_ix (e0_var rfl) e0_c pH2 (ix0 _ _)) (e0_I (f := fun i j => i % j) (e0_int (e0_var rfl)) (e0_len (e0_ix (e0_var rfl) e0_c pH2 (ix0 _ _)) cH2) (by omega)) cH2 hat) ?_
      exact last _
end
end DL
namespace DL
open PySem L2
open Evl (Ex)
section
variable {K : PySem.W.Frag} [LT K] {p : Option Addr} {S S0 S1 S2 S3 : Wd} {B : Hp} {σ σ' : L2.St} {te ta tb tc to : TE} {d d1 d2 d3 : D} {ds es : List D} {v : V} {m M n k : Nat} {P P1 P2 : D → Prop} {l l' : En} {i j : Nat} {t : Ty} {G : Ends}
theorem items_len (h : itemsD d = some es) (hz : es.length ≤ sizeLine) : RC K p (rLenA K) [d] (.int (es.length : Int)) := by
  cases d with
  | lst xs => cases h; exact rl_L hz
  | tup xs => cases h; exact rl_T
  | str s =>
    cases h
    have e : (signs s).length = s.length := by unfold signs; rw [List.length_map]; rfl
    rw [e] at hz ⊢
    exact rl_S hz
  | _ => cases h
theorem atI_nat {α : Type} {xs : List α} {r : Int} (h0 : 0 ≤ r) (h1 : r < xs.length) : ∃ x, atI xs r = some x ∧ x ∈ xs := by
  have hn : r.toNat < xs.length := by omega
  refine ⟨xs[r.toNat], ?_, List.getElem_mem hn⟩
  unfold atI ixN
  rw [if_pos h0, if_pos h1]
  exact List.getElem?_eq_getElem hn
/-- some[a draw] -/
theorem en_ix (ha : EvD K p ta σ S d) (hi : itemsD d = some es) (hz : es.length ≤ sizeLine) (hb : EvN K p tb σ S n (fun e => ∃ r : Int, e = .int r ∧ 0 ≤ r ∧ r < es.length)) : EvN K p (tOp (rIx K) ta tb) σ S n (fun e => e ∈ es) := fun S1 g hB Q q =>
  ha S1 g _ fun x S2 g2 t2 rx => hb S2 (g.trans g2) (by omega) _ fun y e S3 g3 t3 ry pe => by
    obtain ⟨r, rfl, h0, h1⟩ := pe
    cases ry
    obtain ⟨z, hz1, hz2⟩ := atI_nat h0 h1
    have rx3 := rx.mono g3.ff
    cases d with
    | lst xs =>
      cases hi
      cases rx3 with
      | @lst a vs _ h2 r2 =>
        obtain ⟨c, h4, h5⟩ := ixN_get hz1
        obtain ⟨x, hx, rx⟩ := r2.get h5
        exact .inl ⟨a, vs, r, x, rfl, rfl, .of (g3.ok.sub _ _ h2), by unfold atI; rw [r2.length, h4]; exact hx, q x z S3 (g2.trans g3) (by omega) rx hz2⟩
    | tup xs =>
      cases hi
      cases rx3 with
      | @tup a vs _ h2 r2 =>
        obtain ⟨c, h4, h5⟩ := ixN_get hz1
        obtain ⟨x, hx, rx⟩ := r2.get h5
        exact .inr (.inl ⟨a, vs, r, x, rfl, rfl, Evl.ex_t g3.ok.sub h2, by unfold atI; rw [r2.length, h4]; exact hx, q x z S3 (g2.trans g3) (by omega) rx hz2⟩)
    | str s =>
      cases hi
      cases rx3
      obtain ⟨c, h4, h5⟩ := ixN_get hz1
      have el : (signs s).length = s.cps.toList.length := by unfold signs; rw [List.length_map]
      unfold signs at h5
      rw [List.getElem?_map] at h5
      obtain ⟨w, hw, ew⟩ := Option.map_eq_some_iff.mp h5
      subst ew
      refine .inr (.inr ⟨s, r, w, rfl, rfl, ?_, ?_, q _ _ S3 (g2.trans g3) (by omega) (.str _) hz2⟩)
      · rw [el] at hz; rw [Array.length_toList] at hz; exact hz
      · unfold atI; rw [← el, h4]; exact hw
    | _ => cases hi
theorem sql_hide {H : Hp} {a : Addr} {xs : List V} (h : SqL K H a xs) (hp : some a ≠ p) : SqL K (hide p H) a xs := by
  rcases h with (h | ⟨o, h⟩) | h
  · exact .inl (.inl (hide_of hp h))
  · exact .inl (.inr ⟨o, hide_of hp h⟩)
  · exact .inr h
def pickT (K : PySem.W.Frag) [LT K] : TS := (tRet (tOp (rIx K) (tVar 1) (tCall (spDraw K) [] E0 (tCons (tVar 0) (tCons (tCB (rLenA K) (tCons (tVar 1) tNil)) tNil)))))
theorem pick_run {vs : List V} {H : Hp} {Q : VK} {E : XK} {N : List Str} (h : spPick K vs H Q E) (hN : N.length = 2) : pickT K { nx := fun _ H' => Q .non H', rt := Q } (L2.start N vs) H := by
  refine fnN h (by rw [hN]; exact Nat.le_refl _) fun S0 a ds σ G hn hp st k => ?_
  match ds, hn, hp, st, k with
  | [d], _, ⟨es, he, hne, hl⟩, st, k =>
  have he : itemsD d = some es := he
  have hz : es.length ≤ sizeLine := Nat.le_trans hl (by rw [sizeLine_eq]; decide)
  have h0 : 0 < es.length := List.length_pos_iff.mpr hne
  refine s_retN (P := fun e => e ∈ es) st (en_ix (n := 1) (ed_var st rfl) he hz ?_) (by omega) (fun v d' S' hd g ht r => k v d' S' ⟨es, he, hd⟩ g (by omega) r)
  have hd1 : EvD K (some a) (tVar 1) σ S0 d := ed_var st rfl
  have hp : ∃ m : Int, dAt [.int (es.length : Int)] 0 = .int m ∧ 1 ≤ m ∧ m ≤ 1000000 := ⟨_, rfl, by omega, by omega⟩
  refine EvN.le (en_call (n := 1) (N := 1) (ds := [.int (es.length : Int)]) (ev_var st rfl) (ea_cons (ed_len (EvD.h hd1) (items_len he hz)) ea_nil) rfl hp) (Nat.le_refl _) ?_
  rintro e ⟨r, m, rfl, hm, h1, h2⟩
  cases hm
  exact ⟨r, rfl, h1, h2⟩
/-- the pen is laid -/
def penT (K : PySem.W.Frag) [LT K] : TS := (tRet (tLst (tCons (tLc (iList K (tSl (rSlL K) (tVar 0) tNoPart (tPart (tC (.int 63))))) (gName 1) tYes (tCB rInt1 (tCons (tVar 1) tNil)) [1]) (tCons (tC (.int 0)) (tCons (tC (.int 0)) tNil)))))
theorem cut63 {xs : List D} (h : xs.length ≤ 63) : cutL xs none (some 63) = xs := by
  have e : HT.sIx xs.length xs.length (some 63) = xs.length := by
    show HT.sIx xs.length xs.length (some ((63 : Nat) : Int)) = _
    rw [HT.sIx_nat]
    omega
  unfold cutL
  rw [e]
  show (xs.drop 0).take (xs.length - 0) = xs
  rw [List.drop_zero, Nat.sub_zero, List.take_length]
theorem pen_run {vs : List V} {H : Hp} {Q : VK} {E : XK} {N : List Str} (h : spPen K vs H Q E) (hN : N.length = 2) : penT K { nx := fun _ H' => Q .non H', rt := Q } (L2.start N vs) H := by
  obtain ⟨a, ns, F, rfl, hs, hl, ok, k⟩ := h
  have st : Sta K none ⟨F, H, 0⟩ F N.length 0 0 (L2.start N [V.ref a]) ⟨F, H, 0⟩ [(0, .val (.ref a))] := by
    refine ⟨ok, Gr.refl ok, fun _ _ q => q, start_len (by rw [hN]; exact Nat.le_succ 1), Nat.zero_le _, Nat.le_refl _, fun q hq => ?_, fun x hx b hb ne oa => ?_⟩
    · rw [List.mem_singleton.mp hq]
      exact ⟨.ref a, start_get rfl, rfl⟩
    · rw [List.mem_singleton.mp hx] at oa
      cases oa
  have hln : (ns.map D.int).length ≤ 63 := by rw [List.length_map]; exact hl
  have sl : EvD K none (tSl (rSlL K) (tVar 0) tNoPart (tPart (tC (.int 63)))) (L2.start N [V.ref a]) ⟨F, H, 0⟩ (.lst (ns.map D.int)) := by
    refine EvO.ed ?_
    intro S1 g Q q
    refine ev_var st rfl S1 g _ fun S2 g2 t2 => ?_
    refine ⟨63, rfl, a, ns.map V.int, rfl, Evl.ex_l hide_ex (Evl.ex_l (g.trans g2).hid (sql_hide hs (by intro z; cases z))), fun A hA => ?_⟩
    have r : Rps K S2.F (ns.map V.int) (ns.map D.int) := Rps.ints ns
    have r2 := r.cut none (some 63)
    rw [cut63 hln] at r2
    exact q A _ ⟨S2.F, upd S2.H A (.lst (cutV (ns.map V.int) none (some 63))), S2.T⟩ (g2.trans (Gr.newO g2.ok hA)) t2 (g2.fresh hA) upd_same (g2.ok.freshF hA) r2
  have lc : EvO K none (tLc (iList K (tSl (rSlL K) (tVar 0) tNoPart (tPart (tC (.int 63))))) (gName 1) tYes (tCB rInt1 (tCons (tVar 1) tNil)) [1]) (L2.start N [V.ref a]) ⟨F, H, 0⟩ (ns.map D.int) := by
    have := eo_lc (i := 1) (vs := [1]) (b := fun _ => true) (f := fun d => d) st (es_list sl) (by rw [hN]; decide) (by decide) (te := tCB rInt1 (tCons (tVar 1) tNil)) (tt := tYes) (fun d hd B' n' σ' S' st' => ⟨et_yes, fun _ => by
      obtain ⟨z, _, rfl⟩ := List.mem_map.mp hd
      exact ed_cb (eh_cons (EvD.h (ed_var st' rfl)) eh_nil) rc_intI⟩) (by rw [sizeLine_eq]; omega)
    have e : ∀ l : List D, (l.filter fun _ => true).map (fun d => d) = l := fun l => by induction l with
      | nil => rfl
      | cons x r ih => rw [List.filter_cons, if_pos rfl, List.map_cons, ih]
    rw [e] at this
    exact this
  refine (eo_lst (ea_cons lc.ed (ea_cons ed_int (ea_cons ed_int ea_nil))) (by rw [sizeLine_eq]; exact Nat.le_of_ble_eq_true rfl)) ⟨F, H, 0⟩ (Gr.refl ok) _ fun q vs S2 g2 t2 h0 h1 h2 r => ?_
  cases r with
  | cons r1 r => cases r with
    | cons r2 r => cases r with
      | cons r3 r =>
        cases r
        cases r2
        cases r3
        cases r1 with
        | @lst c xs _ h3 r4 =>
          have e := r4.ints_inv
          subst e
          have eT : S2.T = 0 := by have : S2.T ≤ 0 := t2; omega
          have g3 : Gr K none ⟨F, H, 0⟩ ⟨S2.F, S2.H, 0⟩ := by obtain ⟨F2, H2, T2⟩ := S2; cases (show T2 = 0 from eT); exact g2
          exact k q c S2.F S2.H g3 h3 h1 h2 h0
end
end DL
namespace DL
open PySem L2
open Evl (Ex)
section
variable {K : PySem.W.Frag} [LT K] {p : Option Addr} {S S0 S1 S2 S3 : Wd} {B : Hp} {σ σ' : L2.St} {te ta tb tc to : TE} {d d1 d2 d3 : D} {ds es : List D} {v : V} {m M n k : Nat} {P P1 P2 : D → Prop} {l l' : En} {i j : Nat} {t : Ty} {G : Ends}
theorem rd_eqI {a b : Int} : RD K p (rEqU K) (.int a) (.int b) (.bl (decide (a = b))) := RD.inl (rd_of (fun _ => .bl _) fun S1 x y o rx ry Q q => by
  cases rx; cases ry
  have e : decide (V.int a = V.int b) = decide (a = b) := by
    by_cases h : a = b
    · subst h; simp
    · rw [decide_eq_false h, decide_eq_false (fun z => h (V.int.inj z))]
  exact ⟨rfl, by rw [e]; exact q⟩)
/-! ## what is walked is drawn -/
def EvSN (K : PySem.W.Frag) [LT K] (p : Option Addr) (wi : TI) (σ : L2.St) (S : Wd) (n : Nat) (P : List DL.D → Prop) : Prop := ∀ S1, Gr K p S S1 → S1.T + n ≤ 1000000000 → ∀ R : It → Hp → Prop, (∀ J ds S2, Gr K p S1 S2 → S2.T ≤ S1.T + n → P ds → Src K p J S2.F ds → R J S2.H) → wi σ S1.H R
theorem es_rng1N (h : EvN K p te σ S n (fun d => ∃ z : Int, d = .int z ∧ 0 ≤ z ∧ z < 2 ^ 62 ∧ P (.int z))) : EvSN K p (iRng1 (tCons te tNil)) σ S n (fun ds => ∃ z : Int, ds = rng 0 z.toNat ∧ 0 ≤ z ∧ P (.int z)) := fun S1 g hb R q => h S1 g hb _ fun v d S2 g2 t2 r hp => by
  obtain ⟨z, rfl, h0, h1, pz⟩ := hp
  cases r
  exact ⟨z, rfl, Int.le_trans (by decide) h0, h1, q _ (rng 0 z.toNat) S2 g2 t2 ⟨z, rfl, h0, pz⟩ src_rng⟩
theorem rng_len {lo : Int} {n : Nat} : (rng lo n).length = n := by unfold rng; rw [List.length_map, List.length_range]
theorem en_lcN {wi : TI} {vs : List Nat} {w L : Nat} {PS : List DL.D → Prop} {R : DL.D → DL.D → Prop} (h : Sta K p S0 B m M n σ S l) (hq : EvSN K p wi σ S k PS) (hi : i < m) (hv : vs.contains i = true) (hL : ∀ ds, PS ds → ds.length ≤ L) (hz : L < sizeLine)
    (he : ∀ ds, PS ds → ∀ d ∈ ds, ∀ B' n' σ' S', Sta K p S0 B' m M n' σ' S' (put i (.dat d) (l.filter fun q => !vs.contains q.1)) → EvN K p te σ' S' w (R d)) :
    EvON K p (tLc wi (gName i) tYes te vs) σ S (k + L * w) (fun es => ∃ ds, PS ds ∧ es.length = ds.length ∧ ∀ (c : Nat) (d e : DL.D), ds[c]? = some d → es[c]? = some e → R d e) := by
  intro S1 g1 hB Q q
  refine hq S1 g1 (by omega) _ fun J ds S2 g2 t2 ps src => ?_
  have st2 := h.any (g1.trans g2)
  have hw : ds.length * w ≤ L * w := Nat.mul_le_mul_right w (hL ds ps)
  have hs : EvS K p (fun _ H R => R J H) σ S2 ds := fun S3 g3 R q => q J S3 (Gr.refl g3.ok) (Nat.le_refl _) fun S' e o c => src S' (g3.ff.trans e) o c
  have main := en_lc (wi := fun _ H R => R J H) (w := w) (R := R) st2 hs hi hv (he ds ps) (Nat.lt_of_le_of_lt (hL ds ps) hz) S2 (Gr.refl g2.ok) (by omega) Q (fun a us es S3 g3 t3 h0 h1 h2 r hp => q a us es S3 (g2.trans g3) (by omega) (g2.fresh h0) h1 h2 r ⟨ds, ps, hp⟩)
  exact main
theorem en_join {a : Str} {PS : List DL.D → Prop} (ha : EvD K p ta σ S (.str a)) (hb : EvON K p tb σ S n PS) (hz : ∀ ds, PS ds → ∃ ys : List Str, ds = ys.map DL.D.str ∧ (ys.map (·.length)).sum + ys.length * a.length ≤ 16777216) :
    EvN K p (tM1 (rJoin K) ta tb) σ S n (fun d => ∃ ys : List Str, PS (ys.map DL.D.str) ∧ d = .str (Txt.join a ys)) := fun S1 g hB Q q =>
  ha S1 g _ fun x S2 g2 t2 r2 => by
    cases r2
    refine ⟨⟨a, rfl⟩, hb S2 (g.trans g2) (by omega) _ fun y xs ds S3 g3 t3 h0 h1 h2 r3 ps => ?_⟩
    obtain ⟨ys, rfl, hz⟩ := hz ds ps
    have e := r3.strs_inv
    subst e
    exact ⟨a, y, ys, rfl, rfl, .inl (.of h1), hz, q _ _ S3 (g2.trans g3) (by omega) (.str _) ⟨ys, ps, rfl⟩⟩
end
theorem str_len_app (a b : Str) : (a ++ b).length = a.length + b.length := Array.size_append
theorem join_len (y : Str) : ∀ parts : List Str, (Str.join y parts).length ≤ (parts.map (·.length)).sum + parts.length * y.length
  | [] => Nat.zero_le _
  | [x] => by
    show x.length ≤ ([x].map (·.length)).sum + 1 * y.length
    rw [List.map_cons, List.map_nil, List.sum_cons, List.sum_nil]
    omega
  | x :: z :: r => by
    have ih := join_len y (z :: r)
    show (x ++ y ++ Str.join y (z :: r)).length ≤ _
    rw [str_len_app, str_len_app, List.map_cons, List.sum_cons, List.length_cons, Nat.add_mul, Nat.one_mul]
    omega
theorem strs_of {P : Str → Prop} : ∀ {es : List D}, (∀ e ∈ es, ∃ s, e = .str s ∧ P s) → ∃ ys : List Str, es = ys.map D.str ∧ ∀ y ∈ ys, P y
  | [], _ => ⟨[], rfl, fun y hy => by cases hy⟩
  | e :: es, h => by
    obtain ⟨s, rfl, ps⟩ := h e List.mem_cons_self
    obtain ⟨ys, rfl, q⟩ := strs_of fun e he => h e (List.mem_cons_of_mem _ he)
    refine ⟨s :: ys, rfl, fun y hy => ?_⟩
    rcases List.mem_cons.mp hy with rfl | hy
    · exact ps
    · exact q y hy
theorem lc_all {ds es : List D} {R : D → D → Prop} (hl : es.length = ds.length) (h : ∀ (c : Nat) (d e : D), ds[c]? = some d → es[c]? = some e → R d e) : ∀ e ∈ es, ∃ d ∈ ds, R d e := fun e he => by
  obtain ⟨c, hc⟩ := List.mem_iff_getElem?.mp he
  have hlt : c < ds.length := by rw [← hl]; exact (List.getElem?_eq_some_iff.mp hc).1
  exact ⟨ds[c], List.getElem_mem hlt, h c _ _ (List.getElem?_eq_getElem hlt) hc⟩
theorem sum_le {n : Nat} : ∀ {ys : List Str}, (∀ y ∈ ys, y.length ≤ n) → (ys.map (·.length)).sum ≤ ys.length * n
  | [], _ => Nat.zero_le _
  | y :: ys, h => by
    have ih := sum_le (ys := ys) fun y hy => h y (List.mem_cons_of_mem _ hy)
    have h1 := h y List.mem_cons_self
    rw [List.map_cons, List.sum_cons, List.length_cons, Nat.add_mul, Nat.one_mul]
    omega
end DL
namespace DL
open PySem L2
open Evl (Ex)
section
variable {K : PySem.W.Frag} [LT K] {p : Option Addr} {S S0 S1 S2 S3 : Wd} {B : Hp} {σ σ' : L2.St} {te ta tb tc to : TE} {d d1 d2 d3 : D} {ds es : List D} {v : V} {m M n k : Nat} {P P1 P2 : D → Prop} {l l' : En} {i j : Nat} {t : Ty} {G : Ends}
theorem ed_pow {x n : Int} {k : Nat} (h1 : EvD K p ta σ S (.int x)) (h2 : EvD K p tb σ S (.int n)) (hk : CPowI x n) : EvD K p (tOp (rI CPowI fun i j => .int (i ^ j.toNat)) ta tb) σ S (.int (x ^ n.toNat)) := ed_op h1.h h2.h (rd_I (f := fun i j => i ^ j.toNat) hk)
theorem rep3 (a b c : Bool) : RC K p (rRepr K) [.lst [.bl a, .bl b, .bl c]] (.str (D.lst [.bl a, .bl b, .bl c]).py.shown) :=
  rc_reprL (by cases a <;> cases b <;> cases c <;> decide +kernel) (by cases a <;> cases b <;> cases c <;> decide +kernel) (by cases a <;> cases b <;> cases c <;> decide +kernel) (by cases a <;> cases b <;> cases c <;> decide +kernel) (by rw [sizeLine_eq]; cases a <;> cases b <;> cases c <;> decide +kernel)
end
end DL
namespace DL
open PySem L2
open Evl (Ex)
theorem pls_strs : ∀ ss : List Str, D.pls (ss.map D.str) = true
  | [] => by simp [D.pls]
  | s :: ss => by simp [D.pls, D.pl, pls_strs ss]
theorem pys_strs : ∀ ss : List Str, D.pys (ss.map D.str) = ss.map PyData.str
  | [] => by simp [D.pys]
  | s :: ss => by simp [D.pys, D.py, pys_strs ss]
theorem canLay_strs : ∀ ss : List Str, (∀ s ∈ ss, PyData.strOk s = true) → PyData.canLayAll0 (ss.map PyData.str) = true
  | [], _ => by simp [PyData.canLayAll0]
  | s :: ss, h => by
    have h1 := h s List.mem_cons_self
    have h2 := canLay_strs ss fun x hx => h x (List.mem_cons_of_mem _ hx)
    simp [PyData.canLayAll0, PyData.canLay0, h1, h2]
theorem sh_strs (ss : List Str) (h : ∀ s ∈ ss, PyData.strOk s = true) : (D.lst (ss.map D.str)).sh = true := by
  have e : (D.lst (ss.map D.str)).py = .list (ss.map PyData.str) := by simp only [D.py, pys_strs]
  have hd : ∀ ss : List Str, PyData.depthAll (ss.map PyData.str) = 0 := by
    intro ss
    induction ss with
    | nil => simp [PyData.depthAll]
    | cons x r ih => simp [PyData.depthAll, PyData.depth, ih]
  unfold D.sh
  rw [e, Bool.and_eq_true]
  refine ⟨by simp only [D.pl]; exact pls_strs ss, ?_⟩
  unfold SeqAt.shaped
  rw [Bool.and_eq_true]
  refine ⟨?_, decide_eq_true ?_⟩
  · simp only [PyData.canLay0]; exact canLay_strs ss h
  · simp only [PyData.depth, hd]; decide
section
variable {K : PySem.W.Frag} [LT K] {p : Option Addr} {S S0 S1 S2 S3 : Wd} {B : Hp} {σ σ' : L2.St} {te ta tb tc to : TE} {d d1 d2 d3 : D} {ds es : List D} {v : V} {m M n k : Nat} {P P1 P2 : D → Prop} {l l' : En} {i j : Nat} {t : Ty} {G : Ends}
theorem rd_eqSame (h : d.sh = true) : RD K p (rEqU K) d d (.bl true) := by
  have q := rd_eqU (K := K) (p := p) h h
  have e : eqD d d = true := PySem.SeqAt.eqv_refl _ (PySem.SeqAt.canLay_of_shaped (D.sh_sh h))
  rw [e] at q
  exact q
theorem ed_disp1 {a : Str} {z : Int} : EvOD K p (tDisp [((tC (.str a)), (tC (.int z)))]) σ S [(.inr a, .int z)] := fun S1 g Q q => by
  intro A hA
  refine ⟨upd_same, [(.inr a, .int z)], rfl, Nat.le_of_ble_eq_true rfl, ?_⟩
  have e : upd (upd S1.H A (.dK [])) A (.dK (mergeK [] [(.inr a, V.int z)])) = upd S1.H A (.dK [(.inr a, V.int z)]) := by
    funext b
    by_cases h : b = A
    · subst h; rw [upd_same, upd_same]; rfl
    · rw [upd_ne h, upd_ne h, upd_ne h]
  rw [e]
  exact q A [(.inr a, .int z)] ⟨S1.F, upd S1.H A (.dK [(.inr a, V.int z)]), S1.T⟩ (Gr.newO g.ok hA) (Nat.le_refl _) hA upd_same (g.ok.freshF hA) rfl (.cons (.int z) .nil)
end
theorem addU_mem {α : Type} [DecidableEq α] (l : List α) (x y : α) : y ∈ addU l x ↔ y ∈ l ∨ y = x := by
  unfold addU
  split
  · rename_i h
    obtain ⟨z, hz, e⟩ := List.any_eq_true.mp h
    have e2 := of_decide_eq_true e
    subst e2
    exact ⟨fun q => .inl q, fun q => q.elim id fun e => by rw [e]; exact hz⟩
  · rw [List.mem_append, List.mem_singleton]
theorem uniq_mem {α : Type} [DecidableEq α] (l : List α) (y : α) : y ∈ uniq l ↔ y ∈ l := by
  unfold uniq
  have : ∀ (l acc : List α), y ∈ l.foldl addU acc ↔ y ∈ acc ∨ y ∈ l := by
    intro l
    induction l with
    | nil => intro acc; simp
    | cons x r ih =>
      intro acc
      rw [List.foldl_cons, ih, addU_mem, List.mem_cons, or_assoc]
  rw [this l []]
  simp
end DL
namespace DL
open PySem PySem.Spec PyProof.Rows L2 LamX NdefX
/-! ## an own exception's __init__ that says super().__init__(..) first -/
structure SInit (P : Program) (K : PySem.W.Frag) (mg : Str → Option Value) (fI : Addr) (F : NF) (slf : Str) (D cc : Addr) (doc pm ctv oc : Value) (od : Option Addr) (osl : Array (Option Value)) : Prop where
  fn : K.lookup fI = some ⟨oc, od, .func (F.fd doc pm ctv), osl⟩
  code : PySem.W.codeIn K (.ref F.c) F.qual = true
  cobj : ∃ (cl : Value) (cd : Option Addr) (vs : Array Value) (cs : Array (Option Value)) (file : Str) (tf : Tok), K.lookup F.c = some ⟨cl, cd, .fields vs, cs⟩ ∧ vs[2]? = some (.str file tf) ∧ ((P.main.file : Str) == file) = true
  cl : F.cl = [(("__class__" : Str), cc)]
  cell : ∃ (cl : Value) (cd : Option Addr) (cs : Array (Option Value)), K.lookup cc = some ⟨cl, cd, .cell (some (.ref D)), cs⟩
  cls : ∃ cd, PySem.W.clsIn K D = some cd
  sup : mg "super" = none
  top : (P.main.scope.names.lookup ("super" : Str)).isSome = false
  par : ∃ ar, ((F.fd doc pm ctv).params.posonlyargs ++ (F.fd doc pm ctv).params.args).head? = some ar ∧ ar.arg = slf
  ks : F.scope.names.lookup ("super" : Str) = some .globalImplicit
  any : PySem.W.nsIn K PySem.cStatics "thirdparty.any" = some none
/-- a class below D whose __init__ behind D's is ValueError's -/
structure SCls (K : PySem.W.Frag) (D C : Addr) : Prop where
  T : OexC K C
  sub : PySem.W.mroIn K C (.ref D) = some true
  find : PySem.W.ks_superIn K C D "__init__" = some (some (.builtin "ValueError.__init__"))
  ve : PySem.W.subIn K (.ref C) (.type "ValueError") = some true
def tSI (K : PySem.W.Frag) (D : Addr) (ta : TA) (tr : TS) : TS := fun En σ H => ∃ a C : Addr, σ[0]? = some (some (.ref a)) ∧ SCls K D C ∧ H a = some (exo a C none) ∧
  ta σ H fun vs H1 => vs.length ≤ sizeLine ∧ H1 a = some (exo a C none) ∧ tr En σ H1
section
variable {CX : CXT} {P : Program} {w : World} {K : PySem.W.Frag} {mg : Str → Option Value} {base : Heap} {N ps : List Str} {F : NF} {fI D cc : Addr} {slf : Str} {doc pm ctv oc : Value} {od : Option Addr} {osl : Array (Option Value)}
theorem sinit_run {e : Expr} {es : List Expr} {rest : List Stmt} {p0 p1 p2 p4 p5 : Pos} {ta : TA} {tr : TS} (SI : SInit P K mg fI F slf D cc doc pm ctv oc od osl) (S : NScope N (slf :: ps) ["__class__"] F.scope)
    (hbody : F.body = .Expr (.Call (.Attribute (.Call (.Name "super" p0) [] [] p1) "__init__" p2) (e :: es) [] p4) p5 :: rest)
    {A : Around} {outer : List Env} {s : Shared} {H : Hp} {args : Args} {us : List Value} {vs : List V} {Q : VK} {E : XK} (hr : Room 1 A) (e0 : Env0 P w K mg base A outer s H) (hb : BindsTo s (F.fd doc pm ctv) args ((slf :: ps).zip us)) (hv : Vals vs us) (hl : vs.length = (slf :: ps).length)
    (ha : PA (ncx CX P w K mg base N F fI A outer s H E) (e :: es) ta) (hrest : PSs (ncx CX P w K mg base N F fI A outer s H E) rest tr)
    (h : tSI K D ta tr { nx := fun _ H' => Q .non H', rt := Q } (startF N vs [none]) H)
    (he : starEach (e :: es) (envF F fI s.heap.objs.size) = (false, eval e (envF F fI s.heap.objs.size)) :: starEach es (envF F fI s.heap.objs.size) := by rfl) (hpl : ∀ pos, (backTo pos (starEach es (envF F fI s.heap.objs.size))).any (·.1) = false := by intro _; rfl)
    (hi : interactive (envF F fI s.heap.objs.size) = false := by rfl) {pl : Sem Bool}
    (hc : eval (.Call (.Attribute (.Call (.Name "super" p0) [] [] p1) "__init__" p2) (e :: es) [] p4) (envF F fI s.heap.objs.size) = (do
      let ov ← attributeBase (.Call (.Name "super" p0) [] [] p1) "__init__" (envF F fI s.heap.objs.size) (eval (.Call (.Name "super" p0) [] [] p1) (envF F fI s.heap.objs.size))
      standAt p2.atName
      let (f, first) ← holding [ov] (getMethod ov "__init__" pl)
      callWith p4 f first (backTo p4 (starEach (e :: es) (envF F fI s.heap.objs.size))) []) := by rfl) :
    codeAny (model P w) A (.call (.ref fI) args) (CR CX outer P w H s Q E) s := by
  have KX : K.In s.heap := e0.mod.kin.keeps fun b o e => (e0.bs b o e).1
  have lim : s.heap.NoLimit := e0.mod.nolimit.keeps fun b o e => (e0.bs b o e).1
  obtain ⟨ccl, ccd, cvs, ccs, file, tf, hco, hvs2, hfile⟩ := SI.cobj
  obtain ⟨cecl, cecd, cecs, hcell⟩ := SI.cell
  obtain ⟨cdD, hclsD⟩ := SI.cls
  obtain ⟨ar, hpar, har⟩ := SI.par
  have hcc : H cc = none := (e0.bs cc _ (e0.mod.kin _ _ hcell)).2
  have C0 : CellsAt F.cl ["__class__"] [none] s.heap H := by
    rw [SI.cl]
    refine ⟨rfl, fun y c hy => ?_, fun x y c hx hy => ?_, fun i y hy => ?_⟩
    · have q := PySem.mem_of_lookup hy
      simp only [List.mem_singleton, Prod.mk.injEq] at q
      obtain ⟨_, rfl⟩ := q
      exact ⟨hcc, _, _, KX _ _ hcell, rfl⟩
    · have q1 := PySem.mem_of_lookup hx
      have q2 := PySem.mem_of_lookup hy
      simp only [List.mem_singleton, Prod.mk.injEq] at q1 q2
      rw [q1.1, q2.1]
    · match i, hy with
      | 0, hy =>
        simp at hy
        subst hy
        exact ⟨cc, rfl, fun v hv => by simp at hv⟩
      | i + 1, hy => simp at hy
  refine PySem.ks_codeAny_call_defAt (fd := F.fd doc pm ctv) (body := F.body) (binds := (slf :: ps).zip us) hr.depth (KX _ _ SI.fn) rfl lim (PySem.W.codeRec_of KX SI.code) rfl hb S.nocell (fun ⟨n, _⟩ hy => S.par n (List.of_mem_zip hy).1) (fun h₀ hns kp => ?_) S.co S.gen S.kind
  have I0 : Inv (ncx CX P w K mg base N F fI A outer s H E) [] (startF N vs [none]) H { s with heap := h₀, toks := s.toks + ((slf :: ps).zip us).length } := inv_startN S hr.hd e0 hl hv C0 hns kp
  obtain ⟨a, C, hs0, SC, hH, hq⟩ := h
  obtain ⟨u, us', rfl, hva⟩ : ∃ u us', us = u :: us' ∧ u = .ref a := by
    cases hv with
    | nil => simp at hl
    | cons r rs =>
      unfold startF at hs0
      simp only [List.map_cons, List.cons_append, List.getElem?_cons_zero, Option.some.injEq] at hs0
      subst hs0
      exact ⟨_, _, rfl, r⟩
  subst hva
  have kiC : F.scope.names.lookup ("__class__" : Str) = some .free := S.frk _ (by simp)
  have hu0 : (((slf :: ps).zip (.ref a :: us')).reverse).lookup slf = some (.ref a) := by
    have ndP : (slf :: ps).Nodup := by
      have q := S.nd.sublist (List.take_sublist ((slf :: ps).length + (["__class__"] : List Str).length) N)
      rw [S.pre] at q
      exact (List.nodup_append.mp q).1
    exact zip_look (i := 0) ndP rfl rfl
  obtain ⟨t1, ho⟩ := exo_at I0.hok hH
  rw [hbody]
  obtain ⟨mb, hnb, hbb⟩ := I0.mod.blt
  refine PySem.ks_wpAt_execs_cons (PySem.ks_wpAt_Expr_any (PySem.ks_wpAt_MethodCall (PySem.ks_wpAt_super_base (env := envF F fI s.heap.objs.size) SI.ks kiC rfl rfl (I0.kIn _ _ SI.fn) rfl hpar rfl (I0.kIn _ _ hco) rfl hvs2 hfile SI.top ?_) hc) hi)
  refine PySem.W.ks_loadName_global S.kind SI.ks (PySem.Calls.loadGlobal_builtin (env := envF F fI s.heap.objs.size) (I0.mod.glob.keeps I0.bk) SI.sup (hnb.keeps I0.bk) ((hbb _ (by decide)).trans (by decide +kernel : bootBuiltins "super" = some (.type "super"))) ⟨rfl, ?_⟩)
  refine wpAny_loadName_free (c := cc) S.kind kiC (by show F.cl.lookup _ = _; rw [SI.cl]; rfl) ⟨_, I0.kIn _ _ hcell, rfl⟩ ?_
  rw [har]
  refine wpAny_loadName_local S.kind (S.par slf (by simp)) hns hu0 ?_
  obtain ⟨oD, hD1, hD2⟩ : ∃ oD, h₀.get? D = some oD ∧ oD.data = .cls cdD := by
    have kin := I0.kIn
    unfold PySem.W.clsIn at hclsD
    split at hclsD
    · rename_i c d cd' sl ho
      cases hclsD
      exact ⟨_, kin _ _ ho, rfl⟩
    · cases hclsD
  refine PySem.ks_wpAny_isType_cls hD1 hD2 ⟨rfl, ?_⟩
  refine PySem.ks_wpAny_call_super hD1 hD2 ho rfl (fun c z => by cases z) (PySem.W.looks_mroIn I0.kIn SC.sub) (fun h1 hso k1 => ?_)
  have I1 : Inv (ncx CX P w K mg base N F fI A outer s H E) [] (startF N vs [none]) H { s with heap := h1, toks := s.toks + ((slf :: ps).zip (Value.ref a :: us')).length } := I0.kept k1
  have ho1 := k1 _ _ ho
  obtain ⟨nm, q, NN, bs, bm, sn, sub, ab, col, dd, k0, k1', k2, k3, k5, hC, hbm⟩ := SC.T.cls
  have hcl : PySem.W.clsIn K C = some { name := nm, bases := bs, mro := .ref C :: bm, ns := NN, qualname := q, hasDict := true, slotNames := sn, subclasses := sub, abstract := ab, collection := col, hasDel := false } := by unfold PySem.W.clsIn; rw [hC] <;> rfl
  have IA : PySem.W.InstAt h1 a _ C none := ⟨ho1, rfl, rfl, trivial⟩
  have hm := SC.find
  unfold PySem.W.ks_superIn at hm
  rw [hcl] at hm
  refine PySem.W.kxs_getMethod PySem.W.kxs_ValueError hso (PySem.W.looks_opaque I1.kIn SI.any) (l₀ := .ref C :: bm) (fun A Q E s k q => wpAny_bind ((PySem.W.looks_clsIn I1.kIn hcl) A _ E s k (wpAny_pure q))) rfl I1.kIn hm (IA.type.andThen (PySem.W.looks_subIn I1.kIn SC.ve)) (PySem.W.ks_ne I1.kIn IA hcl) rfl ?_
  have hu2 : (h1.push (PySem.W.kxs_mw "ValueError.__init__" a)).get? h1.objs.size = some (PySem.W.kxs_mw "ValueError.__init__" a) := Heap.get?_push_at rfl rfl
  have I2 : Inv (ncx CX P w K mg base N F fI A outer s H E) [] (startF N vs [none]) H { s with heap := h1.push (PySem.W.kxs_mw "ValueError.__init__" a), toks := s.toks + ((slf :: ps).zip (Value.ref a :: us')).length + 1 } := I1.kept (t' := s.toks + ((slf :: ps).zip (Value.ref a :: us')).length + 1) fun b o e => Heap.get?_push_of_some _ e
  have nofr : ∀ f, h1.objs.size ≤ f → f ∉ frs (ncx CX P w K mg base N F fI A outer s H E).stack := fun f hf z => by
    rcases List.mem_cons.mp (I1.stkSub _ z) with e | e
    · have h1 := I1.lt
      rw [← e] at h1
      exact Nat.lt_irrefl _ (Nat.lt_of_lt_of_le h1 hf)
    · exact I1.nofs hf e
  have I3 : Inv (ncx CX P w K mg base N F fI A outer s H E) [(h1.objs.size, PySem.W.kxs_mw "ValueError.__init__" a)] (startF N vs [none]) H { s with heap := h1.push (PySem.W.kxs_mw "ValueError.__init__" a), toks := s.toks + ((slf :: ps).zip (Value.ref a :: us')).length + 1 } :=
    I2.pins_of fun p hp => by
      rcases List.mem_singleton.mp hp with rfl
      refine ⟨hu2, I1.hok.fresh (Nat.le_refl _), fun z => ?_, ?_, fun v z => by cases z⟩
      · exact Nat.lt_irrefl _ (Nat.lt_of_lt_of_le I1.lt (Nat.le_of_eq z))
      · exact fun z => I1.nofs (Nat.le_refl _) z
  show wpAny (model P w) _ (callWith p4 (.ref h1.objs.size) [] (backTo p4 (starEach (e :: es) (envF F fI s.heap.objs.size))) []) _ _ _
  refine PySem.W.kxs_callWith (i := "ValueError.__init__") (x := a) (u := h1.objs.size) (by rw [he]; exact (Bool.false_or _).trans (hpl p4)) ?_
  rw [he]
  refine PySem.Calls.evalArgs_plain ?_
  have haa := ha.run p4 _ _ _ _ _ I3 hq
  rw [show (ncx CX P w K mg base N F fI A outer s H E).env = envF F fI s.heap.objs.size from rfl, he] at haa
  refine thn haa fun us2 s2 hAP => ?_
  obtain ⟨vs2, H2, I4, r2, hl2, hH2, hq2⟩ := hAP
  have hu4 : s2.heap.get? h1.objs.size = some (PySem.W.kxs_mw "ValueError.__init__" a) := (I4.pin (h1.objs.size, PySem.W.kxs_mw "ValueError.__init__" a) (List.mem_append_right _ (List.mem_singleton.mpr rfl))).1
  refine ⟨hu4, ?_⟩
  have hl2' : us2.length ≤ sizeLine := by rw [← r2.length]; exact hl2
  obtain ⟨t4, ho4⟩ := exo_at I4.hok hH2
  obtain ⟨hp, g, d, tk, os⟩ := s2
  refine wpAny_call (codeAny_of_tree ?_)
  show wpAny _ _ (callAny (.ref h1.objs.size) ⟨[] ++ us2, []⟩) _ _ _
  simp only [callAny]
  refine wpAny_bind (wpAny_load hu4 ?_)
  simp only [PySem.W.kxs_mw, show (Value.type "method-wrapper" == Value.type "method" || Value.type "method-wrapper" == Value.type "builtin_function_or_method" || Value.type "method-wrapper" == Value.type "method-wrapper") = true by decide, if_true]
  refine PySem.W.KFB.if_so (by decide) ?_
  refine wpAny_bind (PySem.W.check_bound_init PySem.F.excBase_ValueError.toExcCallFacts (I4.kIn _ _ hC) ho4 rfl ?_)
  refine wpAny_bind (wpAny_pure (wpAny_pure ?_))
  refine ⟨plainId_quiet PySem.F.excBase_ValueError.init.plain _, codeAny_builtin PySem.F.excBase_ValueError.initEntry ?_⟩
  refine PySem.W.exc_init_tree (cls := .ref C) (t0 := t4) (dv := none) (c2 := .none) (c3 := .none) (b4 := .bool false) ho4 hl2' (fun h' k hx _ => ?_)
  have J := I4.write (t' := tk) (x := a) (e := a) (o := exo a C none) (by rw [hH2]; exact True.intro) (.inl rfl) k ⟨_, hx⟩ (exo_ok hx)
  have eu : upd H2 a (exo a C none) = H2 := by
    funext b
    by_cases hb : b = a
    · rw [hb, upd_same, hH2]
    · rw [upd_ne hb]
  rw [eu] at J
  have J0 : Inv (ncx CX P w K mg base N F fI A outer s H E) [] (startF N vs [none]) H2 { heap := h', gens := g, drawn := d, toks := tk, os := os } := J.pins_of fun p hp => absurd hp (by simp)
  refine wpAt_of_wpAny ?_
  refine wpAny_mono (hrest.run [] _ _ _ _ J0 hq2) (fun fl s' hs => ?_) fun e s' hs => hs
  have fin : ∀ {σ' : L2.St} {H' : Hp} {v : V} {u : Value}, Inv (ncx CX P w K mg base N F fI A outer s H E) [] σ' H' s' → L2.RelV v u → Q v H' → CE outer P w H s Q u s' :=
    fun {σ' H' v u} J rv q => ⟨v, H', J.os, J.bare, J.base, J.hok, rv, q⟩
  cases fl with
  | ret u =>
    obtain ⟨v, σ', H', J, rv, q⟩ := hs
    exact fin J rv q
  | next =>
    obtain ⟨σ', H', J, q⟩ := hs
    exact fin (v := V.non) (u := Value.none) J rfl q
  | brk =>
    obtain ⟨_, _, _, q⟩ := hs
    exact False.elim q
  | cont =>
    obtain ⟨_, _, _, q⟩ := hs
    exact False.elim q
end
end DL
namespace DL
open PySem PySem.Spec PyProof.Rows L2
/-! ## try: body / except x as n: suite; what stands behind it still knows the exception that was caught -/
/-- the suite's wish: behind it stands the rest of the body, u where nothing was raised, v where a was caught -/
def wKeep (K : PySem.W.Frag) (c : Value) (i : Nat) (ts : Addr → Value → Option Addr → TS) (v : Addr → Value → Option Addr → TS) (Wout : WX) (En : Ends) : WX := fun cls d σ H =>
  ∃ b, PySem.W.exmOne K cls c = some b ∧ (b = true → ∀ a, H a = none → ts a cls d { nx := fun σ' H' => H' a = none ∧ v a cls d En (σ'.set i none) H', rt := fun _ _ => False, bk := fun _ _ => False, ct := fun _ _ => False } (σ.set i (some (.ref a))) H) ∧ (b = false → Wout cls d σ H)
section
variable {X : Cx} {x n : Str} {c : Value} {i : Nat} {body suite rest : List Stmt} {b₀ : Stmt} {np pos pos' : Pos} {tb : WX → TS} {ts v : Addr → Value → Option Addr → TS} {u : TS} {Wout : WX}
theorem pss_try_rest (hs : X.stack = X.env :: X.outer) (hf : X.env.frame = some X.env.locals) (hN : X.N.Nodup) (hi : X.N[i]? = some n) (hln : X.env.kindOf n = some .local) (hc : Names X x c) (tk : Takes X Wout)
    (hb : ∀ (W : WX) (pn : List (Addr × Obj)) (xe : Value → Shared → Prop), Takes (X.tr pn xe) W → PassesOwn (model X.prog X.w) X.A X.env xe → PSs (X.tr pn xe) body (tb W))
    (hsu : ∀ (a : Addr) (oe : Obj) (cls : Value) (d : Option Addr) (pn : List (Addr × Obj)), Zc cls d oe → (∃ vs, oe.data = .fields vs) → PSs (X.suite a ((a, oe) :: pn)) (b₀ :: suite) (ts a cls d))
    (hu : PSs X rest u)
    (hv : ∀ (a : Addr) (oe : Obj) (cls : Value) (d : Option Addr) (pn : List (Addr × Obj)), (a, oe) ∈ pn → Zc cls d oe → (∃ vs, oe.data = .fields vs) → PSs (X.tr pn X.xe) rest (v a cls d)) :
    PSs X (.Try body [.ExceptHandler (some (.Name x np)) (some n) (b₀ :: suite) pos'] [] [] pos :: rest) (fun En σ H => tb (wKeep X.K c i ts v Wout En) { En with nx := u En } σ H) := by
  refine ⟨fun pins s σ H En I h => ?_⟩
  have ok := I.ok
  have fr : X.A.frames = some (X.env :: X.outer) := ok.frames.trans (congrArg some hs)
  refine wpAny_execs_cons (wpAny_Try_except (wpAny_mono ((hb (wKeep X.K c i ts v Wout En) (X.pn ++ pins) (fun er s₁ => wpAny (model X.prog X.w) X.A (noteFrame er X.env) (fun _ s₂ =>
    wpAny (model X.prog X.w) X.A (setFlight er none) (fun _ s₃ => wpAny (model X.prog X.w) X.A (handleBy er X.env [.ExceptHandler (some (.Name x np)) (some n) (b₀ :: suite) pos'])
      (fun f s' => match f with | .next => wpAny (model X.prog X.w) X.A (execs rest X.env) (SP X pins En) X.xe s' | f => SP X pins En f s') X.xe s₃) X.xe s₂) X.xe s₁) ?takes PassesOwn.looking).run [] s σ H _ (I.toTry _) h) ?fine fun _ _ z => z))
  case fine =>
    intro f s1 q
    cases f with
    | next =>
      obtain ⟨σ1, H1, J1, q1⟩ := q
      exact wpAny_execs_nil (hu.run pins s1 σ1 H1 En (J1.ofTry ok) q1)
    | brk =>
      obtain ⟨σ1, H1, J1, q1⟩ := q
      exact ⟨σ1, H1, J1.ofTry ok, q1⟩
    | cont =>
      obtain ⟨σ1, H1, J1, q1⟩ := q
      exact ⟨σ1, H1, J1.ofTry ok, q1⟩
    | ret w =>
      obtain ⟨w1, σ1, H1, J1, r1, q1⟩ := q
      exact ⟨w1, σ1, H1, J1.ofTry ok, r1, q1⟩
  case takes =>
    intro er s' air
    obtain ⟨a, G, sI, pq, σ1, H1, cls, d, ea, J1, gr, up, sk, na, os, bare, b, eb, yes, no⟩ := air
    subst ea
    have J : Inv X pins σ1 H1 sI := J1.ofTry ok
    rw [hs] at sk
    refine Sky.land Zc.steady fr hf sk fun ha fa ua => ?_
    have Ja : Inv X pins σ1 H1 { s' with heap := ha } := J.landed gr fa.1 (up.trans ua) os bare
    obtain ⟨oa, va, ga, za, da⟩ := fa.there
    have off : a ∉ frs (X.env :: X.outer) := fun hm => by
      obtain ⟨_, o', e', nf⟩ := fa.2.2.1.mem hm
      rw [ga] at e'
      cases e'
      exact nf _ da
    have offL : a ≠ X.env.locals := fun z => off (List.mem_filterMap.mpr ⟨X.env, List.mem_cons_self, hf.trans (congrArg some z.symm)⟩)
    have offF : a ∉ X.fs := fun hm => by
      obtain ⟨e1, h1, h2⟩ := List.mem_filterMap.mp hm
      exact off (List.mem_filterMap.mpr ⟨e1, List.mem_cons_of_mem _ h1, h2⟩)
    refine wpAny_handleBy_cons (codeAny_handlers_test ?_) (by intro z; cases z)
    have look : PySem.W.Looks (model X.prog X.w) ha (typeOf (.ref a)) cls := fun A1 Q1 E1 s1 k1 q1 => wpAny_typeOf_ref (k1 _ _ ga) (by rw [za.1]; exact q1)
    have S1 := Ja.suite ga da na offL offF
    have test : ∀ {Q1 : Value → Shared → Prop} {E1 : Value → Shared → Prop}, Q1 c { s' with heap := ha } → wpAny (model X.prog X.w) (X.A.mark (some (.ref a))) (eval (.Name x np) X.env) Q1 E1 { s' with heap := ha } := fun {Q1 E1} q1 => by
      obtain ⟨h1, h2, h3 | ⟨h3, h4, h5⟩⟩ := hc
      · exact ld_glob (X := X.suite a ((a, oa) :: (X.pn ++ pins))) S1 h1 h3 q1 h2
      · exact ld_blt (X := X.suite a ((a, oa) :: (X.pn ++ pins))) S1 h1 h3 h4 q1 h5 h2
    refine test ((PySem.W.exm_one (M := model X.prog X.w) Ja.kIn look eb).here ?_)
    cases b with
    | false =>
      show wpAny _ X.A (handleBy (.ref a) X.env []) _ _ _
      refine wpAny_handleBy_nil ?_
      obtain ⟨_, _, _, oe, vs, T, oT, ts', he, hz, hd, h1, hr⟩ := id fa
      unfold PySem.passOn
      refine wpAny_bind (wpAny_field he hd h1 ?_)
      rw [if_neg (show ¬ ((Value.ref T == Value.none) = true) by simp)]
      have away : ∀ {Q1 : Flow → Shared → Prop}, wpAny (model X.prog X.w) X.A (setFlight (.ref a) X.env.frame) (fun _ s4 => wpAny (model X.prog X.w) X.A (throw (.ref a) : Sem Flow) Q1 X.xe s4) X.xe { s' with heap := ha } := fun {Q1} => by
        rw [hf]
        refine HandSPX.setFlight_upZ fa fun h4 f4 u4 => wpAny_throw (tk _ _ ?_)
        exact ⟨a, G, sI, pins, σ1, H1, cls, d, rfl, J, gr, (up.trans ua).trans u4, .inr (.inr (hs ▸ f4)), na, os, bare, no rfl⟩
      first
        | exact wpAny_bind (wpAny_pure (wpAny_bind away))
        | exact wpAny_bind away
    | true =>
      refine codeAny_handlers_suite_as (HandSPX.lands_againZ fa fun hc2 fc uc => ?_)
      have Jc : Inv X pins σ1 H1 { s' with heap := hc2 } := J.landed gr fc.1 ((up.trans ua).trans uc) os bare
      obtain ⟨oc, vc, gc, zc, dc⟩ := fc.there
      have Sc := Jc.suite gc dc na offL offF
      refine store_ok (X := X.suite a ((a, oc) :: (X.pn ++ pins))) (v := .ref a) Sc hN hi (.inl hln) rfl (fun s5 S5 => ?_) (.inr hln)
      refine wpAny_mono ((hsu a oc cls d (X.pn ++ pins) zc ⟨_, dc⟩).run [] s5 _ H1 _ S5 (yes rfl a na)) (fun f s6 q => ?_) fun _ _ z => z.elim
      cases f with
      | next =>
        obtain ⟨σ6, H6, S6, n6, q6⟩ := q
        have pin6 : ∀ p ∈ X.pn ++ ((a, oc) :: pins), s6.heap.get? p.1 = some p.2 ∧ H6 p.1 = none ∧ p.1 ≠ X.env.locals ∧ p.1 ∉ X.fs ∧ ∀ w, p.2.data ≠ .cell w := fun p hp => by
          rcases List.mem_append.mp hp with m | m
          · exact S6.pin p (List.mem_append_left _ (List.mem_cons_of_mem _ (List.mem_append_left _ m)))
          · rcases List.mem_cons.mp m with m | m
            · exact S6.pin p (List.mem_append_left _ (by rw [m]; exact List.mem_cons_self))
            · exact S6.pin p (List.mem_append_left _ (List.mem_cons_of_mem _ (List.mem_append_right _ m)))
        have K6 : Inv X ((a, oc) :: pins) σ6 H6 s6 := ⟨ok, S6.os, S6.bare, S6.base, S6.loc, S6.cell, S6.free, S6.freeC, pin6, S6.hok, S6.len⟩
        refine gone_ok K6 hN hi hln fun s7 J7 => ?_
        refine wpAny_mono ((hv a oc cls d (X.pn ++ (a, oc) :: pins) (List.mem_append_right _ List.mem_cons_self) zc ⟨_, dc⟩).run [] s7 _ H6 En (J7.toTry X.xe) q6) (fun g s8 q8 => ?_) fun _ _ z => z
        have back : ∀ {σ8 : L2.St} {H8 : Hp}, Inv (X.tr (X.pn ++ (a, oc) :: pins) X.xe) [] σ8 H8 s8 → Inv X pins σ8 H8 s8 := fun {σ8 H8} J8 =>
          ⟨ok, J8.os, J8.bare, J8.base, J8.loc, J8.cell, J8.free, J8.freeC, fun p hp => J8.pin p (List.mem_append_left _ (by
            rcases List.mem_append.mp hp with m | m
            · exact List.mem_append_left _ m
            · exact List.mem_append_right _ (List.mem_cons_of_mem _ m))), J8.hok, J8.len⟩
        cases g with
        | next =>
          obtain ⟨σ8, H8, J8, e8⟩ := q8
          exact ⟨σ8, H8, back J8, e8⟩
        | brk =>
          obtain ⟨σ8, H8, J8, e8⟩ := q8
          exact ⟨σ8, H8, back J8, e8⟩
        | cont =>
          obtain ⟨σ8, H8, J8, e8⟩ := q8
          exact ⟨σ8, H8, back J8, e8⟩
        | ret w =>
          obtain ⟨w8, σ8, H8, J8, r8, e8⟩ := q8
          exact ⟨w8, σ8, H8, back J8, r8, e8⟩
      | brk =>
        obtain ⟨_, _, _, z⟩ := q
        exact z.elim
      | cont =>
        obtain ⟨_, _, _, z⟩ := q
        exact z.elim
      | ret w =>
        obtain ⟨_, _, _, _, _, z⟩ := q
        exact z.elim
end
end DL
namespace DL
open PySem PySem.Spec PyProof.Rows L2 PySem.Calls
/-! ## isinstance(e, C), e.f of an exception that was caught ahead -/
section
variable {prog : Program} {w : World} {A : Around} {E : Value → Shared → Prop} {s : Shared} {K : PySem.W.Frag} {x C : Addr} {ox : Obj} {od : Option Obj}
/-- e.__class__, with a dict of its own or without -/
theorem class_of {Q : Option Value → Shared → Prop} (T : ExcC K C) (X : K.In s.heap) (I : PySem.W.InstAt s.heap x ox C od) (h : Q (some (.ref C)) { s with toks := s.toks + 1 }) :
    wpAny (model prog w) A (getAttr? (.ref x) "__class__") Q E s := by
  have fo : PySem.W.findObj K C od "__class__" = some (.bind (.builtin "getset_descriptor.__get__") (.builtin "object.__class__")) := by
    obtain ⟨cd, hc, _⟩ := PySem.W.any_some T.hd
    unfold PySem.W.findObj
    rw [hc, Option.bind_some, T.ha, Option.bind_some]
    simp only [T.hn, T.ht, Option.bind_some]
  obtain ⟨m0, g0, d0, t0, o0⟩ := s
  have l0 := I.type (M := model prog w)
  have l1 := PySem.W.looks_findIn (M := model prog w) X T.hg
  have l2 := PySem.W.looks_findIn (M := model prog w) X T.hk
  have l3 := PySem.W.looks_find (M := model prog w) X I fo
  have isB : PySem.W.Looks (model prog w) m0 (isInstance (.ref x) (.type "BaseException")) true := l0.andThen (PySem.W.looks_subIn X T.hs)
  have k1 : (Value.builtin "BaseException.__getattribute__" == Value.builtin "object.__getattribute__") = false := by decide +kernel
  have k2 : (onTheHeap (Value.ref C) && Value.builtin "BaseException.__getattribute__" == Value.builtin "object.__getattribute__") = false := by rw [k1]; rfl
  unfold getAttr? getAttrBy? getAttrBy
  refine wpAny_bind (wpAny_mkText (wpAny_bind (wpAny_attempt (wpAny_holding (wpAny_bind (l0.at (wpAny_bind (l1.at ?_))))))))
  show wpAny _ _ (ite ((onTheHeap (Value.ref C) && Value.builtin "BaseException.__getattribute__" == Value.builtin "object.__getattribute__") = true) _ _) _ _ _
  rw [k2, if_neg (show ¬ (false = true) from Bool.false_ne_true)]
  unfold getAttrByItsOwn hookBefore
  refine wpAny_bind (?_ : wpAny _ _ (ite _ _ _) _ _ _)
  rw [if_pos (show onTheHeap (Value.ref C) = true from rfl)]
  refine l2.at (wpAny_bind (wpAny_attempt (wpAny_holding ?_)))
  unfold callGetattribute
  rw [if_neg (show ¬ ((false && onTheHeap (Value.builtin "BaseException.__getattribute__")) = true) from Bool.false_ne_true)]
  unfold boundAndCalled
  rw [PySem.F.excAttr_ValueError.ga.bind (.ref x)]
  refine wpAny_bind (wpAny_pure (?_ : wpAny _ _ (call (.builtin "BaseException.__getattribute__") [.ref x, .str "__class__" t0]) _ _ _))
  refine wpAny_call (codeAny_call_builtin PySem.F.excAttr_ValueError.ga.plain PySem.F.entry_bexc_ga (?_))
  refine @PySem.W.check_slot (model prog w) _ _ ⟨m0, g0, d0, t0 + 1, o0⟩ "BaseException.__getattribute__" "BaseException" "__getattribute__" (.ref x) [.str "__class__" t0] [] _ (by decide +kernel) (by decide +kernel) isB (PySem.F.args_bexc_ga (.ref x) (.str "__class__" t0)) ?_
  unfold Builtin.«object.__getattribute__»
  refine wpAny_bind (wpAny_of_eq (a := ((Value.ref x : Value), [Value.str "__class__" t0])) (by first | rfl | (simp only [slotArgs] ; rfl)) ?_)
  refine wpAny_bind (wpAny_pure (wpAny_bind (l0.at (wpAny_bind (l3.at (?_ : wpAny _ _ (holding [Value.builtin "object.__class__"] (call (.builtin "getset_descriptor.__get__") [.builtin "object.__class__", .ref x, .ref C]) >>= ret) _ _ _))))))
  refine wpAny_bind (wpAny_holding (wpAny_call (PySem.W.class_get (s := ⟨m0, g0, d0, t0 + 1, o0⟩) (ox := ox) (od := od) X I T.hm ?_)))
  refine wpAny_pure (?_ : wpAny _ _ (handedOut (.ref C)) _ _ _)
  rw [PySem.W.handedOut_of (v := .ref C) rfl]
  first
    | exact wpAny_pure (wpAny_pure h)
    | exact wpAny_pure h
    | exact wpAny_pure (wpAny_bind (wpAny_pure (wpAny_pure h)))
theorem kit_exc (T : ExcC K C) : PySem.W.KitX K (.ref x) (.ref C) (fun h => ∃ (ox : Obj) (od : Option Obj), PySem.W.InstAt h x ox C od) := by
  refine ⟨fun M h X ⟨_, _, I⟩ => I.type, fun M h X _ => ?_, fun h tp dd its n sl X htp => ?_, fun {prog w A E Q s} X I k => ?_⟩
  · obtain ⟨cd, hc, _⟩ := PySem.W.any_some T.hd
    unfold PySem.W.clsIn at hc
    split at hc
    · rename_i a b c d ho
      intro A1 Q1 E1 s1 k1 q1
      unfold isType loadHead
      exact wpAny_bind (wpAny_loadPart (k1 _ _ (X _ _ ho)) (wpAny_pure q1))
    · cases hc
  · obtain ⟨cd, hc, _⟩ := PySem.W.any_some T.hd
    refine Bool.eq_false_iff.mpr fun q => ?_
    obtain rfl : C = tp := Value.ref.inj (beq_iff_eq.mp q)
    unfold PySem.W.clsIn at hc
    split at hc
    · rename_i a b c d ho
      cases (X _ _ ho).symm.trans htp
    · cases hc
  · obtain ⟨ox, od, J⟩ := I
    exact class_of T X J k
end
/-- a caught exception that stands among the pins -/
structure Pinned (X : Cx) (a : Addr) (cls : Value) (d : Option Addr) : Prop where
  ex : ∃ oe : Obj, (a, oe) ∈ X.pn ∧ Zc cls d oe ∧ ∃ vs, oe.data = .fields vs
/-- its dict is there -/
def rIsP (K : PySem.W.Frag) (C a : Addr) (dd : Addr) : List V → Hp → VK → Prop := fun xs H Q => ∃ (c : V) (cv : Value) (b : Bool) (fs : List (Str × V)), xs = [.ref a, c] ∧ (∀ u, RelV c u → u = cv) ∧ PySem.W.kitOne K (.ref C) cv = some b ∧ H dd = some (.xd fs) ∧ Q (.bl b) H
theorem call_isP {X : Cx} {a C dd : Addr} (T : ExcC X.K C) (p : Pinned X a (.ref C) (some dd)) : CallR X (.builtin "isinstance") (rIsP X.K C a dd) := by
  intro pins s σ H xs us Q I r h
  obtain ⟨c, cv, b, fs, rfl, hcv, e, hd, q⟩ := h
  obtain ⟨oe, hm, hz, vs, hv⟩ := p.ex
  cases r with
  | cons rx rr =>
    cases rr with
    | cons rt rr =>
      cases rr
      cases rx
      obtain rfl := hcv _ rt
      obtain ⟨hg, _⟩ := I.pin (a, oe) (List.mem_append_left _ hm)
      have hx : ObjOk X.prog X.w H s.heap dd (.xd fs) := I.hok dd _ hd
      obtain ⟨mA, hns, _⟩ := hx
      obtain ⟨o1, ho1, _⟩ := L2.lookIn_ns hns
      have J : PySem.W.InstAt s.heap a oe C (some o1) := ⟨hg, hz.1, by unfold PySem.W.notCls; rw [hv] <;> rfl, by rw [hz.2]; exact ho1⟩
      exact PySem.W.kia_one (kit_exc T) I.kIn ⟨_, _, J⟩ e (fun z => nomatch z) fun tk => ⟨.bl b, H, I.kept (t' := tk) fun _ _ z => z, rfl, q⟩
/-- e.f -/
def tXp (a dd : Addr) (f : Str) (te : TE) : TE := fun σ H Q => te σ H fun x H1 => x = .ref a ∧ ∃ (fs : List (Str × V)) (v : V), H1 dd = some (.xd fs) ∧ fs.lookup f = some v ∧ Q v H1
theorem pe_xp {X : Cx} {a C dd : Addr} {e : Expr} {te : TE} {pos : Pos} {n : Str} (T : XfC X.K C) (hno : PySem.W.findIn X.K (.ref C) n = some none) (p : Pinned X a (.ref C) (some dd)) (he : PE X e te)
    (hb : attributeBase e n X.env (eval e X.env) = eval e X.env := by rfl) : PE X (.Attribute e n pos) (tXp a dd n te) := by
  refine ⟨fun pins s σ H Q I h => attr_of hb (thn (he.run pins s σ H _ I h) fun u s1 q0 => ?_)⟩
  obtain ⟨oe, hm, hz, vs, hv⟩ := p.ex
  obtain ⟨x, H1, J, rx, rfl, fs, v, hd, hl, q⟩ := q0
  obtain rfl : u = Value.ref a := rx
  obtain ⟨hg, _⟩ := J.pin (a, oe) (List.mem_append_left _ hm)
  have hx : ObjOk X.prog X.w H1 s1.heap dd (.xd fs) := J.hok dd _ hd
  obtain ⟨mA, hns, hr⟩ := hx
  obtain ⟨o1, ho1, hlk⟩ := lookIn_ns hns
  obtain ⟨u1, hu1, ru1⟩ := RelO.some_of (v := v) (o := mA n) (by rw [← hl]; exact hr n)
  have J1 : PySem.W.InstAt s1.heap a oe C (some o1) := ⟨hg, hz.1, by unfold PySem.W.notCls; rw [hv] <;> rfl, by rw [hz.2]; exact ho1⟩
  exact HandSPX.exc_get J.kIn J1 T.ga T.gg T.exC (PySem.W.findObj_own T.hdC hno rfl ((hlk n).trans (congrArg some hu1))) (handed_of ru1) ⟨v, H1, J.tok _, ru1, q⟩
end DL
/-! ## sorted(set(xs)): numbers, texts -/
namespace DL.SetQ
open PySem PySem.Spec PyProof.Rows L2 PySem.Froz
/-- the text of a value -/
def textOf : Value → Str
  | .str x _ => x
  | _ => Str.empty
theorem texts_of : ∀ vs : List Value, (∀ v ∈ vs, ∃ x t, v = .str x t) → StrsAre vs (vs.map textOf)
  | [], _ => .nil
  | v :: vs, h => by
    obtain ⟨x, t, rfl⟩ := h v List.mem_cons_self
    exact .cons x t (texts_of vs fun u hu => h u (List.mem_cons_of_mem _ hu))
section
variable {P : Program} {w : World}
/-- the members, as they come, are the set's -/
theorem members {D : SD} {l : List Str} (F : TxOk P w D l) (nd : l.Nodup) {vs : List Value} (pm : vs.Perm (D.1.toList.map (·.2))) : StrsAre vs (vs.map textOf) ∧ (vs.map textOf).Perm l := by
  have str : ∀ v ∈ vs, ∃ x t, v = .str x t := fun v hv => by
    obtain ⟨e, he, rfl⟩ := List.mem_map.mp (pm.mem_iff.mp hv)
    obtain ⟨⟨x, hx, _⟩, _⟩ := F.el e he
    exact ⟨x, Value.isStrOf_shape hx⟩
  refine ⟨texts_of vs str, perm_of_len nd (fun x hx => ?_) ?_⟩
  · obtain ⟨e, he, hs⟩ := (F.mem x).mp hx
    obtain ⟨t, ev⟩ := Value.isStrOf_shape hs
    exact List.mem_map.mpr ⟨e.2, pm.mem_iff.mpr (List.mem_map.mpr ⟨e, he, rfl⟩), by rw [ev]; rfl⟩
  · rw [List.length_map, pm.length_eq, List.length_map, Array.length_toList, F.sz]
end
section
variable {X : Cx} {pins : List (Addr × Obj)} {σ : L2.St} {s : Shared} {H : Hp}
def rSortS (P : Program) (w : World) : List V → Hp → VK → Prop := fun xs H Q => ∃ a l, xs = [.ref a] ∧ H a = some (setO (kitS P w) a l) ∧ l.Nodup ∧ l.length < 64 ∧ ∀ ys p, ys.Perm l → sortedS ys = true → H p = none → Q (.ref p) (upd H p (.lst (ys.map V.str)))
theorem cr_sortS (hc : X.calm = true) : CallR X (.builtin "sorted") (rSortS X.prog X.w) := by
  rintro pins s σ H vs us Q I r ⟨a, l, rfl, ha, nd, few, q⟩
  rw [Vals.ref1 r]
  obtain ⟨D, e, F, ris, led⟩ := (I.hok a _ ha).1
  have small : D.1.size < scanBound := by rw [F.sz]; unfold scanBound; omega
  refine Calls.call_function_entry PyProof.Rows.kind_sorted PyProof.Rows.plain_sorted PyProof.Rows.entry_sorted (PyProof.Rows.args_sorted1 _) ?_
  unfold Builtin.«sorted»
  refine wpAny_bind (m := checkCount "sorted" 1 1 _) (wpAny_pure (wpAny_bind (collect_set (A := X.A.in1) (I.ok.hd hc) ⟨_, e, rfl, rfl⟩ F.fit small ris led fun s1 out kp le g1 o1 pm => ?_)))
  obtain ⟨str, perm⟩ := members F nd pm
  have len : out.length < 64 := by
    have := perm.length_eq
    rw [List.length_map] at this
    omega
  refine wpAny_bind (wpAny_newList ?_ (by rw [sizeLine_eq]; omega))
  have at_ : (s1.heap.push (seqObj "list" out.toArray 0)).get? s1.heap.objs.size = some (seqObj "list" out.toArray 0) := Heap.get?_push_size _ rfl
  refine wpAny_bind (wpAny_holding (wpAny_call_entry PyProof.Rows.slot_list_sort ⟨_, at_, rfl⟩ PyProof.Rows.entry_list_sort
    (list_sort_treeK strKind_oneLt at_ str.keysOf (fun v1 v2 rest z => keyKind_strs (by rw [← z]; exact str)) len fun st p1 p2 => ⟨_, rfl, ?_⟩) (PyProof.Rows.args_list_sort _)))
  obtain ⟨ys, g1s, g2, g3⟩ := sorted_out_str str p1 p2
  obtain ⟨c, here⟩ := PyProof.Rows.sortedHeap_at (vs := out) (out := (arrOf st).map (·.2)) at_
  have ok : (ys.map V.str).length ≤ sizeLine := by rw [List.length_map, g2.length_eq, List.length_map, sizeLine_eq]; omega
  have lt : ∀ b o, s.heap.get? b = some o → b < s1.heap.objs.size := fun b o eb => Heap.lt_size (kp b o eb)
  have kp2 : ∀ b o, s.heap.get? b = some o → (sortedHeap (s1.heap.push (seqObj "list" out.toArray 0)) s1.heap.objs.size out ((arrOf st).map (·.2))).get? b = some o := fun b o eb => by
    rw [PyProof.Rows.sortedHeap_old (Nat.ne_of_lt (lt b o eb)) (by rw [Heap.size_push]; exact Nat.lt_succ_of_lt (lt b o eb))]
    exact Heap.get?_push_of_some _ (kp b o eb)
  obtain ⟨zh, zg, zd, zt, zo⟩ := s1
  dsimp only at g1 o1 here kp2 le ⊢
  subst g1 o1
  have new := I.hok.fresh le
  exact wpAny_pure ⟨_, rfl, .ref zh.objs.size, _, I.call (ch := []) (g' := s.gens) (d' := zd) (t' := zt) (Un.laid (o := .lst (ys.map V.str)) kp2 le new) (I.hok.laid kp2 le ⟨ok, ((arrOf st).map (·.2)).toList, c, vals_of_strs g1s, by rw [Array.toArray_toList]; exact here⟩) I.bare (fun _ z => nomatch z), rfl, q ys _ (g2.trans perm) g3 new⟩
/-- the same of numbers -/
def rSortI (P : Program) (w : World) : List V → Hp → VK → Prop := fun xs H Q => ∃ a l, xs = [.ref a] ∧ H a = some (setO (kitI P w) a l) ∧ l.length < 64 ∧ ∀ (ys : List Int) p, ys.Pairwise (· < ·) → (∀ j, j ∈ ys ↔ j ∈ l) → H p = none → Q (.ref p) (upd H p (.lst (ys.map V.int)))
theorem cr_sortI (hc : X.calm = true) : CallR X (.builtin "sorted") (rSortI X.prog X.w) := by
  rintro pins s σ H vs us Q I r ⟨a, l, rfl, ha, few, q⟩
  rw [Vals.ref1 r]
  refine sorted_set (I.hok a _ ha).1 (I.ok.hd hc) few fun s1 b out c ns kp g1 o1 le at_ isI asc mem n => ?_
  have ok : (ns.map V.int).length ≤ sizeLine := by rw [List.length_map, n, sizeLine_eq]; omega
  have new := I.hok.fresh le
  obtain ⟨zh, zg, zd, zt, zo⟩ := s1
  dsimp only at g1 o1 kp at_ ⊢
  subst g1 o1
  exact ⟨.ref b, _, I.call (ch := []) (g' := s.gens) (d' := zd) (t' := zt) (Un.laid (o := .lst (ns.map V.int)) kp le new) (I.hok.laid kp le ⟨ok, out.toList, c, vals_of_ints isI, at_⟩) I.bare (fun _ z => nomatch z), rfl, q ns b asc (fun j => (mem j).trans decide_eq_true_iff) new⟩
end
end DL.SetQ
namespace DL
open PySem PySem.Spec PyProof.Rows L2
section
variable {X : Cx} {a : Expr} {ta : TE} {p p2 q pos : Pos}
/-- sorted(set(xs)), xs a list of numbers; of texts -/
def tSortSetI (P : Program) (w : World) (K : PySem.W.Frag) (ta : TE) : TE := tCB (SetQ.rSortI P w) (tCons (tCB (SetQ.rSet K (SetQ.kitI P w) V.int) (tCons ta tNil)) tNil)
theorem pe_sortSetI (hc : X.calm = true) (hg : Gl X "sorted") (hm : X.mg "sorted" = none) (hg2 : Gl X "set") (hm2 : X.mg "set" = none) (ha : PE X a ta)
    (na : starEach [a] X.env = (false, eval a X.env) :: starEach [] X.env := by rfl) : PE X (.Call (.Name "sorted" p) [.Call (.Name "set" p2) [a] [] q] [] pos) (tSortSetI X.prog X.w X.K ta) :=
  pe_callB (SetQ.cr_sortI hc) hg hm boot_sorted (pa_cons (pe_callTy (SetQ.cr_set SetQ.toldI hc) hg2 hm2 boot_set (pa_cons ha pa_nil (hs := na)) (he := na)) pa_nil)
def tSortSetS (P : Program) (w : World) (K : PySem.W.Frag) (ta : TE) : TE := tCB (SetQ.rSortS P w) (tCons (tCB (SetQ.rSet K (SetQ.kitS P w) V.str) (tCons ta tNil)) tNil)
theorem pe_sortSetS (hc : X.calm = true) (hg : Gl X "sorted") (hm : X.mg "sorted" = none) (hg2 : Gl X "set") (hm2 : X.mg "set" = none) (ha : PE X a ta)
    (na : starEach [a] X.env = (false, eval a X.env) :: starEach [] X.env := by rfl) : PE X (.Call (.Name "sorted" p) [.Call (.Name "set" p2) [a] [] q] [] pos) (tSortSetS X.prog X.w X.K ta) :=
  pe_callB (SetQ.cr_sortS hc) hg hm boot_sorted (pa_cons (pe_callTy (SetQ.cr_set SetQ.toldS hc) hg2 hm2 boot_set (pa_cons ha pa_nil (hs := na)) (he := na)) pa_nil)
end
end DL
namespace DL
open PySem PySem.Spec PyProof.Rows L2
/-! ## the law's entry, with tables of code objects -/
abbrev tblO : Obj := { cls := .none, data := .fields #[] }
/-- nothing is tracked but the script and empty tables -/
structure StartT (P : Program) (w : World) (K : PySem.W.Frag) (s : Shared) (a : Addr) (ns : List Int) (T : List Addr) (H : Hp) : Prop where
  tab : ∀ b ∈ T, H b = some (.tbl #[])
  only : ∀ b ps, H b = some (.tbl ps) → b ∈ T
  sq : SqL K H a (ns.map V.int)
  hok : HOk P w H s.heap
  one : ∀ b, H b ≠ none → b = a ∨ b ∈ T
  old : ∀ b, b ∉ T → H b = none ∨ ∃ o xs, H b = some (.frz o (.lst xs))
  kno : H a ≠ none → K.lookup a = none
theorem startT_ex {P : Program} {w : World} {K : PySem.W.Frag} {s : Shared} {a : Addr} {vs : List Value} {ns : List Int} {T : List Addr} (KX : K.In s.heap) (ha : s.heap.get? a = some { cls := .type "list", data := .seq vs.toArray }) (hi : IntsAre vs ns) (hl : ns.length ≤ sizeLine)
    (hT : ∀ b ∈ T, s.heap.get? b = some tblO) : a ∉ T ∧ ∃ H, StartT P w K s a ns T H := by
  obtain ⟨H0, Z⟩ := start_ex (P := P) (w := w) KX ha hi hl
  have aT : a ∉ T := fun z => by
    have e := hT a z
    rw [ha] at e
    cases congrArg Obj.data (Option.some.inj e)
  have inT : ∀ b, b ∈ T → (if b ∈ T then some (HO.tbl #[]) else H0 b) = some (HO.tbl #[]) := fun b hb => if_pos hb
  have outT : ∀ b, b ∉ T → (if b ∈ T then some (HO.tbl #[]) else H0 b) = H0 b := fun b hb => if_neg hb
  have up : ∀ b u, H0 b = some u → (if b ∈ T then some (HO.tbl #[]) else H0 b) = some u := fun b u e => by
    rw [outT b (by rw [Z.one b (by rw [e]; simp)]; exact aT)]
    exact e
  refine ⟨aT, fun b => if b ∈ T then some (.tbl #[]) else H0 b, inT, fun b ps e => ?_, ?_, fun b u e => ?_, fun b n => ?_, fun b hb => ?_, fun n => Z.kno ?_⟩
  · by_cases hb : b ∈ T
    · exact hb
    · rw [outT b hb] at e
      rcases Z.only b with z | ⟨o, xs, z⟩ <;> rw [z] at e <;> cases e
  · have q := Z.sq
    rcases q with q | q
    · rcases q with q | ⟨o, q⟩
      · exact .inl (.inl (up a _ q))
      · exact .inl (.inr ⟨o, up a _ q⟩)
    · exact .inr q
  · by_cases hb : b ∈ T
    · rw [inT b hb] at e
      cases e
      exact hT b hb
    · rw [outT b hb] at e
      exact (Z.hok b u e).stay (fun c v _ q => q) (fun c q => up c _ q) (fun c xs q => up c _ q)
  · by_cases hb : b ∈ T
    · exact .inr hb
    · have n : (if b ∈ T then some (HO.tbl #[]) else H0 b) ≠ none := n
      rw [outT b hb] at n
      exact .inl (Z.one b n)
  · have e := outT b hb
    rcases Z.only b with z | ⟨o, xs, z⟩
    · exact .inl (e.trans z)
    · exact .inr ⟨o, xs, e.trans z⟩
  · have n : (if a ∈ T then some (HO.tbl #[]) else H0 a) ≠ none := n
    rw [outT a aT] at n
    exact n
theorem callGT {P : Program} {w : World} {K : PySem.W.Frag} {mg mb : Str → Option Value} {CX : CXT} {k : Nat} {fa a : Addr} {cs : List (Addr × Addr)} {fd : FuncData} {x : Str} {sp : Sp} {s₁ : Shared} {vs : List Value} {ns : List Int}
    (KX : K.In s₁.heap) (hns : s₁.heap.Ns mainGlobals mg) (hb : s₁.heap.Ns builtinsNs mb) (hbb : ∀ x : Str, x ≠ "__name__" → mb x = bootBuiltins x) (hlim : s₁.heap.NoLimit) (hg : s₁.gens = #[])
    (hT : ∀ p ∈ cs, s₁.heap.get? p.2 = some tblO) (nT : ∀ p ∈ cs, K.lookup p.2 = none) (CH : ∀ p ∈ cs, PySem.W.CodeHd s₁.heap p.1 p.2)
    (hbm : ∃ (bm : Addr) (ob : Obj), mg "__builtins__" = some (.ref bm) ∧ bm ≠ builtinsNs ∧ s₁.heap.get? bm = some ob ∧ ob.cls = .type "module" ∧ ob.dict = some builtinsNs ∧ ob.data = .plain)
    (ha : s₁.heap.get? a = some { cls := .type "list", data := .seq vs.toArray }) (hi : IntsAre vs ns) (hl : ns.length ≤ sizeLine) (hr : Room k callerA)
    (F : ∀ base : Heap, K.In base → base.Ns mainGlobals mg → (∀ p ∈ cs, LamX.TabB base mg p.1 p.2) → GnOk P w K mg base CX k fa fd [x] sp) (hbind : ∀ (s : Shared) (u : Value), BindsTo s fd ⟨[u], []⟩ [(x, u)])
    (hsp : ∀ H : Hp, (∀ p ∈ cs, H p.2 = some (.tbl #[])) → (∀ b ps, H b = some (.tbl ps) → b ∈ cs.map (·.2)) → SqL K H a (ns.map V.int) → sp [.ref a] H (fun v _ => v = .bl true) fun _ _ _ => False)
    (hCX : ∀ H e s', CX [] H s₁ (fun _ _ _ => False) e s' → False) :
    codeAny (model P w) callerA (.call (.ref fa) ⟨[.ref a], []⟩) (fun r s' => r = .ok (.ret (.bool true)) ∧ OldK s₁.heap s'.heap ∧ s'.os = s₁.os ∧ AllBare s'.gens) s₁ := by
  have hT2 : ∀ b ∈ cs.map (·.2), s₁.heap.get? b = some tblO := fun b hb => by
    obtain ⟨p, hp, rfl⟩ := List.mem_map.mp hb
    exact hT p hp
  have memT : ∀ p ∈ cs, p.2 ∈ cs.map (·.2) := fun p hp => List.mem_map_of_mem hp
  obtain ⟨aT, H, Z⟩ := startT_ex (P := P) (w := w) KX ha hi hl hT2
  -- what is tracked is a list or an empty table
  have tr : ∀ {b : Addr} {o : Obj}, s₁.heap.get? b = some o → H b ≠ none → o = { cls := .type "list", data := .seq vs.toArray } ∨ o = tblO := fun {b o} e n => by
    rcases Z.one b n with q | q
    · subst q
      rw [ha] at e
      cases e
      exact .inl rfl
    · rw [hT2 b q] at e
      cases e
      exact .inr rfl
  have hide : ∀ {b : Addr} {o : Obj}, s₁.heap.get? b = some o → (H b ≠ none → False) → (hidT s₁.heap H).get? b = some o := fun {b o} e n => hidT_get e (by
    cases q : H b with
    | none => rfl
    | some u => exact (n (by rw [q]; simp)).elim)
  have ns1 : ∀ {b : Addr} {m : Str → Option Value}, s₁.heap.Ns b m → (hidT s₁.heap H).Ns b m := fun {b m} ⟨o, es, ep, e, d, r⟩ => ⟨o, es, ep, hide e (fun n => by
    rcases tr e n with z | z <;> rw [z] at d <;> cases d), d, r⟩
  have kb : K.In (hidT s₁.heap H) := fun b o e => hide (KX b o e) fun n => by
    rcases Z.one b n with q | q
    · subst q
      rw [Z.kno n] at e
      cases e
    · obtain ⟨p, hp, ep⟩ := List.mem_map.mp q
      rw [← ep, nT p hp] at e
      cases e
  have M : Mod K mg (hidT s₁.heap H) := ⟨kb, ns1 hns, ⟨mb, ns1 hb, hbb⟩, hlim.imp fun mc h => ⟨ns1 h.1, h.2⟩⟩
  have TB : ∀ p ∈ cs, LamX.TabB (hidT s₁.heap H) mg p.1 p.2 := fun p hp => by
    refine ⟨?_, ?_, fun z => ?_⟩
    · obtain ⟨o, us, file, tf, flags, tg, inF, text, tt, e1, r1, r2, r3, rest⟩ := CH p hp
      refine ⟨o, us, file, tf, flags, tg, inF, text, tt, hide e1 (fun n => ?_), r1, r2, r3, rest⟩
      rcases tr e1 n with z | z
      · rw [z] at r2
        cases r2
      · rw [z] at r2
        cases r2
        simp at r3
    · obtain ⟨bm, ob, b1, b2, b3, b4, b5, b6⟩ := hbm
      have no : H bm ≠ none → False := fun n => by
        rcases tr b3 n with z | z <;> rw [z] at b6 <;> cases b6
      refine ⟨bm, ob, b1, b2, fun q => ?_, fun q => ?_, hide b3 no, b4, b5, b6⟩
      · obtain ⟨o, es, ep, e, hd, _⟩ := hns
        rw [← q, b3] at e
        cases e
        rw [b6] at hd
        cases hd
      · exact no (by rw [q, Z.tab _ (memT p hp)]; simp)
    · obtain ⟨o, es, ep, e, hd, _⟩ := hns
      rw [z, hT p hp] at e
      cases e
      cases hd
  have e0 : Env0 P w K mg (hidT s₁.heap H) callerA [] s₁ H := ⟨rfl, M, fun b o e => of_hidT e, Nat.le_of_eq (hidT_size _ _), trivial, (fun b hb => nomatch (show b ∈ ([] : List Addr) from hb)), Z.hok, .of_eq hg⟩
  refine codeAny_mono ((F _ kb (ns1 hns) TB).go callerA [] s₁ H ⟨[.ref a], []⟩ [.ref a] [.ref a] _ _ rfl hr e0 (hbind s₁ (.ref a)) (.cons rfl .nil) (hsp H (fun p hp => Z.tab _ (memT p hp)) Z.only Z.sq)) fun r s' h => ?_
  cases r with
  | error e => exact (hCX H e s' h).elim
  | ok fl =>
    cases fl with
    | next => exact h.elim
    | brk => exact h.elim
    | cont => exact h.elim
    | ret u =>
      obtain ⟨v, H', os, bare, un, hok', r', q⟩ := h
      cases (show v = .bl true from q)
      cases (show u = Value.bool true from r')
      have wide : ∀ b ∈ cs.map (·.2), ∃ more : Array Value, s'.heap.get? b = some { cls := .none, data := .fields more } := fun b hb => by
        obtain ⟨more, z⟩ := un.tbls b #[] (Z.tab b hb)
        exact ⟨_, hok' b _ z⟩
      have same : ∀ b o, b ∉ cs.map (·.2) → s₁.heap.get? b = some o → s'.heap.get? b = some o := fun b o nb e => by
        rcases Z.old b nb with z | ⟨ob, xs, z⟩
        · exact un.keep b o e z (fun z => nomatch (show b ∈ ([] : List Addr) from z)) (by simp)
        · have e1 := (Z.hok b _ z).1
          have e2 := (hok' b _ (un.frzs b ob _ z)).1
          rw [e] at e1
          cases e1
          exact e2
      refine ⟨rfl, ⟨fun b o e => ?_, fun b o e => ?_⟩, os, bare⟩
      · by_cases hb : b ∈ cs.map (·.2)
        · obtain ⟨p, hp, rfl⟩ := List.mem_map.mp hb
          obtain ⟨more, hm⟩ := wide _ hb
          cases (hT p hp).symm.trans e
          exact .inr (.inl ⟨((CH p hp).tab (hT p hp)).isCodeTable, rfl, #[], more, rfl, hm.trans (by rw [Array.empty_append])⟩)
        · exact .inl (same b o hb e)
      · by_cases hb : b ∈ cs.map (·.2)
        · obtain ⟨more, hm⟩ := wide b hb
          exact ⟨_, hm⟩
        · exact ⟨o, same b o hb e⟩
/-- what is known of the law's promise at the head's heap h; cs: the code objects and their tables -/
def LawAtG (l : PySem.W.OpenLaw) (w : World) (K : PySem.W.Frag) (CX : CXT) (k n : Nat) (x : Str) (mg : Str → Option Value) (fa : Addr) (h : Heap) : Prop :=
  ∃ (fd : FuncData) (cs : List (Addr × Addr)) (sp : Sp), (∀ p ∈ cs, h.get? p.2 = some tblO ∧ K.lookup p.2 = none ∧ PySem.W.CodeHd h p.1 p.2) ∧ (∀ (s : Shared) (u : Value), BindsTo s fd ⟨[u], []⟩ [(x, u)]) ∧
    (∀ (H : Hp) (a : Addr) (ns : List Int), ns.length ≤ n → (∀ p ∈ cs, H p.2 = some (.tbl #[])) → (∀ b ps, H b = some (.tbl ps) → b ∈ cs.map (·.2)) → SqL K H a (ns.map V.int) → sp [.ref a] H (fun v _ => v = .bl true) fun _ _ _ => False) ∧
    ∀ base : Heap, K.In base → base.Ns mainGlobals mg → (∀ p ∈ cs, LamX.TabB base mg p.1 p.2) → GnOk l.prog w K mg base CX k fa fd [x] sp
theorem walk_ofGT {l : PySem.W.OpenLaw} {n k : Nat} {q : Program} {loose : List Str} {XP : (Str → Option Value) → Heap → Prop} {YP : World → Heap → Prop} {d : DefRec} {K : Params → PySem.W.Frag} {x : Str}
    (hn : l.most = some n) (hn2 : n ≤ sizeLine) (hdf : d.params.defaults = []) (hr : Room k callerA) (hY : ∀ (w : World) (h : Heap), YP w h → (K w.params).In h)
    (F : ∀ (w : World) (mg : Str → Option Value) (fa : Addr) (h : Heap), YP w h → (K w.params).In h → h.Ns mainGlobals mg → mg d.name = some (.ref fa) → LawAtG l w (K w.params) CX0 k n x mg fa h) :
    PySem.W.WalkO q loose XP YP l.row.toRowW d [] (fun f vs => PySem.call f vs) := by
  refine Att.attach_call hn hdf fun w s₀ s₁ mg mb fa o pm cd doc a vs ns G Y ho hd hcd hmg hobj hints hlen hg => ?_
  have KX := hY w _ Y
  obtain ⟨fd, cs, sp, hC, hb, hsp, hF⟩ := F w mg fa _ Y KX G.T.g hmg
  exact callGT KX G.T.g G.T.b G.T.builtins G.T.nolimit hg (fun p hp => (hC p hp).1) (fun p hp => (hC p hp).2.1) (fun p hp => (hC p hp).2.2) G.T.bmain hobj hints (Nat.le_trans hlen hn2) hr hF hb (fun H h1 h2 hS => hsp H a ns hlen h1 h2 hS) fun H e s' h => h
end DL
namespace DL
open PySem PySem.Spec PyProof.Rows L2 LamX NdefX
/-! ## an own exception of one field: def __init__(self, part): super().__init__(part); self.part = part -/
def spPart (K : PySem.W.Frag) (D : Addr) (fld : Str) : Sp := fun vs H Q _ => ∃ (a C : Addr) (x : V), vs = [.ref a, x] ∧ SCls K D C ∧ PySem.W.findIn K (.ref C) fld = some none ∧ H a = some (exo a C none) ∧
  ∀ dx, H dx = none → Q .non (upd (upd H dx (exd dx [(fld, x)])) a (exo a C (some dx)))
section
variable {CX : CXT} {P : Program} {w : World} {K : PySem.W.Frag} {mg : Str → Option Value} {base : Heap} {F : NF} {fI D cc : Addr} {doc pm ctv oc : Value} {od : Option Addr} {osl : Array (Option Value)}
theorem part_ok (SI : SInit P K mg fI F "self" D cc doc pm ctv oc od osl) (S : NScope ["self", "part", "__class__"] ["self", "part"] ["__class__"] F.scope)
    (hbody : ∃ p0 p1 p2 p3 p4 p5 p6 p7 p8 p9, F.body = [.Expr (.Call (.Attribute (.Call (.Name "super" p0) [] [] p1) "__init__" p2) [.Name "part" p3] [] p4) p5, .Assign [.Attribute (.Name "self" p6) "part" p7] (.Name "part" p8) p9] ∧ ∀ L : Addr, ∃ pl : Sem Bool,
      eval (.Call (.Attribute (.Call (.Name "super" p0) [] [] p1) "__init__" p2) [.Name "part" p3] [] p4) (envF F fI L) = (do
        let ov ← attributeBase (.Call (.Name "super" p0) [] [] p1) "__init__" (envF F fI L) (eval (.Call (.Name "super" p0) [] [] p1) (envF F fI L))
        standAt p2.atName
        let (f, first) ← holding [ov] (getMethod ov "__init__" pl)
        callWith p4 f first (backTo p4 (starEach [.Name "part" p3] (envF F fI L))) [])) :
    FnOk P w K mg base CX 1 fI (F.fd doc pm ctv) ["self", "part"] (spPart K D "part") := by
  obtain ⟨p0, p1, p2, p3, p4, p5, p6, p7, p8, p9, hb, hcs⟩ := hbody
  refine ⟨fun vs H Q E ⟨_, _, _, e, _⟩ => by rw [e]; rfl, fun A outer s H args us vs Q E hr e0 hbd hv h => ?_⟩
  obtain ⟨a, C, x, rfl, SC, hno, hH, hQ⟩ := h
  have vS : Vis F.scope "self" := .inl (S.par "self" (by simp))
  have vP : Vis F.scope "part" := .inl (S.par "part" (by simp))
  have nP : ∀ p, PE (ncx CX P w K mg base ["self", "part", "__class__"] F fI A outer s H E) (.Name "part" p) (tVar 1) := fun p => pe_var (i := 1) rfl vP
  have nS : ∀ p, PE (ncx CX P w K mg base ["self", "part", "__class__"] F fI A outer s H E) (.Name "self" p) (tVar 0) := fun p => pe_var (i := 0) rfl vS
  obtain ⟨pl, hc⟩ := hcs s.heap.objs.size
  refine sinit_run (pl := pl) (ta := tCons (tVar 1) tNil) (tr := tOst K "part" (tVar 0) (tVar 1)) SI S hb hr e0 hbd hv rfl (pa_cons (nP p3) pa_nil) (pss_one (ps_ost (nS p6) (nP p8))) ?_ (hi := by unfold interactive; rw [show (envF F fI s.heap.objs.size).scope = F.scope from rfl, S.kind]; rfl) (hc := hc)
  refine ⟨a, C, rfl, SC, hH, x, rfl, ?_⟩
  have small : [x].length ≤ sizeLine := by rw [sizeLine_eq]; exact (by decide : 1 ≤ 16777216)
  refine ⟨small, hH, x, rfl, .ref a, rfl, a, C, rfl, SC.T, hno, .inl ⟨hH, fun dx hd _ => hQ dx hd⟩⟩
end
theorem xd_heap {H : Hp} {a dx C : Addr} {fs : List (Str × V)} (ha : H a = none) (hne : dx ≠ a) :
    upd (L2.del (upd (upd (upd H a (exo a C none)) dx (exd dx fs)) a (exo a C (some dx))) a) dx (.xd fs) = upd H dx (.xd fs) := by
  funext b
  by_cases hb : b = dx
  · rw [hb, upd_same, upd_same]
  · rw [upd_ne hb, upd_ne hb]
    by_cases hc : b = a
    · rw [hc, L2.del_same, ha]
    · rw [L2.del_ne hc, upd_ne hc, upd_ne hb, upd_ne hc]
section
variable {K : PySem.W.Frag} [LT K] {p : Option Addr} {S0 S : Wd} {B : Hp} {σ : L2.St} {m M n : Nat} {l : En} {D C : Addr} {E : XK} {x : Str}
/-- raise C("..") -/
theorem s_raise (h : Sta K p S0 B m M n σ S l) (SC : SCls K D C) (hno : PySem.W.findIn K (.ref C) "part" = some none)
    (k : ∀ dx S', Gr K p S0 S' → S'.T ≤ S0.T + n → S'.H dx = some (.xd [("part", .str x)]) → E (.ref C) (some dx) S'.H) :
    tMkO C (spPart K D "part") [] (tCons (tC (.str x)) tNil) σ S.H (fun cls d H' => E cls d H') := by
  refine ⟨by show 1 ≤ 1000; decide, fun a ha => ⟨a, C, .str x, rfl, SC, hno, upd_same, fun dx hd => ?_⟩⟩
  have hne : dx ≠ a := fun z => by rw [z, upd_same] at hd; cases hd
  rw [upd_ne hne] at hd
  refine ⟨rfl, dx, [("part", .str x)], upd_same, by rw [upd_ne hne, upd_same], hd, ?_⟩
  rw [xd_heap ha hne]
  exact k dx ⟨S.F, upd S.H dx (.xd [("part", .str x)]), S.T⟩ (h.g.trans (Gr.newO h.ok hd)) h.tn upd_same
end
/-! ## a def that may raise such an exception -/
/-- what it answers, or nothing where it raises C with these fields -/
def spE (K : PySem.W.Frag) [LT K] (n : Nat) (pre : List D → Prop) (f : List D → Option D) (C : Addr) (fs : List (Str × V)) : Sp := fun vs H Q E => ∃ (F : Hp) (ds : List D), Ok K none ⟨F, H, 0⟩ ∧ Rps K F vs ds ∧ ds.length = n ∧ pre ds ∧
  (∀ d, f ds = some d → ∀ v F' H', Gr K none ⟨F, H, 0⟩ ⟨F', H', 0⟩ → Rp K F' v d → Q v H') ∧ (f ds = none → ∀ dx F' H', Gr K none ⟨F, H, 0⟩ ⟨F', H', 0⟩ → H' dx = some (.xd fs) → E (.ref C) (some dx) H')
theorem spE_len {K : PySem.W.Frag} [LT K] {n : Nat} {pre : List D → Prop} {f : List D → Option D} {C : Addr} {fs : List (Str × V)} {vs : List V} {H : Hp} {Q : VK} {E : XK} (h : spE K n pre f C fs vs H Q E) : vs.length = n := by
  obtain ⟨F, ds, _, r, hn, _⟩ := h
  rw [r.length, hn]
section
variable {K : PySem.W.Frag} [LT K] {p : Option Addr} {S : Wd} {σ : L2.St} {te ta tb : TE} {d d1 d2 e : D} {ds es : List D} {n : Nat} {pre : List D → Prop} {f : List D → Option D} {C : Addr} {fs : List (Str × V)}
/-- the entry of such a def -/
theorem fnE1 {t : TS} {Ns : List Str} {vs : List V} {H : Hp} {Q : VK} {E : XK} (h : spE K 1 pre f C fs vs H Q E) (hN : 1 ≤ Ns.length)
    (body : ∀ (S0 : Wd) (d : D) (σ : L2.St) (G : Ends), pre [d] → Sta K none S0 S0.F Ns.length 0 0 σ S0 [(0, .dat d)] → (∀ e v S', f [d] = some e → Gr K none S0 S' → S'.T ≤ S0.T + 0 → Rp K S'.F v e → G.rt v S'.H) →
      (f [d] = none → ∀ dx S', Gr K none S0 S' → S'.T ≤ S0.T + 0 → S'.H dx = some (.xd fs) → E (.ref C) (some dx) S'.H) → t G σ S0.H) :
    t { nx := fun _ H' => Q .non H', rt := Q } (L2.start Ns vs) H := by
  obtain ⟨F, ds, ok, r, hn, hp, k1, k2⟩ := h
  match ds, hn, r, hp, k1, k2 with
  | [d], _, r, hp, k1, k2 =>
    have st := sta_start (N := Ns) (M := 0) ok r (by rw [r.length]; exact hN) (show 0 + 0 ≤ 1000000000 by decide)
    have down : ∀ {S' : Wd}, Gr K none ⟨F, H, 0⟩ S' → Gr K none ⟨F, H, 0⟩ ⟨S'.F, S'.H, 0⟩ := fun {S'} g => ⟨g.ff, fun b o q np n => g.hh b o q np n, g.al, g.old, ⟨g.ok.sub, fun a e => (by cases e), g.ok.nt, g.ok.tb⟩⟩
    exact body ⟨F, H, 0⟩ d _ { nx := fun _ H' => Q .non H', rt := Q } hp st (fun e v S' he g _ rv => k1 e he v S'.F S'.H (down g) rv) (fun he dx S' g _ hx => k2 he dx S'.F S'.H (down g) hx)
/-- f(..) that raises nothing -/
theorem ed_callE {t : TA} {E : XK} (h : EvA K p t σ S ds) (hn : ds.length = n) (hp : pre ds) (hf : f ds = some e) : EvD K p (tCall (spE K n pre f C fs) [] E t) σ S e := fun S1 g Q q =>
  h S1 g _ fun vs S2 g2 t2 rs => by
    refine ⟨S2.F, ds, ⟨g2.ok.sub, fun a e => (by cases e), g2.ok.nt, g2.ok.tb⟩, by rw [List.append_nil]; exact rs, hn, hp, fun d hd v F' H' g' r => ?_, fun z => by rw [hf] at z; cases z⟩
    cases hf.symm.trans hd
    have g3 : Gr K none S2 ⟨F', H', S2.T⟩ := ⟨g'.ff, fun b o q np n => g'.hh b o q np n, g'.al, g'.old, ⟨g'.ok.sub, fun a e => (by cases e), g'.ok.nt, g'.ok.tb⟩⟩
    exact q v ⟨F', H', S2.T⟩ (g2.trans (g3.up g2.ok rfl)) t2 r
theorem ed_callEK {tk : TA} {E : XK} {gV : List V → List V → List V} {gD : List D → List D} (h : EvA K p tk σ S ds) (hg : ∀ F vs, Rps K F vs ds → Rps K F (gV [] vs) (gD ds)) (hn : (gD ds).length = n) (hp : pre (gD ds)) (hf : f (gD ds) = some e) : EvD K p (tCallK (spE K n pre f C fs) gV E tNil tk) σ S e := fun S1 g Q q =>
  h S1 g _ fun vs S2 g2 t2 rs => by
    refine ⟨S2.F, gD ds, ⟨g2.ok.sub, fun a e => (by cases e), g2.ok.nt, g2.ok.tb⟩, hg _ _ rs, hn, hp, fun d hd v F' H' g' r => ?_, fun z => by rw [hf] at z; cases z⟩
    cases hf.symm.trans hd
    have g3 : Gr K none S2 ⟨F', H', S2.T⟩ := ⟨g'.ff, fun b o q np n => g'.hh b o q np n, g'.al, g'.old, ⟨g'.ok.sub, fun a e => (by cases e), g'.ok.nt, g'.ok.tb⟩⟩
    exact q v ⟨F', H', S2.T⟩ (g2.trans (g3.up g2.ok rfl)) t2 r
end
end DL
namespace DL
open PySem L2
open Evl (Ex)
section
variable {K : PySem.W.Frag} [LT K] {p : Option Addr} {S S0 S1 S2 S3 : Wd} {B : Hp} {σ σ' : L2.St} {te ta tb tc to : TE} {d d1 d2 d3 : D} {ds es : List D} {v : V} {m M n k : Nat} {P P1 P2 : D → Prop} {l l' : En} {i j : Nat} {t : Ty} {D : Ends}
/-- [f for x, y in what is walked if b]: the items are pairs -/
theorem eo_lcP {wi : TI} {tt : TT} {vs : List Nat} {b : DL.D → Bool} {f px py : DL.D → DL.D} (h : Sta K p S0 B m M n σ S l) (hq : EvS K p wi σ S ds) (hi : i < m) (hj : j < m) (hij : i ≠ j) (hv : vs.contains i = true) (hv2 : vs.contains j = true) (hpair : ∀ d ∈ ds, d = .tup [px d, py d])
    (he : ∀ d ∈ ds, ∀ B' n' σ' S', Sta K p S0 B' m M n' σ' S' (put j (.dat (py d)) (put i (.dat (px d)) (l.filter fun q => !vs.contains q.1))) → EvT K p tt σ' S' (b d) ∧ (b d = true → EvD K p te σ' S' (f d))) (hz : ds.length < sizeLine) :
    EvO K p (tLc wi (gTup K 2 (gCons (gName i) (gCons (gName j) gNil))) tt te vs) σ S ((ds.filter b).map f) := by
  intro S1 g1 Q q
  have hm : i ∈ vs := by simpa using hv
  have hm2 : j ∈ vs := by simpa using hv2
  refine hq S1 g1 _ fun J S2 g2 t2 src => ?_
  intro A hA
  have hF2 := g2.ok.freshF hA
  have hAp := ok_ne g2.ok hA
  refine ⟨fun c k H' => k = ds.length - c ∧ c ≤ ds.length ∧ ∃ S' acc, S'.H = H' ∧ Gr K p S2 S' ∧ S'.T ≤ S2.T ∧ S'.H A = some (.lst acc) ∧ S'.F A = none ∧ Rps K S'.F acc (((ds.take c).filter b).map f),
    ⟨ds.length, by simp, Nat.zero_le _, ⟨S2.F, upd S2.H A (.lst []), S2.T⟩, [], rfl, Gr.newO g2.ok hA, Nat.le_refl _, upd_same, hF2, by rw [List.take_zero]; exact .nil⟩, ?_⟩
  rintro c k H' ⟨rfl, hc, S', acc, rfl, g', t', hA', hF', ra⟩
  obtain ⟨s1, s2⟩ := src S' g'.ff g'.ok c
  by_cases hlt : c < ds.length
  · obtain ⟨go, yl⟩ := s1 hlt
    refine .inr ⟨go, fun H' => ∃ S' acc, S'.H = H' ∧ Gr K p S2 S' ∧ S'.T ≤ S2.T ∧ S'.H A = some (.lst acc) ∧ S'.F A = none ∧ Rps K S'.F acc (((ds.take (c + 1)).filter b).map f), fun H' q => ⟨ds.length - (c + 1), by omega, rfl, hlt, q⟩, fun x H' y => ?_⟩
    obtain ⟨eH, d, hd, rx⟩ := yl x H' y
    subst eH
    have st := (h.any ((g1.trans g2).trans g')).wiped vs
    have hdm := List.mem_of_getElem? hd
    have rx2 : Rp K S'.F x (.tup [px d, py d]) := hpair d hdm ▸ rx
    cases rx2 with
    | tup hsq rr =>
    cases rr with
    | cons r1 rr =>
    cases rr with
    | cons r2 rr =>
    cases rr
    have st1 := st.set (t := .dat (px d)) hi r1 (fun z => by cases z)
    have st2 := (st1.set (t := .dat (py d)) hj r2 (fun z => by cases z)).base (fun _ _ q => q)
    obtain ⟨e1, e2⟩ := he d hdm _ _ _ _ st2
    refine ⟨_, _, rfl, Evl.ex_t g'.ok.sub hsq, rfl, _, _, rfl, _, _, rfl, rfl, ?_⟩
    refine ⟨by rw [wipe_set hm2, wipe_set hm, wipe_wipe fun _ z => z], e1 S' (Gr.refl g'.ok) _ fun S3 g3 t3 => ?_⟩
    have tk : (ds.take (c + 1)).filter b = if b d = true then (ds.take c).filter b ++ [d] else (ds.take c).filter b := by
      rw [List.take_succ, hd, List.filter_append]
      simp only [Option.toList, List.filter_cons, List.filter_nil]
      split <;> simp
    cases hb : b d with
    | true =>
      rw [if_pos rfl]
      refine e2 hb S3 g3 _ fun y S4 g4 t4 ry => ?_
      have g5 := g3.trans g4
      have hA4 := g5.hh _ _ hA' hAp
      have hF4 : S4.F A = none := (g5.old A (by rw [hA']; simp)).trans hF'
      have hl : acc.length ≤ ds.length := by
        rw [ra.length, List.length_map]
        exact Nat.le_trans (List.length_filter_le _ _) (by rw [List.length_take]; omega)
      refine ⟨acc, hA4, by omega, ⟨S4.F, upd S4.H A (.lst (acc ++ [y])), S4.T⟩, acc ++ [y], rfl, Gr.chg g2.ok (g'.trans g5) hA hF4 hA4 (fun ps z => by cases z) code_ne_lst, by show S4.T ≤ _; omega, upd_same, hF4, ?_⟩
      rw [tk, hb, if_pos rfl, List.map_append]
      exact ((ra.mono g5.ff).snoc ry)
    | false =>
      rw [if_neg Bool.false_ne_true]
      have hA3 := g3.hh _ _ hA' hAp
      have hF3 : S3.F A = none := (g3.old A (by rw [hA']; simp)).trans hF'
      refine ⟨S3, acc, rfl, g'.trans g3, by omega, hA3, hF3, ?_⟩
      rw [tk, hb, if_neg Bool.false_ne_true]
      exact ra.mono g3.ff
  · have e : c = ds.length := by omega
    subst e
    rw [List.take_length] at ra
    exact .inl ⟨s2 rfl, q A acc S' (g2.trans g') (by omega) (g2.fresh hA) hA' hF' ra⟩
end
end DL
/-! ## a lambda that is handed to a def: no parameter, or one whose default is a number; what its making does to the tables of code objects -/
namespace DL.Lm
open PySem PySem.Spec PyProof.Rows L2 LamX
/-- what is tracked before (H) and behind (H1) the making of a lambda: all but the tables stays, the tables grow, only the one at P may be new -/
structure Made (T : List (Addr × Str)) (P : Addr) (H H1 : Hp) : Prop where
  ext : ExtN H H1
  tabs : Tabs T H1
  only : ∀ b rows, H1 b = some (.tbl rows) → b = P ∨ ∃ old, H b = some (.tbl old)
theorem Made.same {T : List (Addr × Str)} {P : Addr} {H : Hp} (t : Tabs T H) : Made T P H H := ⟨ExtN.refl H, t, fun _ rows e => .inr ⟨rows, e⟩⟩
/-- the table at P gets a row, which tells the code object at c -/
abbrev grown (H : Hp) (P c : Addr) (q : Str) (rows : Array Value) (pos : Pos) : Hp := upd (upd H P (.tbl (rows ++ #[rawInt pos.line, rawInt pos.col, .ref c]))) c (CodeO c q)
theorem Made.row {T : List (Addr × Str)} {P c : Addr} {q : Str} {H : Hp} {rows : Array Value} {pos : Pos} (t : Tabs T H) (hu : ∀ p ∈ T, p.1 = P → p.2 = q) (hP : H P = some (.tbl rows)) (h3 : TriplesOk rows.toList)
    (told : ∀ (at_ : Pos) (v : Value), codeAmong at_ rows.toList = some v → ∃ d, v = .ref d ∧ H d = some (CodeO d q)) (new : H c = none) : Made T P H (grown H P c q rows pos) := by
  have apart : ∀ b o, H b = some o → b ≠ c := fun b o e z => by rw [z, new] at e; cases e
  have stays : ∀ b o, H b = some o → b ≠ P → grown H P c q rows pos b = some o := fun b o e n => by
    unfold grown
    rw [upd_ne (apart b o e), upd_ne n, e]
  have ext : ExtN H (grown H P c q rows pos) := fun b o e n => stays b o e fun z => n rows (by rw [z, hP] at e; exact (Option.some.inj e).symm)
  refine ⟨ext, fun p hp => ?_, fun b r hb => ?_⟩
  · by_cases z : p.1 = P
    · have here : grown H P c q rows pos p.1 = some (.tbl (rows ++ #[rawInt pos.line, rawInt pos.col, .ref c])) := by
        unfold grown
        rw [z, upd_ne (apart P _ hP), upd_same]
      have more : (rows ++ #[rawInt pos.line, rawInt pos.col, Value.ref c]).toList = rows.toList ++ [rawInt pos.line, rawInt pos.col, .ref c] := by rw [Array.toList_append]
      refine ⟨_, here, more ▸ PySem.TriplesOk_snoc _ _ _ _ h3, fun at_ v hv => ?_⟩
      rw [hu p hp z]
      rw [more] at hv
      rcases among_app rows.toList h3 hv with old | e
      · obtain ⟨d, e, hd⟩ := told at_ v old
        exact ⟨d, e, ext d _ hd fun ps => codeO_ne ps⟩
      · exact ⟨c, e, upd_same⟩
    · obtain ⟨ps, a, b, g⟩ := t p hp
      refine ⟨ps, stays _ _ a z, b, fun at_ v hv => ?_⟩
      obtain ⟨d, e, hd⟩ := g at_ v hv
      exact ⟨d, e, ext d _ hd fun ps => codeO_ne ps⟩
  · by_cases z : b = P
    · exact .inl z
    · refine .inr ⟨r, ?_⟩
      unfold grown at hb
      by_cases y : b = c
      · rw [y, upd_same] at hb
        exact absurd (Option.some.inj hb) (codeO_ne r)
      · rwa [upd_ne y, upd_ne z] at hb
section
variable {X : Cx} {pins : List (Addr × Obj)} {σ : L2.St} {s : Shared} {H : Hp}
/-- what was laid behind all that is there is no frame -/
theorem no_frame (I : Inv X pins σ H s) {f : Addr} (h : s.heap.objs.size ≤ f) : f ∉ frs X.stack := fun z => by
  cases I.stkSub f z with
  | head => exact absurd I.lt (Nat.not_lt.mpr h)
  | tail _ m => exact I.nofs h m
/-- a lambda as an object -/
abbrev lamO (q : Str) (params : Arguments) (body : Expr) (scope : Scope) (X : Cx) (dV doc pm : Value) (c' : Addr) (ct : Value) : Obj := PySem.W.kdv_obj "<lambda>" q params (.expr body) scope (cloFrom X.env.cells scope.names []) dV doc pm c' ct
abbrev lamF (q : Str) (params : Arguments) (body : Expr) (scope : Scope) (X : Cx) (dV doc pm : Value) (c' : Addr) (ct : Value) : FuncData := PySem.W.kdv_fn "<lambda>" q params (.expr body) scope (cloFrom X.env.cells scope.names []) dV doc pm (.ref c') ct
/-- what is known behind the making: the lambda stands at f, its code object at c' -/
structure Lam (T : List (Addr × Str)) (P : Addr) (X : Cx) (pins : List (Addr × Obj)) (σ : L2.St) (H : Hp) (q : Str) (params : Arguments) (body : Expr) (scope : Scope) (dV : Value) (f c' : Addr) (pm doc ct : Value) (H1 : Hp) (s' : Shared) : Prop where
  inv : Inv X pins σ H1 s'
  made : Made T P H H1
  obj : s'.heap.get? f = some (lamO q params body scope X dV doc pm c' ct)
  off : H1 f = none
  nofr : f ∉ frs X.stack
  code : H1 c' = some (CodeO c' q)
theorem tail_made {T : List (Addr × Str)} {c P : Addr} {q : Str} {params : Arguments} {body : Expr} {scope : Scope} {pos : Pos} {ln : Nat} {dV : Value} {E Q : Value → Shared → Prop} (I : Inv X pins σ H s) (B : TabB X.base X.mg c P) (hc : X.env.code = .ref c)
    (hm : (P, q) ∈ T) (hu : ∀ p ∈ T, p.1 = P → p.2 = q) (t : Tabs T H) (hf : ∀ y ∈ scope.names, y.2 = .free → ∃ d, X.env.cells.lookup y.1 = some d)
    (h : ∀ f c' pm doc ct H1 s', Lam T P X pins σ H q params body scope dV f c' pm doc ct H1 s' → (∀ b o, b ≠ P → s.heap.get? b = some o → s'.heap.get? b = some o ∧ H1 b = H b) → Q (.ref f) s') :
    wpAny (model X.prog X.w) X.A (makeTail "<lambda>" q params (.expr body) scope X.env dV .none none pos ln) Q E s := by
  obtain ⟨rows, hP, h3, told⟩ := t (P, q) hm
  have here := I.hok P _ hP
  have glob := I.mod.glob.keeps I.bk
  have head := B.code.keeps I.bk
  have blt := B.bm.keeps I.bk
  cases find : codeAmong pos rows.toList with
  | some v =>
    obtain ⟨d, rfl, hd⟩ := told pos v find
    refine PySem.W.kdv_makeTailHit (closure_ok hf) I.ok.glob glob hc head here h3 find blt fun ct doc h' tk kp le => ?_
    have kp2 : ∀ o' : Obj, ∀ b o, s.heap.get? b = some o → (h'.push o').get? b = some o := fun o' b o e => Heap.get?_push_of_some o' (kp b o e)
    exact h h'.objs.size d _ doc ct H _ ⟨I.kept (kp2 _), .same t, Heap.get?_push_size _ rfl, I.hok.fresh le, no_frame I le, hd⟩ fun b o _ e => ⟨kp2 _ b o e, rfl⟩
  | none =>
    refine PySem.W.kdv_makeTail (closure_ok hf) I.ok.glob glob hc head here h3 find B.gP blt fun c' ct doc h' tk ext ge lt rec_ tab => ?_
    obtain ⟨d, oc, vs, u, e, go, gd, gv⟩ := rec_
    obtain rfl : c' = d := Value.ref.inj e
    have kp2 : ∀ o' : Obj, ∀ b o, b ≠ P → s.heap.get? b = some o → (h'.push o').get? b = some o := fun o' b o n e => Heap.get?_push_of_some o' (ext b o n e)
    have le : s.heap.objs.size ≤ h'.objs.size := Nat.le_of_lt (Nat.lt_of_le_of_lt ge lt)
    have new : H c' = none := I.hok.fresh ge
    have off : grown H P c' q rows pos h'.objs.size = none := by
      unfold grown
      rw [upd_ne (Nat.ne_of_gt lt), upd_ne (Nat.ne_of_gt (Nat.lt_of_lt_of_le (Heap.lt_size here) le))]
      exact I.hok.fresh le
    exact h h'.objs.size c' _ doc ct _ _ ⟨inv_table (more := #[rawInt pos.line, rawInt pos.col, .ref c']) I hP (kp2 _) (Heap.get?_push_of_some _ tab) ge ⟨oc, vs, u, Heap.get?_push_of_some _ go, gd, gv⟩,
      .row t hu hP h3 told new, Heap.get?_push_size _ rfl, off, no_frame I le, upd_same⟩ fun b o n e => ⟨kp2 _ b o n e, by
        rw [upd_ne (Nat.ne_of_lt (Nat.lt_of_lt_of_le (Heap.lt_size e) ge)), upd_ne n]⟩
end
/-- called without arguments: no parameter, or one with a number as its default -/
def NoArgs (params : Arguments) (body : Expr) (scope : Scope) : Prop :=
  params.kw_defaults = [] ∧ ((params.defaults = [] ∧ ∀ q cl doc pm cv ct, bindArgs (PySem.W.kdv_fn "<lambda>" q params (.expr body) scope cl .none doc pm cv ct) ⟨[], []⟩ = pure []) ∨
    ∃ n i j p, params.defaults = [.Constant (.int i) j p] ∧ scope.names.lookup n = some .local ∧
      ∀ q cl a doc pm cv ct, ∃ k, bindArgs (PySem.W.kdv_fn "<lambda>" q params (.expr body) scope cl (.ref a) doc pm cv ct) ⟨[], []⟩ = seqItems? (.ref a) >>= k ∧ ∀ u, k (some #[u]) = pure [(n, u)])
/-- the binding of a call without arguments, wherever the untracked objects are as they were -/
def Binding (X : Cx) (q : Str) (params : Arguments) (body : Expr) (scope : Scope) (dV doc pm : Value) (c' : Addr) (ct : Value) (H1 : Hp) (s' : Shared) : Prop :=
  ∀ s2 : Shared, (∀ b o, s'.heap.get? b = some o → H1 b = none → b ∉ frs X.stack → s2.heap.get? b = some o) →
    ∃ bs, (∀ y ∈ bs, scope.names.lookup y.1 = some .local) ∧ BindsTo s2 (lamF q params body scope X dV doc pm c' ct) ⟨[], []⟩ bs
section
variable {X : Cx} {pins : List (Addr × Obj)} {σ : L2.St} {s : Shared} {H : Hp}
theorem made {T : List (Addr × Str)} {c P : Addr} {params : Arguments} {body : Expr} {scope : Scope} {pos : Pos} {E Q : Value → Shared → Prop} (I : Inv X pins σ H s) (B : TabB X.base X.mg c P) (hc : X.env.code = .ref c)
    (hm : (P, X.env.qual ++ "<lambda>") ∈ T) (hu : ∀ p ∈ T, p.1 = P → p.2 = X.env.qual ++ "<lambda>") (t : Tabs T H) (hf : ∀ y ∈ scope.names, y.2 = .free → ∃ d, X.env.cells.lookup y.1 = some d) (na : NoArgs params body scope)
    (h : ∀ dV f c' pm doc ct H1 s', Lam T P X pins σ H (X.env.qual ++ "<lambda>") params body scope dV f c' pm doc ct H1 s' → Binding X (X.env.qual ++ "<lambda>") params body scope dV doc pm c' ct H1 s' → Q (.ref f) s') :
    wpAny (model X.prog X.w) X.A (eval (.Lambda params body scope pos) X.env) Q E s := by
  obtain ⟨kw, ⟨d0, bind⟩ | ⟨n, i, j, p, d1, loc, bind⟩⟩ := na
  · refine PySem.W.kla_eval (by rw [defaultsOf_eq, d0, kw]; rfl) ?_
    rw [makeFunction_eq]
    simp only [List.zip_nil_right, List.filterMap_nil, List.isEmpty_nil, if_true, pure_bind]
    exact tail_made I B hc hm hu t hf fun f c' pm doc ct H1 s' L _ => h _ f c' pm doc ct H1 s' L fun s2 _ => ⟨[], (fun _ z => by cases z), .of_eq (bind _ _ _ _ _ _)⟩
  · refine PySem.W.kdv_lam (by rw [d1]; rfl) kw ?_
    rw [d1]
    refine PySem.W.kdv_all1 (wpAny_Constant_int (PySem.W.kdv_all0 ?_))
    rw [makeFunction_eq]
    simp only [List.zip_nil_right, List.filterMap_nil, List.isEmpty_nil, List.isEmpty_cons, Bool.false_eq_true, if_true, if_false, pure_bind]
    refine wpAny_bind (wpAny_newTextTuple ?_)
    have I2 := (I.tok (s.toks + 1)).kept (t' := s.toks + 1) fun b o e => Heap.get?_push_of_some { cls := .type "tuple", data := .seq [Value.int i s.toks].toArray } e
    have new : H s.heap.objs.size = none := I.hok.fresh (Nat.le_refl _)
    refine tail_made I2 B hc hm hu t hf fun f c' pm doc ct H1 s' L kp => h _ f c' pm doc ct H1 s' L fun s2 same => ?_
    obtain ⟨ps, hP, _⟩ := t _ hm
    obtain ⟨at1, same1⟩ := kp s.heap.objs.size _ (fun z => by rw [← z, new] at hP; cases hP) (Heap.get?_push_size _ rfl)
    have off : H1 s.heap.objs.size = none := same1.trans new
    obtain ⟨k, b1, b2⟩ := bind (X.env.qual ++ "<lambda>") (cloFrom X.env.cells scope.names []) s.heap.objs.size doc pm (.ref c') ct
    exact ⟨[(n, .int i s.toks)], (fun y hy => by rw [List.mem_singleton.mp hy]; exact loc), BindsTo.of_defaults rfl (same _ _ at1 off (no_frame I (Nat.le_refl _))) rfl b1 (b2 _)⟩
end
/-! ### the lambda's own body -/
/-- a lambda's names: captured ones, globals, and own ones that its maker (names N) has not -/
structure LamP (N : List Str) (sc scope : Scope) : Prop where
  kind : scope.kind = .function
  co : scope.isCoroutine = false
  gen : scope.isGenerator = false
  nocell : ∀ y ∈ scope.names, y.2 ≠ .cell
  own : ∀ y ∈ scope.names, y.2 = .local → y.1 ∉ N
  free : ∀ y ∈ scope.names, y.2 = .free → sc.names.lookup y.1 = some .cell ∨ sc.names.lookup y.1 = some .free
def lamPB (N : List Str) (sc scope : Scope) : Bool :=
  decide (scope.kind = .function) && (!scope.isCoroutine && (!scope.isGenerator && scope.names.all fun y => match y.2 with
    | .cell => false
    | .local => !N.contains y.1
    | .free => decide (sc.names.lookup y.1 = some .cell) || decide (sc.names.lookup y.1 = some .free)
    | _ => true))
theorem lamP_by {N : List Str} {sc scope : Scope} (h : lamPB N sc scope = true) : LamP N sc scope := by
  unfold lamPB at h
  rw [Bool.and_eq_true, Bool.and_eq_true, Bool.and_eq_true] at h
  obtain ⟨a, b, c, d⟩ := h
  have all := List.all_eq_true.mp d
  refine ⟨of_decide_eq_true a, by simpa using b, by simpa using c, fun y hy e => ?_, fun y hy e m => ?_, fun y hy e => ?_⟩ <;> have q := all y hy <;> rw [e] at q
  · cases q
  · simp [m] at q
  · simpa using q
section
variable {X : Cx} {pins : List (Addr × Obj)} {σ : L2.St} {s s1 : Shared} {H HZ : Hp}
theorem LamP.cells {N : List Str} {scope : Scope} (L : LamP N X.env.scope scope) (ok : X.Ok) : ∀ y ∈ scope.names, y.2 = .free → ∃ d, X.env.cells.lookup y.1 = some d :=
  fun y hy e => ok.has y.1 ((L.free y hy e).imp id id)
/-- the closure's cells are the maker's -/
theorem clo_sub {scope : Scope} (hf : ∀ y ∈ scope.names, y.2 = .free → ∃ d, X.env.cells.lookup y.1 = some d) {y : Str} {d : Addr} (h : (cloFrom X.env.cells scope.names []).lookup y = some d) : X.env.cells.lookup y = some d := by
  cases cloFrom_mem (PySem.mem_of_lookup h) with
  | inl z => cases z
  | inr z =>
    obtain ⟨d2, e⟩ := hf _ z.1 rfl
    have e : X.env.cells.lookup y = some d2 := e
    rw [z.2, e]
    rfl
/-- the state in which the body is entered: called from the frames outer at s1 -/
theorem enter {A : Around} {outer : List Env} {E : XK} {scope : Scope} {f c' : Addr} {h1 : Heap} {tk : Nat} {m : Str → Option Value} (I : Inv X pins σ H s) (L : LamP X.N X.env.scope scope) (e0 : Env0 X.prog X.w X.K X.mg X.base A outer s1 HZ) (hd : A.handled = none)
    (un : Un (frs X.stack) [] H HZ s.heap s1.heap) (ns : h1.Ns s1.heap.objs.size m) (kp : ∀ b o, s1.heap.get? b = some o → h1.get? b = some o) : Inv (lamCx X A outer s1 HZ E scope f c') [] σ HZ { s1 with heap := h1, toks := tk } := by
  have hf := L.cells I.ok
  have back := fun {y d} => clo_sub (X := X) (y := y) (d := d) hf
  have cellAt : ∀ {d : Addr} {v : Option Value}, H d = none → s.heap.IsCell d v → h1.IsCell d v := fun n ⟨o, e, dt⟩ => by
    obtain ⟨sl, q⟩ := un.any e n (List.not_mem_nil)
    exact ⟨{ o with slots := sl }, kp _ _ q, dt⟩
  have inner : ∀ {y}, scope.names.lookup y = some .free → ∃ d, (cloFrom X.env.cells scope.names []).lookup y = some d := fun k => mem_lookup (cloFrom_has (cells := X.env.cells) (acc := []) (PySem.mem_of_lookup k))
  constructor
  case ok =>
    constructor
    case mod => exact e0.mod
    case kind => exact L.kind
    case glob => rfl
    case blt => rfl
    case above => exact Nat.le_refl _
    case inj => exact fun y z d a b => I.ok.inj y z d (back a) (back b)
    case has =>
      intro y hy
      cases hy with
      | inl k => exact absurd rfl (L.nocell _ (PySem.mem_of_lookup k))
      | inr k => exact inner k
    case cab => exact fun _ _ z => by cases z
    case hd => exact fun _ => hd
    case frames => exact Around.frames_deeper e0.frames
    case stk => exact .inr ⟨rfl, rfl⟩
    case exf => exact fun _ z => by cases z
    case bs => exact e0.bs
    case bsz => exact e0.bsz
    case noex => exact fun _ _ _ z => by cases z
    case exfs => exact fun _ z => by cases z
    case funs => exact e0.funs
    case frf => exact e0.frf
  case os => rfl
  case bare => exact e0.bare
  case base => exact Un.kept kp
  case loc =>
    refine ⟨m, ns, fun i y v hN hv vis => ?_⟩
    rcases vis with k | k | k
    · exact absurd (List.mem_of_getElem? hN) (L.own _ (PySem.mem_of_lookup k) rfl)
    · exact absurd rfl (L.nocell _ (PySem.mem_of_lookup k))
    · obtain ⟨m0, _, look⟩ := I.loc
      have outerK := L.free _ (PySem.mem_of_lookup k) rfl
      obtain ⟨u, ru, lk⟩ := look i y v hN hv (.inr outerK)
      obtain ⟨d, hd2⟩ := inner k
      refine ⟨u, ru, .inr ⟨.inr k, d, hd2, ?_⟩⟩
      have up := back hd2
      rcases lk with ⟨loc, _⟩ | ⟨_, d3, e3, cell⟩
      · have loc : X.env.scope.names.lookup y = some .local := loc
        exfalso
        rcases outerK with z | z
        · cases (show X.env.scope.names.lookup y = some .cell from z).symm.trans loc
        · cases (show X.env.scope.names.lookup y = some .free from z).symm.trans loc
      · obtain rfl : d = d3 := Option.some.inj (up.symm.trans e3)
        exact cellAt (I.freeC y d up) cell
  case cell =>
    intro y d e
    obtain ⟨v, hv⟩ := I.cell y d (back e)
    exact ⟨v, cellAt (I.freeC y d (back e)) hv⟩
  case free => exact e0.hok.fresh (Nat.le_refl _)
  case freeC =>
    intro y d e
    obtain ⟨v, o, at_, _⟩ := I.cell y d (back e)
    exact un.free d o at_ (I.freeC y d (back e)) (List.not_mem_nil)
  case pin => exact fun _ z => by cases z
  case hok => exact e0.hok.kept kp
  case len => exact I.len
/-- a(), within the def that was handed the lambda -/
theorem asked {T : List (Addr × Str)} {P : Addr} {H0 : Hp} {CXg : CXT} {Eg : XK} {Ng : List Str} {qg : Str} {sg : Scope} {g f c' : Addr} {cdg dV pm doc ct : Value} {params : Arguments} {body : Expr} {scope : Scope} {k i : Nat} {a : Str} {pn : List (Addr × Obj)} {xe : Value → Shared → Prop} {W : WX} {E : XK} {tb : TE} {p1 p2 : Pos}
    (M : Lam T P X pins σ H0 (X.env.qual ++ "<lambda>") params body scope dV f c' pm doc ct H s) (bd : Binding X (X.env.qual ++ "<lambda>") params body scope dV doc pm c' ct H s) (L : LamP X.N X.env.scope scope)
    (tk : Takes ((cxOf CXg X.prog X.w X.K X.mg X.base Ng qg sg g cdg X.A X.stack s H Eg).tr pn xe) W) (hW : ∀ cls d σ' H', E cls d H' → W cls d σ' H') (room : Room (k + 1) (X.A.deeper (envOfC qg sg s.heap.objs.size g cdg)))
    (hb : ∀ (A : Around) (outer : List Env) (s : Shared) (H : Hp), Room k (A.deeper (lamEnv X scope s.heap.objs.size f c')) → PE (lamCx X A outer s H E scope f c') body tb)
    (hN : Ng[i]? = some a) (hv : Vis sg a) (hd : (a == ("__debug__" : Str)) = false) (hcd : (a == ("__classdict__" : Str)) = false) :
    PE ((cxOf CXg X.prog X.w X.K X.mg X.base Ng qg sg g cdg X.A X.stack s H Eg).tr pn xe) (.Call (.Name a p1) [] [] p2)
      (fun σZ HZ Q => σZ[i]? = some (some (.ref f)) ∧ HZ c' = some (CodeO c' (X.env.qual ++ "<lambda>")) ∧ tb σ HZ Q) := by
  constructor
  intro pinsZ sZ σZ HZ Q IZ ⟨slot, code, ht⟩
  have name := (pe_var (pos := p1) hN hv hd hcd).run pinsZ sZ σZ HZ (fun v H1 => v = .ref f ∧ H1 = HZ) IZ ⟨.ref f, slot, rfl, rfl⟩
  refine wpAny_Call_Name_kw (thn name fun u s2 ⟨v, H2, I2, ru, ev, eH⟩ => ?_)
  subst ev eH
  obtain rfl : u = .ref f := ru
  have old : ∀ b o, s.heap.get? b = some o → H b = none → b ∉ frs X.stack → s2.heap.get? b = some o := fun b o e n z => I2.base.keep b o e n z List.not_mem_nil
  have fat := old f _ M.obj M.off M.nofr
  refine PySem.W.callWith_F0 ⟨_, _, _, _, fat⟩ ?_
  obtain ⟨bs, loc, bind⟩ := bd s2 old
  obtain ⟨⟨oc, vs, t, co1, co2, co3⟩, _⟩ := I2.hok c' _ code
  have run : codeAny (model X.prog X.w) (X.A.deeper (envOfC qg sg s.heap.objs.size g cdg)) (.call (.ref f) ⟨[], []⟩) (CR (L2.CX X.prog X.w) (envOfC qg sg s.heap.objs.size g cdg :: X.stack) X.prog X.w H2 s2 Q E) s2 := by
    refine PySem.W.kla_callFunE room.depth fat rfl L.co L.gen rfl ⟨c', oc, vs, t, rfl, co1, co2, co3⟩ (bind _ _ _ _ ?_)
    refine wpAny_newFunctionEnv L.nocell loc (fun h1 ns sb => ⟨I2.nolimit.fresh _ sb, ?_⟩) L.kind
    have kp : ∀ b o, s2.heap.get? b = some o → h1.get? b = some o := fun b o e => sb.extBut b o (Nat.ne_of_lt (Heap.lt_size e)) (Heap.get?_push_of_some _ e)
    have J := enter (E := E) (f := f) (c' := c') (tk := s2.toks + bs.length) M.inv L I2.env0 room.hd I2.base ns kp
    refine PySem.W.kla_codeExpr (wpAny_mono ((hb _ _ s2 H2 (room.deeper _)).run [] _ _ H2 Q J ht) (fun v s' ⟨w', H', J', rv, q⟩ => ?_) fun _ _ x => x)
    exact ⟨w', H', J'.os, J'.bare, J'.base, J'.hok, rv, q⟩
  refine wpAny_call (codeAny_mono run fun r s' done => ?_)
  match r, done with
  | .error e, done => exact passes_call tk hW pinsZ σZ H2 s2 e s' I2 done
  | .ok (.ret u), done => exact I2.after done
  | .ok .next, done => exact False.elim done
  | .ok .brk, done => exact False.elim done
  | .ok .cont, done => exact False.elim done
/-- x(lambda ..: body): what is asked -/
def tLamT (T : List (Addr × Str)) (TT : (XK → Hp → VK → Prop) → Hp → VK → Prop) (t : XK → TE) : TE := fun σ H Q =>
  Tabs T H ∧ ∀ H1, ExtN H H1 → Tabs T H1 → (∀ b rows, H1 b = some (.tbl rows) → (∃ q, (b, q) ∈ T) ∨ ∃ old, H b = some (.tbl old)) → TT (fun E H' Q' => t E σ H' Q') H1 Q
theorem pe_handed {T : List (Addr × Str)} {TT : (XK → Hp → VK → Prop) → Hp → VK → Prop} {x a : Str} {g c P : Addr} {k : Nat} {fd : FuncData} {st : Stmt} {Ng : List Str} {params : Arguments} {body : Expr} {scope : Scope} {t : XK → TE} {p lp pos : Pos}
    (F : Fun X.K x x st g fd) (hg : Gl X x) (hm : X.mg x = some (.ref g)) (b : Binds X.K fd [a] []) (Sg : FnScope Ng [a] (defScope st)) (hNg : Ng[0]? = some a) (hva : Vis (defScope st) a) (hG : ∀ cdv, GivesTo X Ng x (defScope st) g cdv (defBody st) a (X.env.qual ++ "<lambda>") TT)
    (B : TabB X.base X.mg c P) (hc : X.env.code = .ref c) (hT : (P, X.env.qual ++ "<lambda>") ∈ T) (hu : ∀ p ∈ T, p.1 = P → p.2 = X.env.qual ++ "<lambda>") (room : Room (k + 2) X.A) (L : LamP X.N X.env.scope scope) (na : NoArgs params body scope)
    (hb : ∀ (A : Around) (outer : List Env) (s : Shared) (H : Hp) (E : XK) (f c' : Addr), Room k (A.deeper (lamEnv X scope s.heap.objs.size f c')) → PE (lamCx X A outer s H E scope f c') body (t E))
    (hdb : (x == ("__debug__" : Str)) = false := by decide) (hd : (a == ("__debug__" : Str)) = false := by decide) (hcd : (a == ("__classdict__" : Str)) = false := by decide) :
    PE X (.Call (.Name x p) [.Lambda params body scope lp] [] pos) (tLamT T TT t) := by
  obtain ⟨oc, od, kV, doc0, pm0, an, cdv, ct0, osl, rfl, lk, hcg⟩ := F.ex
  constructor
  intro pins s σ H Q I ⟨tabs, want⟩
  refine wpAny_Call_Name_kw (ld_glob I hg hm (PySem.W.callWith_K (h₀ := X.base) I.ok.mod.kin F.kp ?_ (by rfl) (by rfl)) hdb)
  show wpAny _ _ (spliced ((false, eval (.Lambda params body scope lp) X.env) :: backTo pos (starEach [] X.env))) _ _ s
  refine Calls.spliced_cons (made I B hc hT hu tabs (L.cells I.ok) na fun dV f c' pm doc ct H1 s' M bd => Calls.spliced_nil ⟨M.inv.kIn, ?_⟩)
  have known : ∀ b rows, H1 b = some (.tbl rows) → (∃ q, (b, q) ∈ T) ∨ ∃ old, H b = some (.tbl old) := fun b rows e => (M.made.only b rows e).imp (fun z => ⟨_, z ▸ hT⟩) id
  have run := run_ofS (CX := C8.CX0) (E := C8.E0) (Q := Q) (vs := [.ref f]) (us := [.ref f]) lk hcg Sg room M.inv.env0 (b s' [.ref f] M.inv.kIn rfl) (.cons rfl .nil) rfl fun room2 => by
    obtain ⟨t', run', q⟩ := hG cdv f c' s' H1 Q (fun E H' Q' => t E σ H' Q') (fun W pn xe E p1 p2 tk hW => asked (i := 0) M bd L tk hW room2 (fun A outer s H r => hb A outer s H E f c' r) hNg hva hd hcd) M.code (want H1 M.made.ext M.made.tabs known)
    exact ⟨t', run'.nox, q⟩
  refine wpAny_call (codeAny_mono run fun r s2 done => ?_)
  match r, done with
  | .error e, done => exact False.elim (show False from done)
  | .ok (.ret u), done => exact M.inv.after done
  | .ok .next, done => exact False.elim done
  | .ok .brk, done => exact False.elim done
  | .ok .cont, done => exact False.elim done
end
end DL.Lm
namespace DL
open PySem PySem.Spec PyProof.Rows L2
/-! ## the def that calls what it got and hears what is raised -/
/-- a part that is never come to -/
theorem pss_dead {X : Cx} {body : List Stmt} : PSs X body (fun _ _ _ => False) := ⟨fun _ _ _ _ _ _ h => h.elim⟩
/-- behind a caught exception: what its class and its dict are -/
structure Heard (K : PySem.W.Frag) (C : Addr) : Prop where
  T : ExcC K C
  F : XfC K C
  part : PySem.W.findIn K (.ref C) "part" = some none
theorem pss_pin {X : Cx} {body : List Stmt} {a : Addr} {oe : Obj} {cls : Value} {d : Option Addr} {v : Addr → Addr → TS} (hm : (a, oe) ∈ X.pn) (hz : Zc cls d oe) (hf : ∃ vs, oe.data = .fields vs)
    (h : ∀ C dd, Heard X.K C → Pinned X a (.ref C) (some dd) → PSs X body (v C dd)) : PSs X body (fun En σ H => ∃ C dd, cls = .ref C ∧ d = some dd ∧ Heard X.K C ∧ v C dd En σ H) :=
  ⟨fun pins s σ H En I ⟨C, dd, ec, ed, hH, hv⟩ => by
    subst ec
    subst ed
    exact (h C dd hH ⟨oe, hm, hz, hf⟩).run pins s σ H En I hv⟩
theorem takes_len {X : Cx} {W : WX} (tk : Takes X W) : Takes X (fun cls d σ H => σ.length = X.N.length → W cls d σ H) := fun u s' ⟨a, B, sI, pins, σ, H, cls, d, e, I, nb, up, sky, na, os, ag, w⟩ =>
  tk u s' ⟨a, B, sI, pins, σ, H, cls, d, e, I, nb, up, sky, na, os, ag, w I.len⟩
/-- x = ask() -/
def tAsk (n : Nat) (W : WX) (f c' : Addr) (q : Str) (tl : XK → Hp → VK → Prop) (i : Nat) : TS := fun En σ H => ∃ Ech : XK, (∀ cls d σ' H', σ'.length = n → Ech cls d H' → W cls d σ' H') ∧ σ[0]? = some (some (.ref f)) ∧ H c' = some (LamX.CodeO c' q) ∧
  tl Ech H fun v H' => En.nx (σ.set i (some v)) H'
theorem pss_ask {X : Cx} {W : WX} {f c' : Addr} {q a x : Str} {tl : XK → Hp → VK → Prop} {i : Nat} {p p1 p2 p3 : Pos} (tk : Takes X W)
    (act : ∀ (W : WX) (E : XK), Takes X W → (∀ cls d σ' H', E cls d H' → W cls d σ' H') → PE X (.Call (.Name a p1) [] [] p2) (fun σZ HZ Q => σZ[0]? = some (some (.ref f)) ∧ HZ c' = some (LamX.CodeO c' q) ∧ tl E HZ Q))
    (hN : X.N.Nodup) (hi : X.N[i]? = some x) (hx : Loc X.env.scope x) (hs : swapsWith (.Call (.Name a p1) [] [] p2) (some (.Name x p)) p3.line X.env = pure false := by rfl) (hf : X.fn x = true ∨ X.env.scope.names.lookup x = some .local := by first | exact .inl rfl | exact .inr rfl | assumption) :
    PSs X [.Assign [.Name x p] (.Call (.Name a p1) [] [] p2) p3] (tAsk X.N.length W f c' q tl i) :=
  ⟨fun pins s σ H En I ⟨Ech, hW, h1, h2, h3⟩ => (pss_one (ps_set (pos := p3) (pos' := p) hN hi hx (act _ Ech (takes_len tk) fun cls d σ' H' he hl => hW cls d σ' H' hl he) hs hf)).run pins s σ H En I ⟨h1, h2, h3⟩⟩
/-! ### what is asked of it, over data -/
section
variable {K : PySem.W.Frag} [LT K] {p : Option Addr} {S S0 S1 S2 : Wd} {B : Hp} {σ : L2.St} {te ta tb : TE} {d : D} {l : En} {m M n i : Nat} {a C dd b : Addr} {x : Str}
theorem rd_isRef : RD K p rIsN (.val (.ref a)) .non (.bl false) := rd_of (fun _ => .bl _) fun S1 x y o rx ry Q q => by
  cases rx
  cases ry
  exact ⟨rfl, by rw [show decide (V.ref a = V.non) = false from decide_eq_false fun z => by cases z]; exact q⟩
/-- isinstance(caught, C) -/
theorem ed_isP {r : Bool} {fs : List (Str × V)} (h : EvD K p te σ S (.val (.ref a))) (hk : PySem.W.kitOne K (.ref C) (.ref b) = some r) (hd : S.H dd = some (.xd fs)) (hp : some dd ≠ p) : EvD K p (tCB (rIsP K C a dd) (tCons te (tCons (tC (.ref b)) tNil))) σ S (.bl r) := fun S1 g Q q =>
  h S1 g _ fun v S2 g2 t2 rv => by
    cases rv
    exact ⟨.ref b, .ref b, r, fs, rfl, (fun u hu => hu), hk, (g.trans g2).hh _ _ hd hp, q (.bl r) S2 g2 t2 (.bl r)⟩
/-- caught.part -/
theorem ed_xp {fs : List (Str × V)} {u : V} (h : EvD K p te σ S (.val (.ref a))) (hl : fs.lookup x = some u) (hu : ∀ F, Rp K F u d) (hd : S.H dd = some (.xd fs)) (hp : some dd ≠ p) : EvD K p (tXp a dd x te) σ S d := fun S1 g Q q =>
  h S1 g _ fun v S2 g2 t2 rv => by
    cases rv
    exact ⟨rfl, fs, u, (g.trans g2).hh _ _ hd hp, hl, q u S2 g2 t2 (hu _)⟩
/-- no exception: what was answered, in a list -/
def QH (K : PySem.W.Frag) [LT K] (p : Option Addr) (S1 : Wd) (Q : VK) : VK := fun v H' => ∃ S2 d, S2.H = H' ∧ Gr K p S1 S2 ∧ S2.T ≤ S1.T ∧ Rp K S2.F v d ∧ ∀ v' S3, Gr K p S2 S3 → S3.T ≤ S2.T → Rp K S3.F v' (.lst [d]) → Q v' S3.H
/-- an exception of one field: its word, its part -/
def EH (K : PySem.W.Frag) [LT K] (HC : Addr → Str → Prop) (p : Option Addr) (S1 : Wd) (Q : VK) : XK := fun cls dd H' => ∃ S2 C dx x word, S2.H = H' ∧ Gr K p S1 S2 ∧ S2.T ≤ S1.T ∧ cls = .ref C ∧ dd = some dx ∧ H' dx = some (.xd [("part", .str x)]) ∧ HC C word ∧
  ∀ v' S3, Gr K p S2 S3 → S3.T ≤ S2.T → Rp K S3.F v' (.tup [.str word, .str x]) → Q v' S3.H
def TTh (K : PySem.W.Frag) [LT K] (HC : Addr → Str → Prop) : (XK → Hp → VK → Prop) → Hp → VK → Prop := fun tl H Q => ∃ p S, S.H = H ∧ Ok K p S ∧ S.T ≤ 1000000000 ∧ ∀ S1, Gr K p S S1 → S1.T ≤ S.T → ∀ (Q' : VK) (E' : XK), (∀ v H', QH K p S1 Q v H' → Q' v H') → (∀ c d H', EH K HC p S1 Q c d H' → E' c d H') → tl E' S1.H Q'
/-- a lambda was made -/
theorem lam_gr (ok : Ok K p S) {H1 : Hp} (ext : LamX.ExtN S.H H1) (tb : LamX.Tabs (LT.tabs K) H1) (nn : ∀ a ps, H1 a = some (.tbl ps) → ∃ q, (a, q) ∈ LT.tabs K) : Gr K p S ⟨S.F, H1, S.T⟩ := by
  have pn : ∀ a, p = some a → ∀ o, S.H a = some o → H1 a = some o := fun a e o ho => by
    obtain ⟨⟨c, t, r, cs, h1, _⟩, _⟩ := ok.pen a e
    exact ext a o ho fun ps z => by rw [h1] at ho; cases ho; cases z
  refine ⟨fun _ _ h => h, fun a o h _ n => ext a o h n, fun a h => ?_, fun a h => rfl, ⟨fun a o h => ext a o (ok.sub a o h) fun ps z => ok.nt a ps (by rw [h, z]), fun a e => ?_, ok.nt, ⟨tb, nn⟩⟩⟩
  · cases e : S.H a with
    | none => exact absurd e h
    | some o =>
      by_cases ht : ∃ ps, o = .tbl ps
      · obtain ⟨ps, rfl⟩ := ht
        obtain ⟨q, hq⟩ := ok.tb.only a ps e
        obtain ⟨ps', h1, _⟩ := tb _ hq
        intro z
        have z : H1 a = none := z
        rw [show H1 a = _ from h1] at z
        cases z
      · intro z
        have z : H1 a = none := z
        rw [show H1 a = _ from ext a o e fun ps z => ht ⟨ps, z⟩] at z
        cases z
  · obtain ⟨⟨c, t, r, cs, h1, h2⟩, h3⟩ := ok.pen a e
    exact ⟨⟨c, t, r, cs, pn a e _ h1, h2⟩, h3⟩
/-- heard(lambda: ..): the lambda answers -/
theorem ed_heard {HC : Addr → Str → Prop} {t : XK → TE} (h : ∀ E, EvD K p (t E) σ S d) (hb : ∀ S1, Gr K p S S1 → S1.T ≤ 1000000000) : EvD K p (Lm.tLamT (LT.tabs K) (TTh K HC) t) σ S (.lst [d]) := fun S1 g Q q => by
  refine ⟨g.ok.tb.tabs, fun H1 ext tb no => ?_⟩
  have g1 := lam_gr g.ok ext tb fun a ps e => (no a ps e).elim id fun ⟨old, h⟩ => g.ok.tb.only a old h
  refine ⟨p, ⟨S1.F, H1, S1.T⟩, rfl, g1.ok, hb S1 g, fun S2 g2 t2 Q' E' hQ hE => h _ S2 (g.trans (g1.trans g2)) _ fun v S3 g3 t3 rv => hQ _ _ ?_⟩
  exact ⟨S3, d, rfl, g3, t3, rv, fun v' S4 g4 t4 rv' => q v' S4 (g1.trans (g2.trans (g3.trans g4))) (by have : S2.T ≤ S1.T := t2; omega) rv'⟩
/-- what heard tells of f(..) -/
def heardD (o : Option D) (word x : Str) : D := match o with
  | some d => .lst [d]
  | none => .tup [.str word, .str x]
theorem ed_heardE {HC : Addr → Str → Prop} {n : Nat} {pre : List D → Prop} {f : List D → Option D} {ta : TA} {ds : List D} {word : Str} (h : EvA K p ta σ S ds) (hn : ds.length = n) (hp : pre ds) (hw : f ds = none → HC C word):
    EvN K p (Lm.tLamT (LT.tabs K) (TTh K HC) fun E => tCall (spE K n pre f C [("part", .str x)]) [] E ta) σ S 0 (fun d => d = heardD (f ds) word x) := fun S1 g hb Q q' => by
  have q : ∀ v S2, Gr K p S1 S2 → S2.T ≤ S1.T → Rp K S2.F v (heardD (f ds) word x) → Q v S2.H := fun v S2 g2 t2 r => q' v _ S2 g2 t2 r rfl
  refine ⟨g.ok.tb.tabs, fun H1 ext tb no => ?_⟩
  have g1 := lam_gr g.ok ext tb fun a ps e => (no a ps e).elim id fun ⟨old, h⟩ => g.ok.tb.only a old h
  refine ⟨p, ⟨S1.F, H1, S1.T⟩, rfl, g1.ok, hb, fun S2 g2 t2 Q' E' hQ hE => h S2 (g.trans (g1.trans g2)) _ fun vs S3 g3 t3 rs => ?_⟩
  have t23 : S3.T ≤ S1.T := by have : S2.T ≤ S1.T := t2; omega
  have lift : ∀ {F' H' : Hp}, Gr K none ⟨S3.F, S3.H, 0⟩ ⟨F', H', 0⟩ → Gr K p S3 ⟨F', H', S3.T⟩ := fun {F' H'} g' =>
    Gr.up (S' := ⟨F', H', S3.T⟩) ⟨g'.ff, fun b o q np n => g'.hh b o q np n, g'.al, g'.old, ⟨g'.ok.sub, fun a e => (by cases e), g'.ok.nt, g'.ok.tb⟩⟩ g3.ok rfl
  refine ⟨S3.F, ds, ⟨g3.ok.sub, fun a e => (by cases e), g3.ok.nt, g3.ok.tb⟩, by rw [List.append_nil]; exact rs, hn, hp, fun d hd v F' H' g' rv => ?_, fun hnone dx F' H' g' hx => ?_⟩
  · refine hQ _ _ ⟨⟨F', H', S3.T⟩, d, rfl, g3.trans (lift g'), t3, rv, fun v' S4 g4 t4 rv' => q v' S4 (g1.trans (g2.trans (g3.trans ((lift g').trans g4)))) (by have : S4.T ≤ S3.T := t4; omega) ?_⟩
    rw [hd]
    exact rv'
  · refine hE _ _ _ ⟨⟨F', H', S3.T⟩, C, dx, x, word, rfl, g3.trans (lift g'), t3, rfl, rfl, hx, hw hnone, fun v' S4 g4 t4 rv' => q v' S4 (g1.trans (g2.trans (g3.trans ((lift g').trans g4)))) (by have : S4.T ≤ S3.T := t4; omega) ?_⟩
    rw [hnone]
    exact rv'
/-- x, y = a pair -/
theorem s_unp2 {d1 d2 : D} {i1 i2 : Nat} {G : Ends} (h : Sta K p S0 B m M n σ S l) (he : EvD K p te σ S (.tup [d1, d2])) (h1 : i1 < m) (h2 : i2 < m) (kk : ∀ σ' S', Sta K p S0 B m M n σ' S' (put i2 (.dat d2) (put i1 (.dat d1) l)) → G.nx σ' S'.H) :
    tAsg te (gTup K 2 (gCons (gName i1) (gCons (gName i2) gNil))) G σ S.H :=
  he S (Gr.refl h.ok) _ fun v S2 g2 t2 rv => by
    cases rv with
    | tup hsq rr =>
    cases rr with
    | cons r1 rr =>
    cases rr with
    | cons r2 rr =>
    cases rr
    have s1 := (h.grow0 g2 t2).set (t := .dat d1) h1 r1 (fun z => by cases z)
    have s2 := s1.set (t := .dat d2) h2 r2 (fun z => by cases z)
    exact ⟨_, _, rfl, Evl.ex_t g2.ok.sub hsq, rfl, _, _, rfl, _, _, rfl, rfl, kk _ S2 s2⟩
end
end DL
namespace DL
open PySem PySem.Spec PyProof.Rows L2 NdefX
/-! ## what the printed terms name, for laws with own exceptions and lambdas -/
/-- a def whose code object is at c -/
structure FunC (K : PySem.W.Frag) (x qual : Str) (st : Stmt) (f : Addr) (fd : FuncData) (c : Addr) : Prop where
  ex : ∃ (oc : Value) (od : Option Addr) (kV doc pm : Value) (an : Option Addr) (ct : Value) (osl : Array (Option Value)),
    fd = PySem.W.fnOf x qual (defArgs st) (defBody st) (defScope st) .none kV doc pm an (.ref c) ct ∧ K.lookup f = some ⟨oc, od, .func fd, osl⟩ ∧ PySem.W.codeIn K (.ref c) qual = true
section
variable {P : Program} {w : World} {K : PySem.W.Frag} {mg : Str → Option Value} {base : Heap} {k : Nat} {f c : Addr} {fd : FuncData} {ps : List Str} {sp : Sp}
theorem gn_okC {x qual : Str} {st : Stmt} {N : List Str} (F : FunC K x qual st f fd c) (S : FnScope N ps (defScope st)) (len : ∀ vs H Q E, sp vs H Q E → vs.length = ps.length)
    (hbody : ∀ (A : Around) (outer : List Env) (s : Shared) (H : Hp) (vs : List V) (Q : VK) (E : XK), A.guards = some [] → Room k (A.deeper (envOfC qual (defScope st) s.heap.objs.size f (.ref c))) → sp vs H Q E →
      ∃ t, PSs (cxOf CX0 P w K mg base N qual (defScope st) f (.ref c) A outer s H E).nox (defBody st) t ∧ t { nx := fun _ H' => Q .non H', rt := Q } (L2.start N vs) H) : GnOk P w K mg base CX0 (k + 1) f fd ps sp := by
  obtain ⟨oc, od, kV, doc, pm, an, ct, osl, rfl, lk, hcd⟩ := F.ex
  refine gn_of lk hcd S len fun A outer s H vs Q E hG hr hsp => ?_
  obtain ⟨t, h, q⟩ := hbody A outer s H vs Q E hG hr hsp
  exact ⟨t, h.nox, q⟩
theorem funC_mk {x qual : Str} {st : Stmt} {oc : Value} {od an : Option Addr} {osl : Array (Option Value)} {kV doc pm ct : Value} (l : K.lookup f = some ⟨oc, od, .func (PySem.W.fnOf x qual (defArgs st) (defBody st) (defScope st) .none kV doc pm an (.ref c) ct), osl⟩)
    (hc : PySem.W.codeIn K (.ref c) qual = true) : FunC K x qual st f (PySem.W.fnOf x qual (defArgs st) (defBody st) (defScope st) .none kV doc pm an (.ref c) ct) c := ⟨oc, od, kV, doc, pm, an, ct, osl, rfl, l, hc⟩
end
/-- the __init__ of a class of one field -/
structure PartI (P : Program) (K : PySem.W.Frag) (mg : Str → Option Value) (D fI : Addr) (fd : FuncData) : Prop where
  ex : ∃ (F : NF) (cc : Addr) (doc pm ctv oc : Value) (od : Option Addr) (osl : Array (Option Value)), fd = F.fd doc pm ctv ∧ SInit P K mg fI F "self" D cc doc pm ctv oc od osl ∧ NScope ["self", "part", "__class__"] ["self", "part"] ["__class__"] F.scope ∧
    ∃ p0 p1 p2 p3 p4 p5 p6 p7 p8 p9, F.body = [.Expr (.Call (.Attribute (.Call (.Name "super" p0) [] [] p1) "__init__" p2) [.Name "part" p3] [] p4) p5, .Assign [.Attribute (.Name "self" p6) "part" p7] (.Name "part" p8) p9] ∧ ∀ L : Addr, ∃ pl : Sem Bool,
      eval (.Call (.Attribute (.Call (.Name "super" p0) [] [] p1) "__init__" p2) [.Name "part" p3] [] p4) (envF F fI L) = (do
        let ov ← attributeBase (.Call (.Name "super" p0) [] [] p1) "__init__" (envF F fI L) (eval (.Call (.Name "super" p0) [] [] p1) (envF F fI L))
        standAt p2.atName
        let (f, first) ← holding [ov] (getMethod ov "__init__" pl)
        callWith p4 f first (backTo p4 (starEach [.Name "part" p3] (envF F fI L))) [])
  b : Binds K fd ["self", "part"] []
  tI : PySem.W.typeIn K (.ref fI) = some (.type "function")
theorem PartI.ok {P : Program} {w : World} {K : PySem.W.Frag} {mg : Str → Option Value} {base : Heap} {CX : CXT} {D fI : Addr} {fd : FuncData} (h : PartI P K mg D fI fd) : FnOk P w K mg base CX 1 fI fd ["self", "part"] (spPart K D "part") := by
  obtain ⟨F, cc, doc, pm, ctv, oc, od, osl, rfl, SI, S, hb⟩ := h.ex
  exact part_ok SI S hb
/-- a class below it that is raised -/
structure RaiseI (K : PySem.W.Frag) (D fI C : Addr) : Prop where
  S : SCls K D C
  no : PySem.W.findIn K (.ref C) "part" = some none
  iC : PySem.W.findIn K (.ref C) "__init__" = some (some (.ref fI))
/-- raise C("..") -/
def tRaiseP (K : PySem.W.Frag) (D C : Addr) (x : Str) (E : XK) : TS := fun _ σ H => tMkO C (spPart K D "part") [] (tCons (tC (.str x)) tNil) σ H fun cls d H' => E cls d H'
theorem ps_raiseP {X : Cx} {E : XK} {D fI C : Addr} {fd : FuncData} {n x : Str} {j k : Nat} {p1 p2 p3 p4 : Pos} (hc : X.calm = true) (I : PartI X.prog X.K X.mg D fI fd) (R : RaiseI X.K D fI C) (hr : Room (k + 2) X.A) (tk : Takes X (fun cls d _ H => E cls d H)) (hg : Gl X n) (hm : X.mg n = some (.ref C))
    (hdb : (n == ("__debug__" : Str)) = false := by decide) (he : starEach [.Constant (.str x) j p2] X.env = (false, eval (.Constant (.str x) j p2) X.env) :: starEach [] X.env := by rfl) (hpl : (backTo p3 (starEach [] X.env)).any (·.1) = false := by rfl) :
    PS X (.Raise (some (.Call (.Name n p1) [.Constant (.str x) j p2] [] p3)) none p4) (tRaiseP X.K D C x E) :=
  ps_raise hc tk (pmk_oex (k := 1) R.S.T R.iC I.tI I.ok (hr.mono (by omega)) I.b .nil pass0 hg hm (pa_cons pe_str pa_nil) hdb he hpl)
end DL
namespace DL
open PySem L2
open Evl (Ex)
/-! ## ints in order -/
def insU (x : Int) : List Int → List Int
  | [] => [x]
  | y :: l => if x < y then x :: y :: l else if x = y then y :: l else y :: insU x l
def srt (l : List Int) : List Int := l.foldr insU []
theorem insU_mem (x k : Int) : ∀ l, k ∈ insU x l ↔ k = x ∨ k ∈ l
  | [] => by simp [insU]
  | y :: l => by
    unfold insU
    split
    · simp
    · split
      · rename_i h; subst h; simp
      · rw [List.mem_cons, insU_mem x k l, List.mem_cons]
        constructor <;> (intro h; rcases h with h | h | h <;> simp [h])
theorem insU_asc (x : Int) : ∀ l : List Int, l.Pairwise (· < ·) → (insU x l).Pairwise (· < ·)
  | [], _ => by simp [insU]
  | y :: l, h => by
    obtain ⟨h1, h2⟩ := List.pairwise_cons.mp h
    unfold insU
    split
    · rename_i hx
      refine List.pairwise_cons.mpr ⟨fun z hz => ?_, h⟩
      rcases List.mem_cons.mp hz with e | e
      · rw [e]; exact hx
      · exact Int.lt_trans hx (h1 z e)
    · split
      · exact h
      · rename_i a b
        refine List.pairwise_cons.mpr ⟨fun z hz => ?_, insU_asc x l h2⟩
        rcases (insU_mem x z l).mp hz with e | e
        · omega
        · exact h1 z e
theorem srt_asc (l : List Int) : (srt l).Pairwise (· < ·) := by
  unfold srt
  induction l with
  | nil => exact List.Pairwise.nil
  | cons x l ih => exact insU_asc x _ ih
theorem srt_mem (l : List Int) (k : Int) : k ∈ srt l ↔ k ∈ l := by
  unfold srt
  induction l with
  | nil => simp
  | cons x l ih => rw [List.foldr_cons, insU_mem, ih, List.mem_cons]
theorem asc_ext : ∀ {xs ys : List Int}, xs.Pairwise (· < ·) → ys.Pairwise (· < ·) → (∀ k, k ∈ xs ↔ k ∈ ys) → xs = ys
  | [], [], _, _, _ => rfl
  | [], y :: ys, _, _, h => absurd ((h y).mpr List.mem_cons_self) (by simp)
  | x :: xs, [], _, _, h => absurd ((h x).mp List.mem_cons_self) (by simp)
  | x :: xs, y :: ys, p, q, h => by
    obtain ⟨p1, p2⟩ := List.pairwise_cons.mp p
    obtain ⟨q1, q2⟩ := List.pairwise_cons.mp q
    have e : x = y := by
      rcases List.mem_cons.mp ((h x).mp List.mem_cons_self) with a | a
      · exact a
      · rcases List.mem_cons.mp ((h y).mpr List.mem_cons_self) with b | b
        · exact b.symm
        · have := q1 x a; have := p1 y b; omega
    subst e
    congr 1
    refine asc_ext p2 q2 fun k => ⟨fun hk => ?_, fun hk => ?_⟩
    · rcases List.mem_cons.mp ((h k).mp (List.mem_cons_of_mem _ hk)) with a | a
      · have := p1 k hk; omega
      · exact a
    · rcases List.mem_cons.mp ((h k).mpr (List.mem_cons_of_mem _ hk)) with a | a
      · have := q1 k hk; omega
      · exact a
theorem srt_of {xs ys : List Int} (h : ys.Pairwise (· < ·)) (m : ∀ k, k ∈ ys ↔ k ∈ xs) : ys = srt xs := asc_ext h (srt_asc xs) fun k => (m k).trans (srt_mem xs k).symm
theorem srt_congr {xs ys : List Int} (m : ∀ k, k ∈ xs ↔ k ∈ ys) : srt xs = srt ys := asc_ext (srt_asc _) (srt_asc _) fun k => by rw [srt_mem, srt_mem, m k]
theorem lt_of_le_nd : ∀ {l : List Int}, l.Pairwise (· ≤ ·) → l.Nodup → l.Pairwise (· < ·)
  | [], _, _ => .nil
  | x :: l, p, q => by
    obtain ⟨p1, p2⟩ := List.pairwise_cons.mp p
    obtain ⟨q1, q2⟩ := List.nodup_cons.mp q
    refine List.pairwise_cons.mpr ⟨fun y hy => ?_, lt_of_le_nd p2 q2⟩
    have := p1 y hy
    have : x ≠ y := fun z => q1 (z ▸ hy)
    omega
def rSortDI : List V → Hp → VK → Prop := fun xs H Q => ∃ (a : Addr) (kvs : List (Key × V)) (ks : List Int), xs = [.ref a] ∧ Rd H a (.dK kvs) ∧ kvs.map (·.1) = ks.map Sum.inl ∧ ks.length < 64 ∧
  ∀ (ys : List Int) (p : Addr), ys.Perm ks → ys.Pairwise (· ≤ ·) → H p = none → Q (.ref p) (upd H p (.lst (ys.map V.int)))
theorem cr_sortDI {X : Cx} (hc : X.calm = true) : CallR X (.builtin "sorted") rSortDI := call_sortedDI hc
/-! ## slices of a list or a tuple -/
def rSlR (K : PySem.W.Frag) : V → Option Int → Option Int → Hp → VK → Prop := fun x lo hi H Q => rSlL K x lo hi H Q ∨ rSlT K x lo hi H Q
theorem sl_row {X : Cx} : L2.SlR X (rSlR X.K) := sl_list.or sl_tup
/-! ## a dict of the module with text keys -/
def rNinKd (K : PySem.W.Frag) (d : Addr) : R2 := fun x y H Q => ∃ (z : Str) (r : Option Value), x = .str z ∧ y = .ref d ∧ PySem.W.nsIn K d z = some r ∧ Q (.bl (!r.isSome)) H
/-- what the dict tells of a key -/
def KAt (K : PySem.W.Frag) (w : World) (a : Addr) (x : Str) (v : V) : Prop := KDct K w a x v
/-- a tuple of ints in the ground -/
def KTupI (K : PySem.W.Frag) (a : Addr) (is : List Int) : Prop := ∃ (o : Obj) (its : Array Value) (n : Nat), K.lookup a = some o ∧ o.cls = .type "tuple" ∧ o.data = .seq its n ∧ its.size ≤ sizeLine ∧ Vals (is.map V.int) its.toList
def intsB : List Value → List Int → Bool
  | [], [] => true
  | .int i _ :: us, j :: is => decide (i = j) && intsB us is
  | _, _ => false
def tupInt (o : Obj) (is : List Int) : Bool := match o with
  | ⟨.type "tuple", none, .seq its _, _⟩ => decide (its.size ≤ 1000) && intsB its.toList is
  | _ => false
theorem intsB_vals : ∀ (us : List Value) (is : List Int), intsB us is = true → Vals (is.map V.int) us
  | [], [], _ => .nil
  | u :: us, [], h => by cases u <;> simp [intsB] at h
  | [], j :: is, h => by simp [intsB] at h
  | u :: us, j :: is, h => by
    cases u <;> simp only [intsB, Bool.and_eq_true, decide_eq_true_eq, Bool.false_eq_true] at h
    obtain ⟨rfl, h2⟩ := h
    exact .cons ⟨_, rfl⟩ (intsB_vals us is h2)
section
variable {K : PySem.W.Frag} [LT K] {p : Option Addr} {S S0 S1 S2 S3 : Wd} {B : Hp} {σ σ' : L2.St} {te ta tb tc to : TE} {d d1 d2 d3 e : D} {ds es : List D} {v : V} {m M n k : Nat} {P P1 P2 : D → Prop} {l l' : En} {i j : Nat} {t : Ty} {G : Ends}
theorem eo_sortSetI {P : Program} {w : World} {xs : List Int} (h : EvQ K p ta σ S true (xs.map D.int)) (hz : xs.length ≤ 4000) (h64 : (uniq xs).length < 64) : EvO K p (tSortSetI P w K ta) σ S ((srt xs).map D.int) := fun S1 g Q q =>
  ev_set (fun r => r.ints_inv) h hz S1 g Q fun a S2 g2 t2 ha _ _ => ⟨a, _, rfl, ha, h64, fun ys b hp hm hb => by
    cases srt_of hp fun j => (hm j).trans mem_uniq
    exact q b _ ⟨S2.F, upd S2.H b (.lst ((srt xs).map V.int)), S2.T⟩ (g2.trans (Gr.newO g2.ok hb)) t2 (g2.fresh hb) upd_same (g2.ok.freshF hb) (Rps.ints _)⟩
theorem eo_sortDI {kds : List (Key × D)} {xs : List Int} (h : EvD K p ta σ S (.dic kds)) (hk : kds.map (·.1) = xs.map Sum.inl) (nd : xs.Nodup) (h64 : xs.length < 64) : EvO K p (tCB rSortDI (tCons ta tNil)) σ S ((srt xs).map D.int) := fun S1 g Q q =>
  h S1 g _ fun v S2 g2 t2 rv => by
    cases rv with
    | dic hF hkk rr =>
    rename_i a kvs
    refine ⟨a, kvs, xs, rfl, .inl (g2.ok.sub _ _ hF), hkk.trans hk, h64, fun ys b hp hle hb => ?_⟩
    cases srt_of (lt_of_le_nd hle (hp.nodup_iff.mpr nd)) fun k => hp.mem_iff
    exact q b _ ⟨S2.F, upd S2.H b (.lst ((srt xs).map V.int)), S2.T⟩ (g2.trans (Gr.newO g2.ok hb)) t2 (g2.fresh hb) upd_same (g2.ok.freshF hb) (Rps.ints _)
end
end DL
namespace DL
open PySem L2
open Evl (Ex)
section
variable {K : PySem.W.Frag} [LT K] {p : Option Addr} {S S0 S1 S2 S3 : Wd} {B : Hp} {σ σ' : L2.St} {te ta tb tc to ti : TE} {d d1 d2 d3 e : D} {ds es : List D} {v : V} {m M n k : Nat} {P P1 P2 : D → Prop} {l l' : En} {i j : Nat} {t : Ty} {G : Ends} {w : World}
/-! ## tests that draw -/
/-- at most n draws; true or false -/
def EvTN (K : PySem.W.Frag) [LT K] (p : Option Addr) (tt : TT) (σ : L2.St) (S : Wd) (n : Nat) : Prop := ∀ S1, Gr K p S S1 → S1.T + n ≤ 1000000000 → ∀ Q : Bool → Hp → Prop, (∀ b S2, Gr K p S1 S2 → S2.T ≤ S1.T + n → Q b S2.H) → tt σ S1.H Q
theorem EvT.tn {tt : TT} {b : Bool} (h : EvT K p tt σ S b) : EvTN K p tt σ S 0 := fun S1 g _ Q q => h S1 g Q fun S2 g2 t2 => q b S2 g2 t2
theorem EvTN.le {tt : TT} (h : EvTN K p tt σ S n) (hn : n ≤ k) : EvTN K p tt σ S k := fun S1 g b Q q => h S1 g (by omega) Q fun b' S2 g2 t2 => q b' S2 g2 (by omega)
theorem etn_test (h : EvN K p te σ S n (fun d => ∃ b, d = .bl b)) : EvTN K p (tTest te) σ S n := fun S1 g hb Q q => h S1 g hb _ fun v d S2 g2 t2 r hd => by
  obtain ⟨b, rfl⟩ := hd
  cases r
  exact ⟨b, rfl, q b S2 g2 t2⟩
/-- a draw compared with a number -/
theorem etn_cmp {r : R2} {f : Int → Bool} (ha : EvN K p ta σ S n (fun d => ∃ z : Int, d = .int z)) (hb : EvD K p tb σ S d2) (hr : ∀ z : Int, RD K p r (.int z) d2 (.bl (f z))) : EvTN K p (tTest (tOp r ta tb)) σ S n :=
  etn_test (en_op1 ha hb fun d ⟨z, hz⟩ => ⟨.bl (f z), ⟨_, rfl⟩, hz ▸ hr z⟩)
theorem etn_or {t u : TT} {b : Bool} (h1 : EvT K p t σ S b) (h2 : b = false → EvTN K p u σ S n) : EvTN K p (tOr t u) σ S n := fun S1 g hB Q q => h1 S1 g _ fun S2 g2 t2 => by
  cases b with
  | true => exact q true S2 g2 (by omega)
  | false => exact h2 rfl S2 (g.trans g2) (by omega) _ fun b' S3 g3 t3 => q b' S3 (g2.trans g3) (by omega)
theorem en_ifTN {tt : TT} (h : EvTN K p tt σ S n) (h1 : EvN K p ta σ S k P) (h2 : EvN K p tb σ S k P) : EvN K p (tIf tt ta tb) σ S (n + k) P := fun S1 g hB Q q => h S1 g (by omega) _ fun b S2 g2 t2 => by
  cases b with
  | true =>
    show (if true = true then _ else _)
    rw [if_pos rfl]
    exact h1 S2 (g.trans g2) (by omega) Q fun v d S3 g3 t3 r hp => q v d S3 (g2.trans g3) (by omega) r hp
  | false =>
    show (if false = true then _ else _)
    rw [if_neg Bool.false_ne_true]
    exact h2 S2 (g.trans g2) (by omega) Q fun v d S3 g3 t3 r hp => q v d S3 (g2.trans g3) (by omega) r hp
theorem s_ifTN {tt : TT} {tu tw : TS} (h : Sta K p S0 B m M n σ S l) (he : EvTN K p tt σ S k) (hn : n + k ≤ M) (k1 : ∀ S', Sta K p S0 B m M (n + k) σ S' l → tu G σ S'.H) (k2 : ∀ S', Sta K p S0 B m M (n + k) σ S' l → tw G σ S'.H) : tIfS tt tu tw G σ S.H :=
  he S (Gr.refl h.ok) (by have := h.tb; have := h.tn; omega) _ fun b S2 g2 t2 => by
    cases b with
    | true =>
      show (if true = true then _ else _)
      rw [if_pos rfl]
      exact k1 S2 (h.grow g2 t2)
    | false =>
      show (if false = true then _ else _)
      rw [if_neg Bool.false_ne_true]
      exact k2 S2 (h.grow g2 t2)
/-! ## return x if c else y -/
theorem s_retIf {tt : TT} {b : Bool} (h : Sta K p S0 B m M n σ S l) (he : EvT K p tt σ S b) (k1 : b = true → ∀ S', Sta K p S0 B m M n σ S' l → tRet ta G σ S'.H) (k2 : b = false → ∀ S', Sta K p S0 B m M n σ S' l → tRet tb G σ S'.H) : tRet (tIf tt ta tb) G σ S.H :=
  he S (Gr.refl h.ok) _ fun S2 g2 t2 => by
    have h2 := h.grow0 g2 t2
    cases b with
    | true =>
      show (if true = true then _ else _)
      rw [if_pos rfl]
      exact k1 rfl S2 h2
    | false =>
      show (if false = true then _ else _)
      rw [if_neg Bool.false_ne_true]
      exact k2 rfl S2 h2
/-! ## x, y, z = a tuple -/
theorem s_unp3 {i1 i2 i3 : Nat} (h : Sta K p S0 B m M n σ S l) (he : EvD K p te σ S (.tup [d1, d2, d3])) (h1 : i1 < m) (h2 : i2 < m) (h3 : i3 < m) (kk : ∀ σ' S', Sta K p S0 B m M n σ' S' (put i3 (.dat d3) (put i2 (.dat d2) (put i1 (.dat d1) l))) → G.nx σ' S'.H) :
    tAsg te (gTup K 3 (gCons (gName i1) (gCons (gName i2) (gCons (gName i3) gNil)))) G σ S.H :=
  he S (Gr.refl h.ok) _ fun v S2 g2 t2 rv => by
    cases rv with
    | tup hsq rr =>
    cases rr with
    | cons r1 rr =>
    cases rr with
    | cons r2 rr =>
    cases rr with
    | cons r3 rr =>
    cases rr
    have H2 := h.grow0 g2 t2
    have s1 := H2.set (t := .dat d1) h1 r1 (fun z => by cases z)
    have s2 := s1.set (t := .dat d2) h2 r2 (fun z => by cases z)
    have s3 := s2.set (t := .dat d3) h3 r3 (fun z => by cases z)
    exact ⟨_, _, rfl, Evl.ex_t g2.ok.sub hsq, rfl, _, _, rfl, _, _, rfl, _, _, rfl, rfl, kk _ S2 s3⟩
/-! ## slices of rows -/
/-- the same kind of row, other items -/
def likeD (d : D) (es : List D) : D := match d with
  | .tup _ => .tup es
  | _ => .lst es
theorem cut_from {α : Type} (xs : List α) : cutL xs (some 1) none = xs.drop 1 := by
  unfold cutL
  have e : HT.sIx xs.length 0 (some 1) = min 1 xs.length := HT.sIx_nat xs.length 0 1
  have e2 : HT.sIx xs.length xs.length none = xs.length := rfl
  rw [e, e2]
  cases xs with
  | nil => rfl
  | cons x xs =>
    have e3 : min 1 (x :: xs).length = 1 := by simp
    rw [e3, List.drop_one, List.tail_cons, List.length_cons, Nat.add_sub_cancel, List.take_length]
theorem cut_upto {α : Type} (xs : List α) (k : Nat) (hk : k + 1 ≤ xs.length) : cutL xs (some 1) (some (1 + (k : Int))) = (xs.drop 1).take k := by
  unfold cutL
  have e : HT.sIx xs.length 0 (some 1) = min 1 xs.length := HT.sIx_nat xs.length 0 1
  have e2 : HT.sIx xs.length xs.length (some (1 + (k : Int))) = min (1 + k) xs.length := by
    have := HT.sIx_nat xs.length xs.length (1 + k)
    rw [← this]
    rfl
  rw [e, e2, show min 1 xs.length = 1 by omega, show min (1 + k) xs.length = 1 + k by omega, Nat.add_sub_cancel_left]
theorem ed_slRL {tl th : TO} {lo hi : Option Int} (ha : EvD K p ta σ S (.lst ds)) (hl : EvB K p tl σ S lo) (hh : EvB K p th σ S hi) : EvD K p (tSl (rSlR K) ta tl th) σ S (.lst (cutL ds lo hi)) := fun S1 g Q q =>
  ha S1 g _ fun v S2 g2 t2 rv => hl S2 (g.trans g2) _ fun S3 g3 t3 => hh S3 ((g.trans g2).trans g3) _ fun S4 g4 t4 => by
    cases rv with
    | lst hF rr =>
    rename_i av xv
    refine .inl ⟨_, _, rfl, .of ((g2.trans (g3.trans g4)).ok.sub _ _ ((g3.trans g4).ff _ _ hF)), fun q' hq' => ?_⟩
    have gg := Gr.new (o := .lst (cutV xv lo hi)) g4.ok hq'
    exact q _ _ ((g2.trans (g3.trans g4)).trans gg) (by show S4.T ≤ _; omega) (.lst upd_same ((((rr.mono (g3.trans g4).ff).cut lo hi)).mono gg.ff))
theorem ed_slRT {tl th : TO} {lo hi : Option Int} (ha : EvD K p ta σ S (.tup ds)) (hl : EvB K p tl σ S lo) (hh : EvB K p th σ S hi) (hw : ¬ (HT.sIx ds.length 0 lo = 0 ∧ HT.sIx ds.length ds.length hi = ds.length)) : EvD K p (tSl (rSlR K) ta tl th) σ S (.tup (cutL ds lo hi)) := fun S1 g Q q =>
  ha S1 g _ fun v S2 g2 t2 rv => hl S2 (g.trans g2) _ fun S3 g3 t3 => hh S3 ((g.trans g2).trans g3) _ fun S4 g4 t4 => by
    cases rv with
    | tup hF rr =>
    rename_i av xv
    refine .inr ⟨_, _, rfl, Evl.ex_t (g2.trans (g3.trans g4)).ok.sub (Evl.ex_t (g3.trans g4).ff hF), by rw [rr.length]; exact hw, fun q' hq' => ?_⟩
    have gg := Gr.new (o := .tup (cutV xv lo hi)) g4.ok hq'
    exact q _ _ ((g2.trans (g3.trans g4)).trans gg) (by show S4.T ≤ _; omega) (.tup (.inl (.inl upd_same)) ((((rr.mono (g3.trans g4).ff).cut lo hi)).mono gg.ff))
theorem ed_slR {tl th : TO} {lo hi : Option Int} (ha : EvD K p ta σ S d) (hd : rowD d = some ds) (hl : EvB K p tl σ S lo) (hh : EvB K p th σ S hi) (hw : ¬ (HT.sIx ds.length 0 lo = 0 ∧ HT.sIx ds.length ds.length hi = ds.length)) : EvD K p (tSl (rSlR K) ta tl th) σ S (likeD d (cutL ds lo hi)) := by
  cases d <;> simp only [rowD, Option.some.injEq, reduceCtorEq] at hd
  · subst hd; exact ed_slRL ha hl hh
  · subst hd; exact ed_slRT ha hl hh hw
theorem from1 {n : Nat} (h : 1 ≤ n) (hi : Option Int) : ¬ (HT.sIx n 0 (some 1) = 0 ∧ HT.sIx n n hi = n) := fun z => by
  have e : HT.sIx n 0 (some 1) = min 1 n := HT.sIx_nat n 0 1
  rw [e] at z
  omega
/-! ## a dict of the module with text keys -/
theorem rd_ninKd {z : Str} {a : Addr} {r : Option Value} (h : PySem.W.nsIn K a z = some r) : RD K p (rNinKd K a) (.str z) (.val (.ref a)) (.bl (!r.isSome)) := rd_of (fun _ => .bl _) fun S1 x y o rx ry Q q => by
  cases rx
  cases ry
  exact ⟨z, r, rfl, rfl, h, q⟩
theorem rd_ixKd {z : Str} {a : Addr} (h : KDct K w a z v) (hv : ∀ F, Rp K F v d) : RD K p (rIxD K w) (.val (.ref a)) (.str z) d := rd_of hv fun S1 x y o rx ry Q q => by
  cases rx
  cases ry
  exact ⟨a, z, v, rfl, rfl, h, q⟩
theorem KTupI.rp {a : Addr} {is : List Int} (h : KTupI K a is) : ∀ F, Rp K F (.ref a) (.tup (is.map D.int)) := fun F => by
  obtain ⟨o, its, n, h1, h2, h3, h4, h5⟩ := h
  exact .tup (.inr ⟨o, its, n, h1, h2, h3, h4, h5⟩) (Rps.ints is)
/-! ## a display's get -/
/-- a display of texts and numbers -/
def dispT (ps : List (Str × Int)) : List (TE × TE) := ps.map fun q => (tC (.str q.1), tC (.int q.2))
def dispK (ps : List (Str × Int)) : List (Key × V) := ps.map fun q => (.inr q.1, .int q.2)
theorem disp_pairs {H : Hp} : ∀ (ps : List (Str × Int)) (Q : List (V × V) → Hp → Prop), Q ((dispK ps).map fun kv => (kV kv.1, kv.2)) H → tPairs (dispT ps) σ H Q
  | [], Q, q => q
  | a :: ps, Q, q => disp_pairs ps (fun r H' => Q ((V.str a.1, V.int a.2) :: r) H') q
/-- {..}.get(text) -/
theorem ed_getDisp {z : Str} {ps : List (Str × Int)} (hn : ps.length ≤ 15) (hv : valV (mergeK [] (dispK ps)) (.inr z) = r) (ht : EvD K p te σ S (.str z)) (hr : ∀ F, Rp K F (r.getD .non) d) : EvD K p (tDGet1 (tDisp (dispT ps)) te) σ S d := fun S1 g Q q => by
  intro A hA
  refine disp_pairs ps _ ⟨upd_same, dispK ps, rfl, by unfold dispK; rw [List.length_map]; exact hn, A, rfl, .inl ⟨_, .inl upd_same⟩, ?_⟩
  have e : upd (upd S1.H A (.dK [])) A (.dK (mergeK [] (dispK ps))) = upd S1.H A (.dK (mergeK [] (dispK ps))) := by
    funext b
    by_cases h : b = A
    · subst h; rw [upd_same, upd_same]
    · rw [upd_ne h, upd_ne h, upd_ne h]
  rw [e]
  have g2 : Gr K p S1 ⟨S1.F, upd S1.H A (.dK (mergeK [] (dispK ps))), S1.T⟩ := Gr.newO g.ok hA
  refine ht _ (g.trans g2) _ fun v S3 g3 t3 rv => ?_
  cases rv
  refine ⟨r, ?_, q _ S3 (g2.trans g3) t3 (hr _)⟩
  rw [← hv]
  exact DGet.k (k := .inr z) (g3.hh A _ upd_same (ok_ne g.ok hA))
/-! ## own lists and dicts -/
theorem s_setLN {z : Int} {c : Nat} (h : Sta K p S0 B m M n σ S l) (hg : get l i = some (.own ds)) (he : EvN K p te σ S k P) (hi : EvD K p ti σ S (.int z)) (hc : ixN ds.length z = some c) (hn : n + k ≤ M)
    (kk : ∀ d S', P d → Sta K p S0 B m M (n + k) σ S' (put i (.own (ds.set c d)) l) → G.nx σ S'.H) : tAsg te (gSub (tVar i) ti rSetL) G σ S.H := by
  obtain ⟨v, e, a, vs, rfl, h1, h2, h3, h4⟩ := h.has _ (get_mem hg)
  refine he S (Gr.refl h.ok) (by have := h.tb; have := h.tn; omega) _ fun y d S2 g2 t2 ry hd => ⟨_, e, hi S2 g2 _ fun x S3 g3 t3 rx => ?_⟩
  cases rx
  have H2 := h.grow (k := k) (g2.trans g3) (by omega)
  have e1 := g3.hh _ _ (g2.hh _ _ h1 (ok_ne h.ok0 h4)) (ok_ne h.ok0 h4)
  refine ⟨a, vs, z, c, rfl, rfl, e1, by rw [h2.length]; exact hc, ?_⟩
  exact kk d ⟨S3.F, upd S3.H a (.lst (vs.set c y)), S3.T⟩ hd (H2.chg hg e e1 (Rps.set (ry.mono g3.ff) c ((h2.mono g2.ff).mono g3.ff)))
/-- a dict of ours is handed out -/
theorem s_retDic {kds : List (Key × D)} (h : Sta K p S0 B m M n σ S l) (hg : get l i = some (.odc kds)) (kk : ∀ v S', S'.H = S.H → Gr K p S0 S' → S'.T ≤ S0.T + n → Rp K S'.F v (.dic kds) → G.rt v S'.H) : tRet (tVar i) G σ S.H := by
  obtain ⟨v, e, a, kvs, rfl, h1, hk, h2, h3, h4⟩ := h.has _ (get_mem hg)
  exact ⟨_, e, kk (.ref a) ⟨upd S.F a (.dK kvs), S.H, S.T⟩ rfl (h.g.fix h4 h1 h3 (ok_ne h.ok0 h4)) h.tn (.dic upd_same hk (h2.mono (Ex.new h3)))⟩
/-- an own dict changes -/
theorem Sta.chgD {a : Addr} {kvs kvs2 : List (Key × V)} {kds kds2 : List (Key × D)} (h : Sta K p S0 B m M n σ S l) (hg : get l i = some (.odc kds)) (e : σ[i]? = some (some (.ref a))) (h1 : S.H a = some (.dK kvs)) (hk : kvs2.map (·.1) = kds2.map (·.1)) (r : Rps K S.F (kvs2.map (·.2)) (kds2.map (·.2))) :
    Sta K p S0 B m M n σ ⟨S.F, upd S.H a (.dK kvs2), S.T⟩ (put i (.odc kds2) l) := by
  obtain ⟨v, e', b, us, rfl, h1', hk', h2, h3, h4⟩ := h.has _ (get_mem hg)
  rw [e] at e'
  cases e'
  have hp := ok_ne h.ok0 h4
  have g : Gr K p S0 ⟨S.F, upd S.H a (.dK kvs2), S.T⟩ := Gr.chg h.ok0 h.g h4 h3 h1 (fun ps z => by cases z) code_ne_dK
  refine ⟨h.ok0, g, h.bs, h.len, h.tb, h.tn, fun q hq => ?_, fun x hx y hy hne ox oy v hv => ?_⟩
  · unfold put at hq
    rcases List.mem_cons.mp hq with hq | hq
    · subst hq
      exact ⟨_, e, a, kvs2, rfl, upd_same, hk, r, h3, h4⟩
    · obtain ⟨hq1, hq2⟩ := del_mem hq
      obtain ⟨u, eu, hu⟩ := h.has q hq1
      refine ⟨u, eu, ?_⟩
      have apart : ∀ c, u = .ref c → q.2.ow = true → c ≠ a := fun c hc ho z => by
        subst hc
        subst z
        exact h.sep q hq1 (i, .odc kds) (get_mem hg) hq2 ho rfl _ eu e
      cases q with
      | mk qi qt =>
        cases qt with
        | dat d => exact hu
        | val w => exact hu
        | own es =>
          obtain ⟨c, xs, hc, q1, q2, q3, q4⟩ := hu
          exact ⟨c, xs, hc, by show upd S.H a _ c = _; rw [upd_ne (apart c hc rfl)]; exact q1, q2, q3, q4⟩
        | odc es =>
          obtain ⟨c, xs, hc, q1, q2, q3, q4, q5⟩ := hu
          exact ⟨c, xs, hc, by show upd S.H a _ c = _; rw [upd_ne (apart c hc rfl)]; exact q1, q2, q3, q4, q5⟩
  · have back : ∀ {x : Nat × Ty}, x ∈ put i (.odc kds2) l → x.2.ow = true → ∃ x' ∈ l, x'.1 = x.1 ∧ x'.2.ow = true := fun {x} hx ox => by
      unfold put at hx
      rcases List.mem_cons.mp hx with z | z
      · subst z
        exact ⟨(i, .odc kds), get_mem hg, rfl, rfl⟩
      · exact ⟨x, (del_mem z).1, rfl, ox⟩
    obtain ⟨x', hx', ex, ox'⟩ := back hx ox
    obtain ⟨y', hy', ey, oy'⟩ := back hy oy
    rw [← ex] at hv hne
    rw [← ey] at hne ⊢
    exact h.sep x' hx' y' hy' hne ox' oy' v hv
/-- x[k] = e, x a dict of ours -/
theorem s_dput {kds : List (Key × D)} {kk : Key} (h : Sta K p S0 B m M n σ S l) (hg : get l i = some (.odc kds)) (hi : EvD K p ti σ S (kD kk)) (he : EvD K p te σ S d) (hz : kds.length < sizeLine)
    (k : ∀ S', Sta K p S0 B m M n σ S' (put i (.odc (putG kds kk d)) l) → G.nx σ S'.H) : sDPut (tVar i) ti te G σ S.H := by
  obtain ⟨v, e, a, kvs, rfl, h1, hk, h2, h3, h4⟩ := h.has _ (get_mem hg)
  refine he S (Gr.refl h.ok) _ fun y S2 g2 t2 ry => ⟨_, e, hi S2 g2 _ fun x S3 g3 t3 rx => ?_⟩
  have ex := kD_kV rx
  subst ex
  have H2 := h.grow0 (g2.trans g3) (by omega)
  have e1 := g3.hh _ _ (g2.hh _ _ h1 (ok_ne h.ok0 h4)) (ok_ne h.ok0 h4)
  have hl : kvs.length < sizeLine := by
    have q := congrArg List.length hk
    rw [List.length_map, List.length_map] at q
    omega
  refine ⟨a, _, rfl, DPut.k e1 hl, ?_⟩
  obtain ⟨pk, pr⟩ := rps_put (k := kk) hk ((h2.mono g2.ff).mono g3.ff) (ry.mono g3.ff)
  exact k ⟨S3.F, upd S3.H a (.dK (putK kvs kk y)), S3.T⟩ (H2.chgD hg e e1 pk pr)
end
end DL
namespace PySem
open PySem.Spec PySem.Builtin
theorem dl_ext_tup (l : Addr) (xs : Array Value) (n : Nat) (b : Addr) (ys : Array Value) (n2 : Nat) (od : Option Addr) (sl : Array (Option Value)) (h0 : ¬(!xs.isEmpty && Builtin.List.listTooLong (xs.size + ys.size)) = true) (h1 : xs.size ≤ sizeLine) (h2 : xs.size + ys.size ≤ sizeLine + 1) :
    Meets (Builtin.«list.extend» ⟨[.ref l, .ref b], []⟩) (fun _ R s => s.heap.get? l = some { cls := .type "list", dict := none, data := .seq xs n, slots := #[] } ∧
      s.heap.get? b = some { cls := .type "tuple", dict := od, data := .seq ys n2, slots := sl } ∧ R (.ok (.ret Value.none)) { s with heap := s.heap.update l (Obj.mapSeq fun x => x ++ ys), toks := s.toks }) :=
  .of_wp fun prog w A R s h => by
    obtain ⟨hp, g, d, tk, os⟩ := s
    obtain ⟨hl, hb, h⟩ := h
    have f1 := AutoSeq1.idx_int
    have f2 := AutoSeq1.sub_tuple_tuple
    have f3 := AutoSeq1.sub_list_list
    have f4 := AutoSeq1.sub_tuple_list
    have f5 := AutoSeq1.sub_list_tuple
    have hz' : (xs ++ ys).size ≤ sizeLine + 1 := by
      rw [Array.size_append]
      exact h2
    wp_walk using (wpAny_updateSeq hl rfl (hz := h1) (_hz' := hz')), wpAny_loadPart' hl, wpAny_loadPart' hb
    exact ⟨_, rfl, h⟩
end PySem
namespace DL
open PySem PySem.Spec PyProof.Rows L2
def rExtT (K : PySem.W.Frag) : V → List V → Hp → VK → Prop := fun x vs H Q => ∃ l b xs zs, x = .ref l ∧ vs = [.ref b] ∧ H l = some (.lst xs) ∧ SqT K H b zs ∧ xs.length + zs.length ≤ sizeLine ∧ Q .non (upd H l (.lst (xs ++ zs)))
theorem mt_extT {X : Cx} : MtM X "list.extend" (rExtT X.K) := by
  intro pins s σ H x vs v us Q I rx rv h
  obtain ⟨l, b, xs, zs, rfl, rfl, hH, hB, hz, q⟩ := h
  cases rx
  obtain ⟨u, rfl, ru⟩ := rv.one
  cases ru
  obtain ⟨z, its, n, r, hl, e⟩ := I.lstM hH
  obtain ⟨ts, r2, ⟨⟨oc, od, odat, osl⟩, e2, hc, n2, hd⟩, z2⟩ := I.tuple hB
  dsimp only at hc hd
  subst hc
  subst hd
  have hl2 := r2.length
  have few : its.toArray.size + ts.toArray.size ≤ sizeLine := by rw [List.size_toArray, List.size_toArray, ← hl, ← hl2]; exact hz
  have short : ¬ (!its.toArray.isEmpty && Builtin.List.listTooLong (its.toArray.size + ts.toArray.size)) = true := fun t => by
    rw [notLongL few, Bool.and_false] at t
    cases t
  refine call_meets F.slot_list_extend ⟨_, e, rfl⟩ F.entry_list_extend (F.args_list_extend_2 _ _) (PySem.dl_ext_tup l its.toArray n b ts.toArray n2 od osl short (by rw [List.size_toArray, ← hl]; exact z) (by omega)) ⟨e, e2, ?_⟩
  exact ⟨.non, _, I.lset (its' := its ++ ts) hH e (by simp) (r.append r2) (by rw [List.length_append]; exact hz), rfl, q⟩
def rExtR (K : PySem.W.Frag) : V → List V → Hp → VK → Prop := fun x xs H Q => rExtend x xs H Q ∨ rExtT K x xs H Q
theorem mt_extR {X : Cx} : MtM X "list.extend" (rExtR X.K) := fun pins s σ H x xs v us Q I rx rv h => h.elim (fun z => mt_extend pins s σ H x xs v us Q I rx rv z) fun z => mt_extT pins s σ H x xs v us Q I rx rv z
section
variable {K : PySem.W.Frag} [LT K] {p : Option Addr} {S S0 : Wd} {B : Hp} {σ : L2.St} {te : TE} {d : D} {ds es : List D} {m M n : Nat} {l : En} {i : Nat} {G : Ends}
/-- x.extend(a row) -/
theorem s_extR (h : Sta K p S0 B m M n σ S l) (hg : get l i = some (.own ds)) (he : EvD K p te σ S d) (hd : rowD d = some es) (hz : ds.length + es.length ≤ sizeLine) (k : ∀ S', Sta K p S0 B m M n σ S' (put i (.own (ds ++ es)) l) → G.nx σ S'.H) :
    tDrop (tBM K "list" (rExtR K) (tVar i) (tCons te tNil)) G σ S.H := by
  obtain ⟨v, e, a, vs, rfl, h1, h2, h3, h4⟩ := h.has _ (get_mem hg)
  refine ⟨_, e, .inl ⟨rfl, vs, .of h1⟩, he S (Gr.refl h.ok) _ fun y S2 g2 t2 ry => ?_⟩
  have H2 := h.grow0 g2 t2
  have e1 := g2.hh _ _ h1 (ok_ne h.ok0 h4)
  cases d <;> simp only [rowD, Option.some.injEq, reduceCtorEq] at hd
  · subst hd
    cases ry with
    | lst hF rx =>
    rename_i b xs
    refine .inl ⟨a, b, vs, xs, rfl, rfl, e1, g2.ok.sub _ _ hF, by rw [h2.length, rx.length]; exact hz, ?_⟩
    exact k ⟨S2.F, upd S2.H a (.lst (vs ++ xs)), S2.T⟩ (H2.chg hg e e1 ((h2.mono g2.ff).append rx))
  · subst hd
    cases ry with
    | tup hF rx =>
    rename_i b xs
    refine .inr ⟨a, b, vs, xs, rfl, rfl, e1, Evl.ex_t g2.ok.sub hF, by rw [h2.length, rx.length]; exact hz, ?_⟩
    exact k ⟨S2.F, upd S2.H a (.lst (vs ++ xs)), S2.T⟩ (H2.chg hg e e1 ((h2.mono g2.ff).append rx))
end
end DL
namespace DL
open PySem L2
theorem op_ninKd {X : Cx} {d : Addr} (D : ∃ es n, KDict X.K X.w d es n) : OpR X (compareOp .NotIn) (rNinKd X.K d) := by
  obtain ⟨es, n, D⟩ := D
  exact op_notIn_kd D
end DL
namespace DL
open PySem L2
/-- the name of a lambda of a def -/
abbrev lamQ (qual : Str) : Str := (PyProof.Rows.envOfC qual { kind := .function, names := [], isGenerator := false, isCoroutine := false, more := [] } 0 0 .none).qual ++ "<lambda>"
end DL
namespace DL
open PySem L2 PyProof.Rows
instance lt_nox {X : Cx} [h : LT X.K] : LT X.nox.K := h
instance lt_tr {X : Cx} {pn : List (Addr × Obj)} {xe : Value → Shared → Prop} [h : LT X.K] : LT (X.tr pn xe).K := h
instance lt_suite {X : Cx} {a : Addr} {pn : List (Addr × Obj)} [h : LT X.K] : LT (X.suite a pn).K := h
instance lt_cx {CX : CXT} {P : Program} {w : World} {K : PySem.W.Frag} {mg : Str → Option Value} {base : Heap} {N : List Str} {q : Str} {sc : Scope} {f : Addr} {cdv : Value} {A : Around} {outer : List Env} {s : Shared} {H : Hp} {E : XK} [h : LT K] : LT (cxOf CX P w K mg base N q sc f cdv A outer s H E).K := h
end DL
namespace DL
open PySem PySem.Spec PyProof.Rows L2
/-- the same, the tables told by the names of the defs that make lambdas -/
def LawAtN (l : PySem.W.OpenLaw) (q : Program) (w : World) (K : PySem.W.Frag) (CX : CXT) (k n : Nat) (x : Str) (mg : Str → Option Value) (fa : Addr) : Prop :=
  ∃ (fd : FuncData) (cs : List (Str × Addr × Addr)) (sp : Sp), (∀ t ∈ cs, (∃ d, (recsOf q).find? (fun e => e.name == t.1) = some d) ∧ PySem.W.tabIn K t.1 = some t.2 ∧ K.lookup t.2.2 = none) ∧ (∀ (s : Shared) (u : Value), BindsTo s fd ⟨[u], []⟩ [(x, u)]) ∧
    (∀ (H : Hp) (a : Addr) (ns : List Int), ns.length ≤ n → (∀ t ∈ cs, H t.2.2 = some (.tbl #[])) → (∀ b ps, H b = some (.tbl ps) → ∃ t ∈ cs, b = t.2.2) → SqL K H a (ns.map V.int) → sp [.ref a] H (fun v _ => v = .bl true) fun _ _ _ => False) ∧
    ∀ base : Heap, K.In base → base.Ns mainGlobals mg → (∀ t ∈ cs, LamX.TabB base mg t.2.1 t.2.2) → GnOk l.prog w K mg base CX k fa fd [x] sp
theorem walk_ofGN {l : PySem.W.OpenLaw} {n k : Nat} {q : Program} {loose : List Str} {XP : (Str → Option Value) → Heap → Prop} {YP : World → Heap → Prop} {d : DefRec} {K : Params → PySem.W.Frag} {x : Str}
    (hn : l.most = some n) (hn2 : n ≤ sizeLine) (hdf : d.params.defaults = []) (hr : Room k callerA) (hY : ∀ (w : World) (h : Heap), YP w h → (K w.params).In h)
    (F : ∀ (w : World) (mg : Str → Option Value) (fa : Addr) (h : Heap), (K w.params).In h → h.Ns mainGlobals mg → mg d.name = some (.ref fa) → LawAtN l q w (K w.params) CX0 k n x mg fa) :
    PySem.W.WalkO q loose XP YP l.row.toRowW d [] (fun f vs => PySem.call f vs) := by
  refine Att.attach_call hn hdf fun w s₀ s₁ mg mb fa o pm cd doc a vs ns G Y ho hd hcd hmg hobj hints hlen hg => ?_
  have KX := hY w _ Y
  obtain ⟨fd, cs, sp, hC, hb, hsp, hF⟩ := F w mg fa _ KX G.T.g hmg
  have at_ : ∀ p ∈ cs.map (·.2), PySem.W.CodeHd s₁.heap p.1 p.2 ∧ s₁.heap.get? p.2 = some tblO ∧ (K w.params).lookup p.2 = none := fun p hp => by
    obtain ⟨t, ht, rfl⟩ := List.mem_map.mp hp
    obtain ⟨⟨d', h1⟩, h2, h3⟩ := hC t ht
    obtain ⟨q1, q2⟩ := PySem.W.tab_of G.T KX h1 h2
    exact ⟨q1, q2, h3⟩
  exact callGT (cs := cs.map (·.2)) KX G.T.g G.T.b G.T.builtins G.T.nolimit hg (fun p hp => (at_ p hp).2.1) (fun p hp => (at_ p hp).2.2) (fun p hp => (at_ p hp).1) G.T.bmain hobj hints (Nat.le_trans hlen hn2) hr
    (fun base h1 h2 h3 => hF base h1 h2 fun t ht => h3 t.2 (List.mem_map_of_mem ht)) hb
    (fun H h1 h2 hS => hsp H a ns hlen (fun t ht => h1 t.2 (List.mem_map_of_mem ht)) (fun b ps e => by
      have m := h2 b ps e
      rw [List.map_map] at m
      obtain ⟨t, ht, rfl⟩ := List.mem_map.mp m
      exact ⟨t, ht, rfl⟩) hS) fun H e s' h => h
/-! ## the facts of the end -/
theorem kdct_of {K : PySem.W.Frag} {w : World} {a b : Addr} {x : Str} (D : ∃ es n, KDict K w a es n) (h : PySem.W.nsIn K a x = some (some (.ref b))) : KDct K w a x (.ref b) := by
  obtain ⟨es, n, D⟩ := D
  exact ⟨es, n, .ref b, D.at_, D.lit, h, rfl⟩
theorem KTupI.of {K : PySem.W.Frag} {a : Addr} {o : Obj} {is : List Int} (l : K.lookup a = some o) (h : tupInt o is = true) : KTupI K a is := by
  unfold tupInt at h
  split at h
  · rename_i its n sl
    simp only [Bool.and_eq_true, decide_eq_true_eq] at h
    exact ⟨_, its, n, l, rfl, rfl, Nat.le_trans h.1 (by rw [sizeLine_eq]; decide), intsB_vals _ _ h.2⟩
  · cases h
theorem tabIn_mk {K : PySem.W.Frag} {x : Str} {f c P : Addr} {oc : Value} {od : Option Addr} {fd : FuncData} {osl : Array (Option Value)} {cl : Value} {cd : Option Addr} {vs : Array Value} {cs : Array (Option Value)} (h1 : PySem.W.nsIn K mainGlobals x = some (some (.ref f))) (h2 : K.lookup f = some ⟨oc, od, .func fd, osl⟩)
    (h3 : K.lookup c = some ⟨cl, cd, .fields vs, cs⟩) (h4 : vs[11]? = some (.ref P)) (h5 : fd.code = .ref c := by rfl) : PySem.W.tabIn K x = some (c, P) := by
  unfold PySem.W.tabIn
  rw [h1]
  simp only [h2, h5, h3, h4]
end DL
namespace DL
open PySem L2
open Evl (Ex)
/-! ## what k34 wanted and other laws will want -/
theorem Sta.rebase {K : PySem.W.Frag} [LT K] {p : Option Addr} {S0 S : Wd} {B : Hp} {m M n M' : Nat} {σ : L2.St} {l : En} (h : Sta K p S0 B m M n σ S l) (hl : l.all (fun q => !q.2.ow) = true) (hT : S.T + M' ≤ 1000000000) : Sta K p S B m M' 0 σ S l := by
  have no : ∀ q ∈ l, q.2.ow = false := fun q hq => by
    have := List.all_eq_true.mp hl q hq
    simpa using this
  refine ⟨h.ok, Gr.refl h.ok, h.bs, h.len, hT, Nat.le_refl _, fun q hq => ?_, fun a ha b hb _ oa => ?_⟩
  · obtain ⟨v, e, r⟩ := h.has q hq
    refine ⟨v, e, ?_⟩
    have nq := no q hq
    cases q with
    | mk i t => cases t <;> first | exact r | cases nq
  · rw [no a ha] at oa
    cases oa
def fstD : D → D
  | .tup (a :: _) => a
  | _ => .non
def sndD : D → D
  | .tup (_ :: b :: _) => b
  | _ => .non
def truD : D → Bool
  | .bl b => b
  | _ => false
section
variable {K : PySem.W.Frag} [LT K] {p : Option Addr} {S S0 : Wd} {B : Hp} {σ : L2.St} {te ta tb : TE} {m M n k : Nat} {l : En} {i : Nat} {G : Ends}
theorem s_ifE {tu tw : TS} {b : Bool} (h : Sta K p S0 B m M n σ S l) (he : EvN K p te σ S k (fun d => d = .bl b)) (hn : n + k ≤ M) (k1 : b = true → ∀ S', Sta K p S0 B m M (n + k) σ S' l → tu G σ S'.H) (k2 : b = false → ∀ S', Sta K p S0 B m M (n + k) σ S' l → tw G σ S'.H) : tIfS (tTest te) tu tw G σ S.H :=
  he S (Gr.refl h.ok) (by have := h.tb; have := h.tn; omega) _ fun v d S2 g2 t2 r e => by
    subst e
    cases r
    refine ⟨b, rfl, ?_⟩
    cases b with
    | true =>
      show (if true = true then _ else _)
      rw [if_pos rfl]
      exact k1 rfl S2 (h.grow g2 t2)
    | false =>
      show (if false = true then _ else _)
      rw [if_neg Bool.false_ne_true]
      exact k2 rfl S2 (h.grow g2 t2)
theorem s_forN {α : Type} {wi : TI} {tb : TS} {w : Nat} {PS : List DL.D → Prop} (I : Nat → α → Prop) (e : α → En) (a0 : α) (h : Sta K p S0 B m M n σ S l) (hq : EvSN K p wi σ S k PS) (hn : n + k ≤ M) (hi : i < m) (h0 : I 0 a0) (hs : sub (e a0) l)
    (hb : ∀ (ds : List DL.D), PS ds → ∀ (B' : Hp) (c : Nat) (a : α) (d : DL.D) σ S, ds[c]? = some d → I c a → Sta K p S0 B' m M (n + k + c * w) σ S (put i (.dat d) (e a)) → ∀ D' : Ends, D'.rt = G.rt → (∀ a' σ' S' l', I (c + 1) a' → Sta K p S0 B' m M (n + k + (c + 1) * w) σ' S' l' → sub (e a') l' → D'.nx σ' S'.H) → tb D' σ S.H)
    (hd : ∀ (ds : List DL.D), PS ds → ∀ a σ S, I ds.length a → Sta K p S0 B m M (n + k + ds.length * w) σ S (e a) → G.nx σ S.H) : tFor wi (gName i) tb G σ S.H := by
  refine hq S (Gr.refl h.ok) (by have := h.tb; have := h.tn; omega) _ fun J ds S2 g2 t2 hds src => ?_
  have h2 := h.grow g2 t2
  exact s_for (wi := fun _ H R => R J H) I e a0 h2 (fun S1 g1 R q => q J S1 (Gr.refl g1.ok) (Nat.le_refl _) fun S' e' o c => src S' (g1.ff.trans e') o c) hi h0 hs (fun B' c a d σ S hc ia st D' hrt nx _ _ => hb ds hds B' c a d σ S hc ia st D' hrt nx) (hd ds hds)
end
theorem rd_neSame {K : PySem.W.Frag} [LT K] {p : Option Addr} {d : D} (h : d.sh = true) : RD K p (rNeU K) d d (.bl false) := by
  have q := rd_neU (K := K) (p := p) h h
  have e : eqD d d = true := PySem.SeqAt.eqv_refl _ (PySem.SeqAt.canLay_of_shaped (D.sh_sh h))
  rw [e] at q
  exact q
theorem pls_ints : ∀ ss : List Int, D.pls (ss.map D.int) = true
  | [] => by simp [D.pls]
  | s :: ss => by simp [D.pls, D.pl, pls_ints ss]
theorem pys_ints : ∀ ss : List Int, D.pys (ss.map D.int) = ss.map PyData.int
  | [] => by simp [D.pys]
  | s :: ss => by simp [D.pys, D.py, pys_ints ss]
theorem canLay_ints : ∀ ss : List Int, PyData.canLayAll0 (ss.map PyData.int) = true
  | [] => by simp [PyData.canLayAll0]
  | s :: ss => by simp [PyData.canLayAll0, PyData.canLay0, canLay_ints ss]
theorem depth_ints : ∀ ss : List Int, PyData.depthAll (ss.map PyData.int) = 0
  | [] => by simp [PyData.depthAll]
  | s :: ss => by simp [PyData.depthAll, PyData.depth, depth_ints ss]
theorem uniq_le (L : List Int) : (uniq L).length ≤ L.length := uniq_short L
theorem len_sub : ∀ {xs ys : List Int}, xs.Nodup → (∀ k ∈ xs, k ∈ ys) → xs.length ≤ ys.length
  | [], _, _, _ => Nat.zero_le _
  | x :: xs, ys, nd, h => by
    obtain ⟨h1, h2⟩ := List.nodup_cons.mp nd
    have hx := h x List.mem_cons_self
    have := len_sub (xs := xs) (ys := ys.erase x) h2 fun k hk => (List.mem_erase_of_ne (fun e => h1 (by rw [← e]; exact hk))).mpr (h k (List.mem_cons_of_mem _ hk))
    rw [List.length_erase_of_mem hx] at this
    have : 0 < ys.length := List.length_pos_of_mem hx
    rw [List.length_cons]
    omega
theorem row_items {d : D} {es : List D} (h : rowD d = some es) : itemsD d = some es := by
  cases d <;> simp only [rowD, Option.some.injEq, reduceCtorEq] at h <;> subst h <;> rfl
theorem rd_neI {K : PySem.W.Frag} [LT K] {p : Option Addr} {a b : Int} : RD K p (rNeU K) (.int a) (.int b) (.bl (!decide (a = b))) := RD.inl (rd_of (fun _ => .bl _) fun S1 x y o rx ry Q q => by
  cases rx; cases ry
  have e : decide (V.int a = V.int b) = decide (a = b) := by
    by_cases h : a = b
    · subst h; simp
    · rw [decide_eq_false h, decide_eq_false (fun z => h (V.int.inj z))]
  exact ⟨rfl, by rw [e]; exact q⟩)
theorem rowQ {K : PySem.W.Frag} [LT K] {p : Option Addr} {te : TE} {σ : L2.St} {S : Wd} {d : D} {es : List D} (h : EvD K p te σ S d) (hd : rowD d = some es) : ∃ b, EvQ K p te σ S b es := by
  cases d <;> simp only [rowD, Option.some.injEq, reduceCtorEq] at hd <;> subst hd
  · exact ⟨true, h.ql⟩
  · exact ⟨false, h.qt⟩
theorem ed_at {K : PySem.W.Frag} [LT K] {p : Option Addr} {ta tb : TE} {σ : L2.St} {S : Wd} {d e : D} {es : List D} {z : Int} (h : EvD K p ta σ S d) (hd : rowD d = some es) (hz : EvD K p tb σ S (.int z)) (he : atI es z = some e) : EvD K p (tOp (rIx K) ta tb) σ S e := by
  obtain ⟨b, q⟩ := rowQ h hd
  exact ed_ix q hz he
theorem ed_lenR {K : PySem.W.Frag} [LT K] {p : Option Addr} {ta : TE} {σ : L2.St} {S : Wd} {d : D} {es : List D} (h : EvD K p ta σ S d) (hd : rowD d = some es) (hz : es.length ≤ 16777216) : EvD K p (tCB (rLenA K) (tCons ta tNil)) σ S (.int (es.length : Int)) :=
  ed_cb (eh_cons h.h eh_nil) (items_len (row_items hd) (by rw [sizeLine_eq]; exact hz))
theorem at0 {x : D} {r : List D} : atI (x :: r) 0 = some x := by
  unfold atI ixN
  rw [if_pos (by decide), if_pos (by simp only [List.length_cons]; omega)]
  rfl
theorem at_last {es : List D} {l : D} (h : es.getLast? = some l) : atI es (-1) = some l := by
  cases es with
  | nil => cases h
  | cons x r =>
    unfold atI ixN
    rw [if_neg (by decide), if_pos (by simp only [List.length_cons]; omega)]
    simp only [Option.bind]
    rw [List.getLast?_eq_getElem?] at h
    rw [← h]
    congr 1
    simp only [List.length_cons]
    omega
theorem cut_pre {α : Type} (xs : List α) (k : Nat) (hk : k ≤ xs.length) : cutL xs none (some (k : Int)) = xs.take k := by
  unfold cutL
  have e : HT.sIx xs.length 0 none = 0 := rfl
  rw [e, HT.sIx_nat, show min k xs.length = k by omega]
  rfl
theorem cut_post {α : Type} (xs : List α) (k : Nat) (hk : k ≤ xs.length) : cutL xs (some (k : Int)) none = xs.drop k := by
  unfold cutL
  have e : HT.sIx xs.length xs.length none = xs.length := rfl
  rw [e, HT.sIx_nat, show min k xs.length = k by omega]
  rw [List.take_of_length_le (by rw [List.length_drop]; omega)]
theorem split3 {es : List D} {c : Nat} {x : D} (h : es[c]? = some x) : es = es.take c ++ x :: es.drop (c + 1) := by
  obtain ⟨hc, he⟩ := List.getElem?_eq_some_iff.mp h
  rw [← he, ← List.drop_eq_getElem_cons hc, List.take_append_drop]
theorem set3 {es : List D} {c : Nat} {x y : D} (h : es[c]? = some x) : es.set c y = es.take c ++ y :: es.drop (c + 1) := by
  obtain ⟨hc, _⟩ := List.getElem?_eq_some_iff.mp h
  rw [List.set_eq_take_append_cons_drop, if_pos hc]
theorem inD_str (s : Str) (ss : List Str) : inD (.str s) (ss.map D.str) = ss.contains s := by
  unfold inD
  rw [List.any_map, List.contains_eq_any_beq]
  congr 1
  funext z
  show (z == s) = (s == z)
  exact Bool.eq_iff_iff.mpr (by rw [beq_iff_eq, beq_iff_eq]; exact eq_comm)
theorem flat_str (ss : List Str) : (ss.map D.str).all flatD = true := by
  rw [List.all_map]
  exact List.all_eq_true.mpr fun _ _ => rfl
theorem addU_nd {zs : List Int} {i : Int} (h : zs.Nodup) : (addU zs i).Nodup := by
  unfold addU
  split
  · exact h
  · rename_i hn
    refine List.nodup_append.mpr ⟨h, by simp, fun a ha b hb e => ?_⟩
    rw [List.mem_singleton.mp hb] at e
    exact hn (List.any_eq_true.mpr ⟨a, ha, decide_eq_true e⟩)
theorem addU_len2 (zs : List Int) (i : Int) : (addU zs i).length ≤ zs.length + 1 := by
  unfold addU
  split <;> simp
theorem addU_inl : ∀ (zs : List Int) (i : Int), addU (zs.map Sum.inl : List Key) (Sum.inl i) = (addU zs i).map Sum.inl := fun zs i => by
  unfold addU
  have e : ((zs.map Sum.inl : List Key).any fun z => decide (z = Sum.inl i)) = zs.any fun z => decide (z = i) := by
    rw [List.any_map]
    congr 1
    funext z
    simp
  rw [e]
  split
  · rfl
  · rw [List.map_append]
    rfl
end DL
/-! ## papers.fixed: a loop over a line of (row, its parts so far); the parts are lists that still change -/
namespace DL
open PySem L2
open Evl (Ex)
/-! ### plainly -/
mutual
/-- tuples for lists, all the way in -/
def fixD : D → D
  | .lst xs => .tup (fixDs xs)
  | .tup xs => .tup (fixDs xs)
  | .non => .non
  | .bl b => .bl b
  | .int i => .int i
  | .str s => .str s
  | .dic kvs => .dic kvs
  | .ins C fs => .ins C fs
  | .val v => .val v
def fixDs : List D → List D
  | [] => []
  | x :: xs => fixD x :: fixDs xs
end
mutual
/-- all that is come to is of a known kind -/
def fine : D → Bool
  | .lst xs => fines xs
  | .tup xs => fines xs
  | .val _ => false
  | .non => true
  | .bl _ => true
  | .int _ => true
  | .str _ => true
  | .dic _ => true
  | .ins _ _ => false
def fines : List D → Bool
  | [] => true
  | x :: xs => fine x && fines xs
end
mutual
def turns : D → Nat
  | .lst xs => turnsR xs
  | .tup xs => turnsR xs
  | _ => 1
def turnsR : List D → Nat
  | [] => 1
  | x :: xs => 1 + turns x + turnsR xs
end
theorem fixDs_map : ∀ xs : List D, fixDs xs = xs.map fixD
  | [] => rfl
  | x :: xs => by rw [fixDs, fixDs_map xs]; rfl
theorem fixD_row {d : D} {es : List D} (h : rowD d = some es) : fixD d = .tup (es.map fixD) := by
  cases d <;> simp only [rowD, Option.some.injEq, reduceCtorEq] at h <;> subst h <;> simp only [fixD, fixDs_map]
theorem fine_row {d : D} {es : List D} (h : rowD d = some es) (f : fine d = true) : fines es = true := by
  cases d <;> simp only [rowD, Option.some.injEq, reduceCtorEq] at h <;> subst h <;> simpa only [fine] using f
theorem fine_mem : ∀ {es : List D}, fines es = true → ∀ e ∈ es, fine e = true
  | [], _, e, h => by cases h
  | x :: xs, f, e, h => by
    rw [fines, Bool.and_eq_true] at f
    rcases List.mem_cons.mp h with rfl | h
    · exact f.1
    · exact fine_mem f.2 e h
theorem fixD_leaf {d : D} (h : rowD d = none) : fixD d = d := by
  cases d <;> first | rfl | cases h
theorem turns_row {d : D} {es : List D} (h : rowD d = some es) : turns d = turnsR es := by
  cases d <;> simp only [rowD, Option.some.injEq, reduceCtorEq] at h <;> subst h <;> simp only [turns]
/-! ### the line -/
/-- a row on the line: none: not begun; (p, ds): its parts so far, in the list at p -/
structure Fra where
  d : D
  p : Option (Addr × List D)
def Fra.pv : Fra → D
  | ⟨_, none⟩ => .non
  | ⟨_, some (p, _)⟩ => .val (.ref p)
def Fra.ad : Fra → List Addr
  | ⟨_, none⟩ => []
  | ⟨_, some (p, _)⟩ => [p]
section
variable {K : PySem.W.Frag} [LT K] {S S0 S1 S2 : Wd} {σ : L2.St} {te ta tb : TE} {d e : D} {ds es : List D} {v : V} {i : Nat} {G : Ends} {a q : Addr}
/-- an own list outside the slots -/
def Part (K : PySem.W.Frag) [LT K] (S0 S : Wd) (q : Addr) (ds : List D) : Prop := ∃ ws, S.H q = some (.lst ws) ∧ Rps K S.F ws ds ∧ S.F q = none ∧ S0.H q = none
theorem Part.grow (h : Part K S0 S q ds) (g : Gr K none S S1) : Part K S0 S1 q ds := by
  obtain ⟨ws, h1, h2, h3, h4⟩ := h
  exact ⟨ws, g.hh q _ h1 (by simp), h2.mono g.ff, (g.old q (by rw [h1]; simp)).trans h3, h4⟩
theorem Part.put {ws : List V} (h : Part K S0 S q ds) (n : q ≠ a) : Part K S0 ⟨S.F, upd S.H a (.lst ws), S.T⟩ q ds := by
  obtain ⟨us, h1, h2, h3, h4⟩ := h
  exact ⟨us, by rw [← h1]; exact upd_ne n, h2, h3, h4⟩
/-- the line at a holds these rows; nothing else knows its lists -/
structure FS (K : PySem.W.Frag) [LT K] (S0 S : Wd) (σ : L2.St) (a : Addr) (fs : List Fra) : Prop where
  g : Gr K none S0 S
  t : S.T ≤ S0.T
  len : σ.length = 5
  slot : σ[2]? = some (some (.ref a))
  line : Part K S0 S a (fs.map fun f => .tup [f.d, f.pv])
  parts : ∀ f ∈ fs, ∀ q ds, f.p = some (q, ds) → Part K S0 S q ds
  nd : (a :: fs.flatMap Fra.ad).Nodup
theorem FS.ok {fs : List Fra} (h : FS K S0 S σ a fs) : Ok K none S := h.g.ok
theorem FS.grow {fs : List Fra} (h : FS K S0 S σ a fs) (g : Gr K none S S1) (t : S1.T ≤ S.T) : FS K S0 S1 σ a fs :=
  ⟨h.g.trans g, Nat.le_trans t h.t, h.len, h.slot, h.line.grow g, fun f hf q ds e => (h.parts f hf q ds e).grow g, h.nd⟩
theorem FS.set {fs : List Fra} (h : FS K S0 S σ a fs) (hi : i ≠ 2) : FS K S0 S (σ.set i (some v)) a fs :=
  ⟨h.g, h.t, by rw [List.length_set]; exact h.len, by rw [List.getElem?_set_ne hi]; exact h.slot, h.line, h.parts, h.nd⟩
theorem ad_mem {f : Fra} {ds : List D} (e : f.p = some (q, ds)) : q ∈ f.ad := by
  obtain ⟨d, p⟩ := f
  cases e
  exact List.mem_singleton.mpr rfl
theorem FS.off {fs : List Fra} (h : FS K S0 S σ a fs) {f : Fra} (hf : f ∈ fs) {ds : List D} (e : f.p = some (q, ds)) : q ≠ a := fun z => by
  have := (List.nodup_cons.mp h.nd).1
  exact this (List.mem_flatMap.mpr ⟨f, hf, z ▸ ad_mem e⟩)
/-- the line is written -/
theorem FS.lay {fs fs' : List Fra} {ws : List V} (h : FS K S0 S σ a fs) (ok0 : Ok K none S0) (r : Rps K S.F ws (fs'.map fun f => .tup [f.d, f.pv])) (ps : ∀ f ∈ fs', ∀ q ds, f.p = some (q, ds) → Part K S0 S q ds) (nd : (a :: fs'.flatMap Fra.ad).Nodup) :
    FS K S0 ⟨S.F, upd S.H a (.lst ws), S.T⟩ σ a fs' := by
  obtain ⟨us, h1, h2, h3, h4⟩ := h.line
  refine ⟨Gr.chg ok0 h.g h4 h3 h1 (fun ps z => by cases z) (fun c q z => code_ne_lst c q z) (nt := fun ps z => by cases z), h.t, h.len, h.slot, ⟨ws, upd_same, r, h3, h4⟩, fun f hf q ds e => (ps f hf q ds e).put fun z => ?_, nd⟩
  exact (List.nodup_cons.mp nd).1 (List.mem_flatMap.mpr ⟨f, hf, z ▸ ad_mem e⟩)
/-- a list that is not the line's is written -/
theorem FS.other {fs : List Fra} {ws : List V} (h : FS K S0 S σ a fs) (ok0 : Ok K none S0) (hq : Part K S0 S q ds) (n : q ∉ a :: fs.flatMap Fra.ad) : FS K S0 ⟨S.F, upd S.H q (.lst ws), S.T⟩ σ a fs := by
  obtain ⟨us, h1, h2, h3, h4⟩ := hq
  refine ⟨Gr.chg ok0 h.g h4 h3 h1 (fun ps z => by cases z) (fun c q z => code_ne_lst c q z) (nt := fun ps z => by cases z), h.t, h.len, h.slot, h.line.put fun z => n (z ▸ List.mem_cons_self), fun f hf q' ds' e => (h.parts f hf q' ds' e).put fun z => ?_, h.nd⟩
  exact n (List.mem_cons_of_mem _ (List.mem_flatMap.mpr ⟨f, hf, z ▸ ad_mem e⟩))
/-! ### steps -/
theorem r_asg (ok : Ok K none S) (he : EvD K none te σ S d) (k : ∀ v S1, Gr K none S S1 → S1.T ≤ S.T → Rp K S1.F v d → G.nx (σ.set i (some v)) S1.H) : tAsg te (gName i) G σ S.H :=
  he S (Gr.refl ok) _ k
theorem r_if {tt : TT} {tu tw : TS} {b : Bool} (ok : Ok K none S) (he : EvT K none tt σ S b) (k1 : b = true → ∀ S1, Gr K none S S1 → S1.T ≤ S.T → tu G σ S1.H) (k2 : b = false → ∀ S1, Gr K none S S1 → S1.T ≤ S.T → tw G σ S1.H) : tIfS tt tu tw G σ S.H :=
  he S (Gr.refl ok) _ fun S1 g t => by
    cases b with
    | true => rw [if_pos rfl]; exact k1 rfl S1 g t
    | false => rw [if_neg Bool.false_ne_true]; exact k2 rfl S1 g t
theorem eq_part (h : Part K S0 S q ds) (hs : σ[i]? = some (some (.ref q))) : EvQ K none (tVar i) σ S true ds := fun S1 g Q k => by
  obtain ⟨ws, h1, h2, _, _⟩ := h.grow g
  exact ⟨.ref q, hs, k q ws S1 (Gr.refl g.ok) (Nat.le_refl _) (by rw [if_pos rfl]; exact ⟨h1, by simp⟩) h2⟩
theorem et_line {fs : List Fra} (h : FS K S0 S σ a fs) : EvT K none (tTest (tOp (rNeU K) (tVar 2) (tLst tNil))) σ S (!fs.isEmpty) :=
  EvT.is (et_test (ed_op (EvQ.hl (eq_part h.line h.slot)) (EvO.h (eo_lst ea_nil)) rd_neNil)) (by cases fs <;> rfl)
theorem et_end {fs : List Fra} (h : FS K S0 S σ a fs) : EvT K none (tTest (tOp (rEqU K) (tVar 2) (tLst tNil))) σ S fs.isEmpty :=
  EvT.is (et_test (ed_op (EvQ.hl (eq_part h.line h.slot)) (EvO.h (eo_lst ea_nil)) rd_eqNil)) (by cases fs <;> rfl)
/-- line.append((..)): a row more -/
theorem r_push {fs : List Fra} {f : Fra} (h : FS K S0 S σ a fs) (ok0 : Ok K none S0) (few : fs.length < sizeLine)
    (he : ∀ Q : VK, (∀ v S1, Gr K none S S1 → S1.T ≤ S.T → Rp K S1.F v (.tup [f.d, f.pv]) → (∀ q ds, f.p = some (q, ds) → Part K S0 S1 q ds) → Q v S1.H) → te σ S.H Q) (nd : (a :: (fs ++ [f]).flatMap Fra.ad).Nodup)
    (k : ∀ S1, FS K S0 S1 σ a (fs ++ [f]) → Ex S.F S1.F → G.nx σ S1.H) : tDrop (tBM K "list" rAppend (tVar 2) (tCons te tNil)) G σ S.H := by
  obtain ⟨us, h1, h2, _, _⟩ := h.line
  refine ⟨.ref a, h.slot, .inl ⟨rfl, us, .of h1⟩, he _ fun v S1 g t r ps => ?_⟩
  have h' := h.grow g t
  obtain ⟨ws, w1, w2, _, _⟩ := h'.line
  have len : ws.length = fs.length := by rw [w2.length, List.length_map]
  refine ⟨a, ws, v, rfl, rfl, w1, by omega, ?_⟩
  refine k ⟨S1.F, upd S1.H a (.lst (ws ++ [v])), S1.T⟩ (h'.lay ok0 (by rw [List.map_append]; exact w2.snoc r) (fun f' hf q ds e => ?_) nd) g.ff
  rcases List.mem_append.mp hf with z | z
  · exact h'.parts f' z q ds e
  · rw [List.mem_singleton.mp z] at e
    exact ps q ds e
/-- one, parts = line.pop() -/
theorem r_take {fs : List Fra} {f : Fra} (h : FS K S0 S σ a (fs ++ [f])) (ok0 : Ok K none S0)
    (k : ∀ (x y : V) S1, FS K S0 S1 ((σ.set 3 (some x)).set 4 (some y)) a fs → S1.F = S.F → Rp K S1.F x f.d → Rp K S1.F y f.pv → (∀ q ds, f.p = some (q, ds) → Part K S0 S1 q ds ∧ q ∉ a :: fs.flatMap Fra.ad) → G.nx ((σ.set 3 (some x)).set 4 (some y)) S1.H) :
    tAsg (tBM0 K "list" rPop (tVar 2)) (gTup K 2 (gCons (gName 3) (gCons (gName 4) gNil))) G σ S.H := by
  obtain ⟨us, h1, h2, _, _⟩ := h.line
  have nd2 : (a :: fs.flatMap Fra.ad).Nodup := by
    have := h.nd
    rw [List.flatMap_append] at this
    exact this.sublist (List.cons_sublist_cons.mpr (List.sublist_append_left _ _))
  rw [List.map_append, List.map_singleton] at h2
  obtain ⟨ws, z, rfl, w1, w2⟩ : ∃ ws z, us = ws ++ [z] ∧ Rps K S.F ws (fs.map fun f => .tup [f.d, f.pv]) ∧ Rp K S.F z (.tup [f.d, f.pv]) := by
    have lens := h2.length
    rw [List.length_append, List.length_singleton, List.length_map] at lens
    rcases List.eq_nil_or_concat us with e | ⟨ws, z, e⟩
    · rw [e] at lens; cases lens
    · rw [List.concat_eq_append] at e
      subst e
      rw [List.length_append, List.length_singleton] at lens
      have r1 := h2.take ws.length
      have r2 := h2.drop ws.length
      have l1 : ws.length = (fs.map fun f => D.tup [f.d, f.pv]).length := by rw [List.length_map]; omega
      rw [List.take_left' rfl, List.take_left' l1.symm] at r1
      rw [List.drop_left' rfl, List.drop_left' l1.symm] at r2
      cases r2 with
      | cons r3 _ => exact ⟨ws, z, rfl, r1, r3⟩
  have J := h.lay (ws := ws) ok0 w1 (fun f' hf q ds e => h.parts f' (List.mem_append_left _ hf) q ds e) nd2
  refine ⟨.ref a, h.slot, .inl ⟨rfl, _, .of h1⟩, a, ws ++ [z], z, rfl, rfl, h1, by simp, ?_⟩
  rw [List.dropLast_concat]
  cases w2 with
  | @tup t xs _ hs rs =>
    cases rs with
    | cons rx rs =>
      cases rs with
      | cons ry rs =>
        cases rs
        refine ⟨t, _, rfl, Evl.ex_t J.ok.sub hs, rfl, _, _, rfl, _, _, rfl, rfl, ?_⟩
        refine k _ _ ⟨S.F, upd S.H a (.lst ws), S.T⟩ ((J.set (by decide)).set (by decide)) rfl rx ry fun q ds e => ?_
        have off : q ∉ a :: fs.flatMap Fra.ad := fun m => by
          have := h.nd
          rw [List.flatMap_append, List.flatMap_singleton, ← List.cons_append] at this
          exact (List.nodup_append.mp this).2.2 q m q (ad_mem e) rfl
        exact ⟨(h.parts f (List.mem_append_right _ (List.mem_singleton.mpr rfl)) q ds e).put fun m => off (m ▸ List.mem_cons_self), off⟩
end
end DL
/-! ## questions of a value's kind; fixed -/
namespace DL
open PySem L2
open Evl (Ex)
def h0 (ds : List D) : D := ds.headD .non
def h1 (ds : List D) : D := ds.getD 1 .non
def h2 (ds : List D) : D := ds.getD 2 .non
/-- of a known kind -/
def kn (d : D) : Prop := tyD d ≠ none
def isIntD : D → Bool
  | .int _ => true
  | _ => false
def isStrD : D → Bool
  | .str _ => true
  | _ => false
def isTupD : D → Bool
  | .tup _ => true
  | _ => false
def isRowD : D → Bool
  | .lst _ => true
  | .tup _ => true
  | _ => false
theorem kn_row {d : D} (h : kn d) : isiD2 "list" "tuple" d = some (isRowD d) := by
  rw [isi_row]
  cases d <;> first | rfl | exact absurd rfl h
theorem kn_str {d : D} (h : kn d) : isiD "str" d = some (isStrD d) := by
  rw [isi_str]
  cases d <;> first | rfl | exact absurd rfl h
theorem kn_tup {d : D} (h : kn d) : isiD "tuple" d = some (isTupD d) := by
  rw [isi_tup]
  cases d <;> first | rfl | exact absurd rfl h
mutual
def sz : D → Nat
  | .lst xs => 1 + szs xs
  | .tup xs => 1 + szs xs
  | _ => 1
def szs : List D → Nat
  | [] => 0
  | x :: xs => sz x + szs xs
end
theorem row_is {d : D} {es : List D} (h : rowD d = some es) : isRowD d = true := by
  cases d <;> first | rfl | cases h
theorem row_of {d : D} (h : isRowD d = true) : ∃ es, rowD d = some es := by
  cases d <;> first | exact ⟨_, rfl⟩ | cases h
theorem row_not {d : D} (h : isRowD d = false) : rowD d = none := by
  cases d <;> first | rfl | cases h
theorem row_sz {d : D} {es : List D} (h : rowD d = some es) : sz d = 1 + szs es := by
  cases d <;> simp only [rowD, Option.some.injEq, reduceCtorEq] at h <;> subst h <;> simp only [sz]
theorem sz_pos (d : D) : 1 ≤ sz d := by
  cases d <;> simp [sz]
theorem szs_len : ∀ es : List D, es.length ≤ szs es
  | [] => Nat.zero_le _
  | e :: es => by
    have := szs_len es
    have := sz_pos e
    simp only [szs, List.length_cons]
    omega
theorem szs_app (xs ys : List D) : szs (xs ++ ys) = szs xs + szs ys := by
  induction xs with
  | nil => simp [szs]
  | cons x xs ih => simp only [List.cons_append, szs, ih]; omega
theorem szs_mem {es : List D} {e : D} (h : e ∈ es) : sz e ≤ szs es := by
  induction es with
  | nil => cases h
  | cons x xs ih =>
    simp only [szs]
    rcases List.mem_cons.mp h with rfl | h
    · omega
    · have := ih h; omega
theorem fine_kn {d : D} (h : fine d = true) : kn d := by
  cases d <;> simp only [fine, reduceCtorEq, Bool.false_eq_true] at h <;> (unfold kn; simp [tyD])
abbrev spRow (K : PySem.W.Frag) [LT K] : Sp := spP K 1 (fun ds => kn (h0 ds)) (fun ds => .bl (isRowD (h0 ds)))
abbrev spFixed (K : PySem.W.Frag) [LT K] : Sp := spP K 1 (fun ds => fine (h0 ds) = true ∧ sz (h0 ds) ≤ 1000000) (fun ds => fixD (h0 ds))
/-! ### a loop by what its turns do -/
section
variable (c : TT) (tb : TS) (D : Ends)
/-- from here the loop comes to its end within m turns -/
def Good (m : Nat) (σ : L2.St) (H : Hp) : Prop :=
  c σ H fun b H1 => if b = true then ∃ N : L2.St → Hp → Prop, (∀ σ' H', N σ' H' → ∃ m', ∃ _ : m' < m, Good m' σ' H') ∧ tb { D with nx := N, ct := N, bk := D.nx } σ H1 else D.nx σ H1
termination_by m
theorem Good.eq (m : Nat) (σ : L2.St) (H : Hp) : Good c tb D m σ H = c σ H fun b H1 => if b = true then ∃ N : L2.St → Hp → Prop, (∀ σ' H', N σ' H' → ∃ m', m' < m ∧ Good c tb D m' σ' H') ∧ tb { D with nx := N, ct := N, bk := D.nx } σ H1 else D.nx σ H1 := by
  rw [Good]
  simp only [exists_prop]
theorem Good.loop {m : Nat} {σ : L2.St} {H : Hp} (h : Good c tb D m σ H) : tWhile c tb D σ H := ⟨Good c tb D, ⟨m, h⟩, fun m σ H w => by rwa [Good.eq] at w⟩
end
def pushA (K : PySem.W.Frag) : TS := tDrop (tBM K "list" rAppend (tVar 2) (tCons (tTup (tCons (tVar 3) (tCons (tLst tNil) tNil))) tNil))
def pushB (K : PySem.W.Frag) : TS := tDrop (tBM K "list" rAppend (tVar 2) (tCons (tTup (tCons (tOp (rIx K) (tVar 3) (tC (.int 0))) (tCons (tC .non) tNil))) tNil))
def pushC (K : PySem.W.Frag) : TS := tDrop (tBM K "list" rAppend (tVar 2) (tCons (tTup (tCons (tVar 3) (tCons (tVar 4) tNil))) tNil))
def pushD (K : PySem.W.Frag) : TS := tDrop (tBM K "list" rAppend (tVar 2) (tCons (tTup (tCons (tOp (rIx K) (tVar 3) (tCB (rLenA K) (tCons (tVar 4) tNil))) (tCons (tC .non) tNil))) tNil))
def ended (K : PySem.W.Frag) : TS := tIfS (tTest (tOp (rEqU K) (tVar 2) (tLst tNil))) (tRet (tVar 1)) tNext
def begun (K : PySem.W.Frag) : TS := tSeq (pushA K) (tSeq (tAsg (tC .non) (gName 1)) (tSeq (tIfS (tTest (tOp (rI0 fun i j => .bl (decide (j < i))) (tCB (rLenA K) (tCons (tVar 3) tNil)) (tC (.int 0)))) (tSeq (pushB K) tCont) tNext) (tSeq (tDrop (tBM0 K "list" rPop (tVar 2))) (tAsg (tTup tNil) (gName 1)))))
def goneOn (K : PySem.W.Frag) : TS := tSeq (tDrop (tBM K "list" rAppend (tVar 4) (tCons (tVar 1) tNil))) (tSeq (tIfS (tTest (tOp (rI0 fun i j => .bl (decide (i < j))) (tCB (rLenA K) (tCons (tVar 4) tNil)) (tCB (rLenA K) (tCons (tVar 3) tNil)))) (tSeq (pushC K) (tSeq (pushD K) tCont)) tNext) (tAsg (tCB (rTuple K) (tCons (tVar 4) tNil)) (gName 1)))
def turnT (K : PySem.W.Frag) [LT K] : TS := tSeq (tAsg (tBM0 K "list" rPop (tVar 2)) (gTup K 2 (gCons (gName 3) (gCons (gName 4) gNil)))) (tSeq (tIfS (tNot (tB (tCall (spRow K) [] E0 (tCons (tVar 3) tNil)))) (tAsg (tVar 3) (gName 1)) (tIfS (tTest (tOp rIsN (tVar 4) (tC .non))) (begun K) (goneOn K))) (ended K))
def fixedT (K : PySem.W.Frag) [LT K] : TS := tSeq (tPar 1 2 (tCons (tC .non) (tCons (tLst (tCons (tTup (tCons (tVar 0) (tCons (tC .non) tNil))) tNil)) tNil))) (tSeq (tWhile (tTest (tOp (rNeU K) (tVar 2) (tLst tNil))) (turnT K)) (tRet (tVar 1)))
section
variable {K : PySem.W.Frag} [LT K] {S0 S S1 : Wd} {σ : L2.St} {a q : Addr} {G : Ends} {d e : D} {ds es : List D} {fs : List Fra} {m k : Nat}
/-- the loop's own test -/
abbrev lineT (K : PySem.W.Frag) : TT := tTest (tOp (rNeU K) (tVar 2) (tLst tNil))
abbrev GoodF (K : PySem.W.Frag) [LT K] (G : Ends) : Nat → L2.St → Hp → Prop := Good (lineT K) (turnT K) G
/-- a value is done, rows wait for it -/
def BSt (K : PySem.W.Frag) [LT K] (S0 : Wd) (a : Addr) (fs : List Fra) (e : D) (σ : L2.St) (H : Hp) : Prop := ∃ S v, S.H = H ∧ FS K S0 S σ a fs ∧ σ[1]? = some (some v) ∧ Rp K S.F v e
/-- what is behind a value that is done -/
structure Kont (K : PySem.W.Frag) [LT K] (S0 : Wd) (a : Addr) (G : Ends) (fs : List Fra) (e : D) (k : Nat) : Prop where
  last : fs = [] → ∀ v S, Gr K none S0 S → S.T ≤ S0.T → Rp K S.F v e → G.rt v S.H
  more : fs ≠ [] → ∀ σ H, BSt K S0 a fs e σ H → GoodF K G k σ H
abbrev next (K : PySem.W.Frag) [LT K] (G : Ends) (m : Nat) : L2.St → Hp → Prop := fun σ H => ∃ m', m' < m ∧ GoodF K G m' σ H
abbrev ends (K : PySem.W.Frag) [LT K] (G : Ends) (m : Nat) : Ends := { G with nx := next K G m, ct := next K G m, bk := G.nx }
theorem one_turn (h : FS K S0 S σ a fs) (ne : fs ≠ []) (t : ∀ S1, Gr K none S S1 → FS K S0 S1 σ a fs → turnT K (ends K G m) σ S1.H) : GoodF K G m σ S.H := by
  show Good _ _ _ _ _ _
  rw [Good.eq]
  refine et_line h S (Gr.refl h.ok) _ fun S1 g t1 => ?_
  have e : (!fs.isEmpty) = true := by cases fs <;> first | rfl | exact absurd rfl ne
  rw [e, if_pos rfl]
  exact ⟨next K G m, fun _ _ x => x, t S1 g (h.grow g t1)⟩
theorem end_turn (h : FS K S0 S σ a fs) {v : V} (hv : σ[1]? = some (some v)) (r : Rp K S.F v e) (kt : Kont K S0 a G fs e k) (hk : k < m) : ended K (ends K G m) σ S.H := by
  refine r_if h.ok (et_end h) (fun b S1 g t => ?_) (fun b S1 g t => ?_)
  · have h' := h.grow g t
    refine ⟨v, hv, kt.last ?_ v S1 h'.g h'.t (r.mono g.ff)⟩
    cases fs <;> first | rfl | cases b
  · refine ⟨k, hk, kt.more ?_ _ _ ⟨S1, v, rfl, h.grow g t, hv, r.mono g.ff⟩⟩
    rintro rfl
    cases b
theorem nd_push (h : FS K S0 S σ a fs) : (a :: (fs ++ [(⟨d, none⟩ : Fra)]).flatMap Fra.ad).Nodup := by
  rw [List.flatMap_append, List.flatMap_singleton]
  show (a :: (fs.flatMap Fra.ad ++ [])).Nodup
  rw [List.append_nil]
  exact h.nd
theorem nd_part (h : FS K S0 S σ a fs) (off : q ∉ a :: fs.flatMap Fra.ad) : (a :: (fs ++ [(⟨d, some (q, ds)⟩ : Fra)]).flatMap Fra.ad).Nodup := by
  rw [List.flatMap_append, List.flatMap_singleton]
  show ((a :: fs.flatMap Fra.ad) ++ [q]).Nodup
  exact List.nodup_append.mpr ⟨h.nd, List.nodup_cons.mpr ⟨List.not_mem_nil, .nil⟩, fun x hx y hy z => off (by rw [← List.mem_singleton.mp hy, ← z]; exact hx)⟩
/-- a row that is not begun is laid on the line -/
theorem push_go {te : TE} (h : FS K S0 S σ a fs) (ok0 : Ok K none S0) (few : fs.length < sizeLine) (he : EvD K none te σ S d) (k : ∀ S1, FS K S0 S1 σ a (fs ++ [⟨d, none⟩]) → Ex S.F S1.F → G.nx σ S1.H) :
    tDrop (tBM K "list" rAppend (tVar 2) (tCons (tTup (tCons te (tCons (tC .non) tNil))) tNil)) G σ S.H :=
  r_push h ok0 few (fun Q q => ed_tup (ea_cons he (ea_cons ed_non ea_nil)) (by rw [sizeLine_eq]; exact Nat.le_of_ble_eq_true rfl) S (Gr.refl h.ok) Q fun v S1 g t r => q v S1 g t r fun _ _ z => by cases z) (nd_push h) k
/-- a row with its parts is laid on the line -/
theorem push_at (h : FS K S0 S σ a fs) (ok0 : Ok K none S0) (few : fs.length < sizeLine) {x : V} (h3 : σ[3]? = some (some x)) (r : Rp K S.F x d) (h4 : σ[4]? = some (some (.ref q))) (pt : Part K S0 S q ds) (off : q ∉ a :: fs.flatMap Fra.ad) (k : ∀ S1, FS K S0 S1 σ a (fs ++ [⟨d, some (q, ds)⟩]) → Ex S.F S1.F → G.nx σ S1.H) :
    pushC K G σ S.H :=
  r_push h ok0 few (fun Q k2 => ed_tup (ea_cons (ed_slot h3 r) (ea_cons (ed_slot h4 (.val (.ref q))) ea_nil)) (by rw [sizeLine_eq]; exact Nat.le_of_ble_eq_true rfl) S (Gr.refl h.ok) Q fun v S1 g t r => k2 v S1 g t r fun q' ds' e => by cases e; exact pt.grow g) (nd_part h off) k
/-- a row is laid on the line with an empty list of parts -/
theorem push_new (h : FS K S0 S σ a fs) (ok0 : Ok K none S0) (few : fs.length < sizeLine) {x : V} (h3 : σ[3]? = some (some x)) (r : Rp K S.F x d) (k : ∀ S1 q, FS K S0 S1 σ a (fs ++ [⟨d, some (q, [])⟩]) → Ex S.F S1.F → G.nx σ S1.H) : pushA K G σ S.H := by
  obtain ⟨us, h1, h2, _, _⟩ := h.line
  refine ⟨.ref a, h.slot, .inl ⟨rfl, us, .of h1⟩, x, h3, ?_⟩
  refine eo_lst (K := K) (p := none) (σ := σ) (S := S) ea_nil (Nat.zero_le _) S (Gr.refl h.ok) _ fun q ws S1 g t n hq fq rw_ => ?_
  cases rw_
  have h' := h.grow g t
  obtain ⟨vs, w1, w2, _, _⟩ := h'.line
  have aq : q ≠ a := fun z => by rw [z, h1] at n; cases n
  refine ⟨by rw [sizeLine_eq]; exact Nat.le_of_ble_eq_true rfl, fun p hp => ?_⟩
  have g2 := Gr.new (p := none) (o := .tup [x, .ref q]) h'.ok hp
  have h2' := h'.grow g2 (Nat.le_refl _)
  obtain ⟨vs2, w3, w4, _, _⟩ := h2'.line
  have same : vs2 = vs := by
    have z : upd S1.H p (.tup [x, .ref q]) a = some (.lst vs2) := w3
    rw [upd_ne (fun z => by rw [← z, w1] at hp; cases hp), w1] at z
    cases z
    rfl
  have len : vs2.length = fs.length := by rw [w4.length, List.length_map]
  have pq : Part K S0 ⟨upd S1.F p (.tup [x, .ref q]), upd S1.H p (.tup [x, .ref q]), S1.T⟩ q [] := Part.grow (S := S1) ⟨[], hq, .nil, fq, h.g.fresh n⟩ g2
  have off : q ∉ a :: fs.flatMap Fra.ad := fun m => by
    rcases List.mem_cons.mp m with z | z
    · exact aq z
    · obtain ⟨f, hf, hm⟩ := List.mem_flatMap.mp z
      obtain ⟨d', _ | ⟨q', ds'⟩⟩ := f
      · cases hm
      · cases List.mem_singleton.mp hm
        obtain ⟨_, z1, _⟩ := h.parts _ hf q ds' rfl
        rw [n] at z1
        cases z1
  refine ⟨a, vs2, .ref p, rfl, rfl, w3, by omega, ?_⟩
  have rt : Rp K (upd S1.F p (.tup [x, .ref q])) (.ref p) (.tup [d, .val (.ref q)]) := .tup (.of upd_same) (.cons ((r.mono g.ff).mono g2.ff) (.cons (.val _) .nil))
  exact k ⟨_, _, S1.T⟩ q (h2'.lay ok0 (by rw [List.map_append]; exact w4.snoc rt) (fun f hf q' ds' e => by
    rcases List.mem_append.mp hf with z | z
    · exact h2'.parts f z q' ds' e
    · rw [List.mem_singleton.mp z] at e
      cases e
      exact pq) (nd_part h2' off)) (g.ff.trans g2.ff)
/-- the line's last row is dropped -/
theorem r_drop {f : Fra} (h : FS K S0 S σ a (fs ++ [f])) (ok0 : Ok K none S0) (k : ∀ S1, FS K S0 S1 σ a fs → S1.F = S.F → G.nx σ S1.H) : tDrop (tBM0 K "list" rPop (tVar 2)) G σ S.H := by
  obtain ⟨us, h1, h2, _, _⟩ := h.line
  have nd2 : (a :: fs.flatMap Fra.ad).Nodup := by
    have := h.nd
    rw [List.flatMap_append] at this
    exact this.sublist (List.cons_sublist_cons.mpr (List.sublist_append_left _ _))
  have lens := h2.length
  rw [List.length_map, List.length_append, List.length_singleton] at lens
  have r1 := h2.dropLast
  rw [List.map_append, List.map_singleton, List.dropLast_concat] at r1
  have lt : us.length - 1 < us.length := by omega
  refine ⟨.ref a, h.slot, .inl ⟨rfl, us, .of h1⟩, a, us, us[us.length - 1], rfl, rfl, h1, List.getElem?_eq_getElem lt, ?_⟩
  exact k _ (h.lay ok0 r1 (fun f' hf q ds e => h.parts f' (List.mem_append_left _ hf) q ds e) nd2) rfl
/-- parts.append(done) -/
theorem r_add (h : FS K S0 S σ a fs) (ok0 : Ok K none S0) {v : V} (h1 : σ[1]? = some (some v)) (r : Rp K S.F v e) (h4 : σ[4]? = some (some (.ref q))) (pt : Part K S0 S q ds) (off : q ∉ a :: fs.flatMap Fra.ad) (few : ds.length < sizeLine)
    (k : ∀ S1, FS K S0 S1 σ a fs → Part K S0 S1 q (ds ++ [e]) → S1.F = S.F → G.nx σ S1.H) : tDrop (tBM K "list" rAppend (tVar 4) (tCons (tVar 1) tNil)) G σ S.H := by
  have pt' := pt
  obtain ⟨ws, w1, w2, w3, w4⟩ := pt'
  refine ⟨.ref q, h4, .inl ⟨rfl, ws, .of w1⟩, v, h1, q, ws, v, rfl, rfl, w1, by rw [w2.length]; exact few, ?_⟩
  exact k ⟨S.F, upd S.H q (.lst (ws ++ [v])), S.T⟩ (h.other ok0 pt off) ⟨_, upd_same, w2.snoc r, w3, w4⟩ rfl
theorem at3 (h : σ.length = 5) (x y : V) : ((σ.set 3 (some x)).set 4 (some y))[3]? = some (some x) ∧ ((σ.set 3 (some x)).set 4 (some y))[4]? = some (some y) := by
  refine ⟨?_, ?_⟩
  · rw [List.getElem?_set_ne (by decide), List.getElem?_set_self (by omega)]
  · rw [List.getElem?_set_self (by rw [List.length_set]; omega)]
theorem at1 (h : σ.length = 5) (v : V) : (σ.set 1 (some v))[1]? = some (some v) := List.getElem?_set_self (by omega)
theorem keep1 {v : V} (h : σ[1]? = some (some v)) (x y : V) : ((σ.set 3 (some x)).set 4 (some y))[1]? = some (some v) := by
  rw [List.getElem?_set_ne (by decide), List.getElem?_set_ne (by decide), h]
theorem keep3 {x : V} (h : σ[3]? = some (some x)) (v : V) : (σ.set 1 (some v))[3]? = some (some x) := by rw [List.getElem?_set_ne (by decide), h]
theorem et_row {x : V} (h3 : σ[3]? = some (some x)) (r : Rp K S.F x d) (f : fine d = true) : EvT K none (tNot (tB (tCall (spRow K) [] E0 (tCons (tVar 3) tNil)))) σ S (!isRowD d) :=
  et_not (et_B (ed_call (n := 1) (pre := fun ds => kn (h0 ds)) (f := fun ds => .bl (isRowD (h0 ds))) (ds := [d]) (ea_cons (ed_slot h3 r) ea_nil) rfl (fine_kn f)))
theorem len_row {x : V} {j : Nat} (h3 : σ[j]? = some (some x)) (r : Rp K S.F x d) (hd : rowD d = some es) (few : es.length ≤ 16777216) : EvD K none (tCB (rLenA K) (tCons (tVar j) tNil)) σ S (.int (es.length : Int)) := ed_lenR (ed_slot h3 r) hd few
theorem len_part (h4 : σ[4]? = some (some (.ref q))) (pt : Part K S0 S q ds) (few : ds.length ≤ 16777216) : EvD K none (tCB (rLenA K) (tCons (tVar 4) tNil)) σ S (.int (ds.length : Int)) :=
  ed_len (EvQ.hl (eq_part pt h4)) (rl_L (by rw [sizeLine_eq]; exact few))
/-- both ways of a turn -/
structure Big (K : PySem.W.Frag) [LT K] (S0 : Wd) (a : Addr) (G : Ends) (n : Nat) : Prop where
  go : ∀ d fs k σ S, 2 * sz d ≤ n → fine d = true → fs.length + sz d ≤ 1000000 → Kont K S0 a G fs (fixD d) k → FS K S0 S σ a (fs ++ [⟨d, none⟩]) → GoodF K G (turns d + k) σ S.H
  on : ∀ d pre e r fs q k σ H, 2 * szs r + 1 ≤ n → fine d = true → rowD d = some (pre ++ e :: r) → fs.length + sz d ≤ 1000000 → Kont K S0 a G fs (fixD d) k → BSt K S0 a (fs ++ [⟨d, some (q, pre.map fixD)⟩]) (fixD e) σ H → GoodF K G (turnsR r + k) σ H
theorem atI_at {α : Type} {xs : List α} {j : Nat} {x : α} (h : xs[j]? = some x) : atI xs (j : Int) = some x := by
  obtain ⟨hj, rfl⟩ := List.getElem?_eq_some_iff.mp h
  unfold atI ixN
  rw [if_pos (by omega), if_pos (by omega)]
  show xs[(j : Int).toNat]? = _
  rw [Int.toNat_natCast, List.getElem?_eq_getElem hj]
theorem snoc_ne {α : Type} {l : List α} {x : α} : l ++ [x] ≠ [] := by simp
theorem big (ok0 : Ok K none S0) : ∀ n, Big K S0 a G n
  | 0 => ⟨fun d fs k σ S h => by have := sz_pos d; omega, fun d pre e r fs q k σ H h => by omega⟩
  | n + 1 => by
    have B := big ok0 n
    have ln : ∀ {z : Nat}, z ≤ 1000000 → z < sizeLine := fun h => by rw [sizeLine_eq]; omega
    refine ⟨fun d fs k σ S hn fd hz kt h => ?_, fun d pre e r fs q k σ H hn fd hd hz kt hb => ?_⟩
    · refine one_turn h snoc_ne fun S1 g1 h1 => ?_
      refine s_seq (r_take h1 ok0 fun x y S2 h2 _ rx ry ps => ?_)
      have l2 := h1.len
      obtain ⟨h3, h4⟩ := at3 l2 x y
      dsimp only at rx ry
      dsimp only
      refine s_seq (r_if h2.ok (et_row h3 rx fd) (fun b S3 g3 t3 => ?_) (fun b S3 g3 t3 => ?_))
      · have nrow : rowD d = none := row_not (by simpa using b)
        have h3' := h2.grow g3 t3
        refine r_asg h3'.ok (ed_slot h3 (rx.mono g3.ff)) fun v S4 g4 t4 rv => ?_
        rw [fixD_leaf nrow] at kt
        refine end_turn ((h3'.grow g4 t4).set (by decide)) (at1 h3'.len v) rv kt ?_
        have : turns d = 1 := by cases d <;> first | rfl | cases nrow
        omega
      · obtain ⟨es, hd⟩ := row_of (show isRowD d = true by simpa using b)
        have szd := row_sz hd
        have lenE := szs_len es
        have h3' := h2.grow g3 t3
        cases ry
        refine r_if h3'.ok (et_test (ed_op (EvD.h (ed_slot h4 .non)) (EvD.h ed_non) (rd_isN rfl))) (fun _ S4 g4 t4 => ?_) (fun z => by cases z)
        have h4' := h3'.grow g4 t4
        have rx4 := (rx.mono g3.ff).mono g4.ff
        refine s_seq (push_new h4' ok0 (ln (by omega)) h3 rx4 fun S5 q h5 x5 => ?_)
        dsimp only
        refine s_seq (r_asg h5.ok ed_non fun v S6 g6 t6 _ => ?_)
        have h6 := (h5.grow g6 t6).set (v := v) (i := 1) (by decide)
        have s3 := keep3 h3 v
        have rx6 := (rx4.mono x5).mono g6.ff
        dsimp only
        cases es with
        | nil =>
          refine s_seq (r_if (b := false) h6.ok (et_test (ed_op (EvD.h (len_row s3 rx6 hd (Nat.zero_le _))) (EvD.h ed_int) rd_B0)) (fun z => by cases z) (fun _ S7 g7 t7 => ?_))
          refine s_next ?_
          refine s_seq (r_drop (h6.grow g7 t7) ok0 fun S8 h8 _ => ?_)
          dsimp only
          refine r_asg h8.ok (ed_tup ea_nil (Nat.zero_le _)) fun u S9 g9 t9 ru => ?_
          rw [fixD_row hd] at kt
          refine end_turn ((h8.grow g9 t9).set (by decide)) (at1 h8.len u) ru kt ?_
          rw [turns_row hd]
          simp only [turnsR]
          omega
        | cons e0 r =>
          refine s_seq (r_if (b := true) h6.ok (EvT.is (et_test (ed_op (EvD.h (len_row s3 rx6 hd (by omega))) (EvD.h ed_int) rd_B0)) (decide_eq_true (by rw [List.length_cons]; omega))) (fun _ S7 g7 t7 => ?_) (fun z => by cases z))
          have h7 := h6.grow g7 t7
          have sze : 1 + sz e0 + szs r = sz d := by rw [szd]; simp only [szs]; omega
          have fe := fine_mem (fine_row hd fd) e0 List.mem_cons_self
          refine s_seq (push_go h7 ok0 (by rw [List.length_append]; exact ln (by have := sz_pos e0; simp only [List.length_singleton]; omega)) (ed_at (ed_slot s3 (rx6.mono g7.ff)) hd ed_int at0) fun S8 h8 x8 => ?_)
          refine ⟨turns e0 + (turnsR r + k), ?_, B.go e0 _ (turnsR r + k) _ S8 (by omega) fe (by rw [List.length_append, List.length_singleton]; omega) ⟨fun z => absurd z snoc_ne, fun _ σ H bs => ?_⟩ h8⟩
          · rw [turns_row hd]
            simp only [turnsR]
            omega
          · exact B.on d [] e0 r fs q k σ H (by omega) fd hd hz kt bs
    · obtain ⟨S, v, rfl, h, hv, rv⟩ := hb
      refine one_turn h snoc_ne fun S1 g1 h1 => ?_
      refine s_seq (r_take h1 ok0 fun x y S2 h2 f2 rx ry ps => ?_)
      obtain ⟨h3, h4⟩ := at3 h1.len x y
      have hv2 := keep1 hv x y
      have rv2 : Rp K S2.F v (fixD e) := f2 ▸ rv.mono g1.ff
      obtain ⟨pt, off⟩ := ps q _ rfl
      dsimp only at rx ry
      dsimp only
      have szd := row_sz hd
      rw [szs_app] at szd
      simp only [szs] at szd
      have lenP := szs_len pre
      have lenR := szs_len r
      have one := sz_pos e
      refine s_seq (r_if (b := false) h2.ok (EvT.is (et_row h3 rx fd) (by rw [row_is hd]; rfl)) (fun z => by cases z) (fun _ S3 g3 t3 => ?_))
      have h3' := h2.grow g3 t3
      cases ry
      refine r_if (b := false) h3'.ok (et_test (ed_op (EvD.h (ed_slot h4 (.val (.ref q)))) (EvD.h ed_non) rd_isRef)) (fun z => by cases z) (fun _ S4 g4 t4 => ?_)
      have h4' := h3'.grow g4 t4
      have rx4 := (rx.mono g3.ff).mono g4.ff
      have pt4 := (pt.grow g3).grow g4
      refine s_seq (r_add h4' ok0 hv2 ((rv2.mono g3.ff).mono g4.ff) h4 pt4 off (by rw [List.length_map]; exact ln (by omega)) fun S5 h5 pt5 f5 => ?_)
      have rx5 : Rp K S5.F x d := f5 ▸ rx4
      have eqP : pre.map fixD ++ [fixD e] = (pre ++ [e]).map fixD := by rw [List.map_append, List.map_singleton]
      rw [eqP] at pt5
      have lenD : ((pre ++ [e]).map fixD).length = pre.length + 1 := by rw [List.length_map, List.length_append, List.length_singleton]
      dsimp only
      have cmp := et_test (ed_op (EvD.h (len_part h4 pt5 (by omega))) (EvD.h (len_row h3 rx5 hd (by rw [List.length_append, List.length_cons]; omega))) (rd_B0 (f := fun i j => decide (i < j))))
      cases r with
      | nil =>
        refine s_seq (r_if (b := false) h5.ok (EvT.is cmp (decide_eq_false (by rw [lenD, List.length_append, List.length_singleton]; omega))) (fun z => by cases z) (fun _ S6 g6 t6 => ?_))
        refine s_next ?_
        have h6 := h5.grow g6 t6
        refine r_asg h6.ok (ed_tuple (eq_part (pt5.grow g6) h4)) fun u S7 g7 t7 ru => ?_
        rw [fixD_row hd] at kt
        refine end_turn ((h6.grow g7 t7).set (by decide)) (at1 h6.len u) ru kt ?_
        simp only [turnsR]
        omega
      | cons e2 r =>
        refine s_seq (r_if (b := true) h5.ok (EvT.is cmp (decide_eq_true (by rw [lenD, List.length_append, List.length_cons, List.length_cons]; omega))) (fun _ S6 g6 t6 => ?_) (fun z => by cases z))
        have h6 := h5.grow g6 t6
        have rx6 := rx5.mono g6.ff
        simp only [szs] at szd hn
        have one2 := sz_pos e2
        refine s_seq (push_at h6 ok0 (ln (by omega)) h3 rx6 h4 (pt5.grow g6) off fun S7 h7 x7 => ?_)
        have hd2 : rowD d = some ((pre ++ [e]) ++ e2 :: r) := by rw [hd]; simp
        have fe := fine_mem (fine_row hd fd) e2 (by simp)
        have pt7 : Part K S0 S7 q ((pre ++ [e]).map fixD) := h7.parts ⟨d, some (q, (pre ++ [e]).map fixD)⟩ (by simp) q _ rfl
        have pick : atI ((pre ++ [e]) ++ e2 :: r) (((pre ++ [e]).map fixD).length : Int) = some e2 := by
          rw [List.length_map]
          exact atI_at (by simp)
        refine s_seq (push_go h7 ok0 (by rw [List.length_append, List.length_singleton]; exact ln (by omega)) (ed_at (ed_slot h3 (rx6.mono x7)) hd2 (len_part h4 pt7 (by omega)) pick) fun S8 h8 x8 => ?_)
        refine ⟨turns e2 + (turnsR r + k), by simp only [turnsR]; omega, B.go e2 _ (turnsR r + k) _ S8 (by omega) fe (by rw [List.length_append, List.length_singleton]; omega) ⟨fun z => absurd z snoc_ne, fun _ σ H bs => ?_⟩ h8⟩
        exact B.on d (pre ++ [e]) e2 r fs q k σ H (by omega) fd hd2 hz kt bs
theorem fixed_run {N : List Str} {vs : List V} {H : Hp} {Q : VK} {E : XK} (h : spFixed K vs H Q E) (hN : N.length = 5) : fixedT K { nx := fun _ H' => Q .non H', rt := Q } (L2.start N vs) H := by
  refine fnP1 h (by omega) fun S0 d σ G hp st k => ?_
  obtain ⟨fd, hz⟩ := (show fine d = true ∧ sz d ≤ 1000000 from hp)
  have ok0 := st.ok0
  have len5 : σ.length = 5 := st.len.trans hN
  refine s_seq ?_
  obtain ⟨v0, e0, r0⟩ := st.has (0, .dat d) (get_mem rfl)
  have ls : EvO K none (tLst (tCons (tTup (tCons (tVar 0) (tCons (tC .non) tNil))) tNil)) σ S0 [.tup [d, .non]] :=
    eo_lst (ea_cons (ed_tup (ea_cons (ed_slot e0 r0) (ea_cons ed_non ea_nil)) (by rw [sizeLine_eq]; exact Nat.le_of_ble_eq_true rfl)) ea_nil) (by rw [sizeLine_eq]; exact Nat.le_of_ble_eq_true rfl)
  refine ls S0 (Gr.refl ok0) (fun x H2 => ∃ v w, [V.non, x] = [v, w] ∧ tSeq (tWhile (lineT K) (turnT K)) (tRet (tVar 1)) G ((σ.set 1 (some v)).set 2 (some w)) H2) fun a ws S1 g t n hl hF r => ⟨.non, .ref a, rfl, ?_⟩
  refine s_seq ?_
  have fs : FS K S0 S1 ((σ.set 1 (some .non)).set 2 (some (.ref a))) a ([] ++ [⟨d, none⟩]) :=
    ⟨g, t, by rw [List.length_set, List.length_set]; exact len5, List.getElem?_set_self (by rw [List.length_set]; omega), ⟨ws, hl, r, hF, n⟩, fun f hf q ds e => (by rw [List.mem_singleton.mp hf] at e; cases e), List.nodup_cons.mpr ⟨List.not_mem_nil, .nil⟩⟩
  refine Good.loop _ _ _ ((big ok0 _).go d [] 0 _ S1 (Nat.le_refl _) fd (by rw [List.length_nil]; omega) ⟨fun _ v S g t r => k v S g (by omega) r, fun z => absurd rfl z⟩ fs)
end
end DL
/-! ## two fors in a comprehension; defaults; raise with a variable; calls that let raise; while with draws -/
namespace DL
open PySem L2
open Evl (Ex)
section
variable {K : PySem.W.Frag} [LT K] {p : Option Addr} {S S0 S1 S2 S3 : Wd} {B : Hp} {σ σ' : L2.St} {te ta tb tc to ti : TE} {d d1 d2 d3 e : D} {ds es : List D} {v : V} {m M n k : Nat} {P P1 P2 : D → Prop} {l l' : En} {i j : Nat} {t : Ty} {G : Ends}
theorem eo_lc2 {wi wi1 : TI} {vs vs1 : List Nat} {gl : DL.D → List DL.D} {f : DL.D → DL.D → DL.D} (h : Sta K p S0 B m M n σ S l) (hq : EvS K p wi σ S ds) (hi : i < m) (hj : j < m) (hv : vs.contains i = true) (hv1 : vs1.contains j = true)
    (h1 : ∀ d ∈ ds, ∀ B' n' σ' S', Sta K p S0 B' m M n' σ' S' (put i (.dat d) (l.filter fun q => !vs.contains q.1)) → EvS K p wi1 σ' S' (gl d))
    (he : ∀ d ∈ ds, ∀ e ∈ gl d, ∀ B' n' σ' S', Sta K p S0 B' m M n' σ' S' (put j (.dat e) ((put i (.dat d) (l.filter fun q => !vs.contains q.1)).filter fun q => !vs1.contains q.1)) → EvD K p te σ' S' (f d e)) (hz : (ds.flatMap fun d => (gl d).map (f d)).length < sizeLine) :
    EvO K p (tLc2 wi (gName i) tYes wi1 (gName j) tYes te vs vs1) σ S (ds.flatMap fun d => (gl d).map (f d)) := by
  intro S1 g1 Q q
  have hm : i ∈ vs := by simpa using hv
  have hm1 : j ∈ vs1 := by simpa using hv1
  let I (c : Nat) (a : Nat) (S' : Wd) (A : Addr) : Prop := ∃ acc, S'.H A = some (.lst acc) ∧ S'.F A = none ∧ Rps K S'.F acc ((ds.take c).flatMap (fun d => (gl d).map (f d)) ++ (match ds[c]? with | some d => ((gl d).map (f d)).take a | none => []))
  refine hq S1 g1 _ fun J S2 g2 t2 src A hA => ?_
  have hF2 := g2.ok.freshF hA
  have hAp := ok_ne g2.ok hA
  refine ⟨fun c k H' => k = ds.length - c ∧ c ≤ ds.length ∧ ∃ S', S'.H = H' ∧ Gr K p S2 S' ∧ S'.T ≤ S2.T ∧ I c 0 S' A,
    ⟨ds.length, by simp, Nat.zero_le _, ⟨S2.F, upd S2.H A (.lst []), S2.T⟩, rfl, Gr.newO g2.ok hA, Nat.le_refl _, [], upd_same, hF2, by rw [List.take_zero]; cases ds[0]? <;> exact .nil⟩, ?_⟩
  rintro c k H' ⟨rfl, hc, S', rfl, g', t', hI⟩
  obtain ⟨s1, s2⟩ := src S' g'.ff g'.ok c
  by_cases hlt : c < ds.length
  · obtain ⟨go, yl⟩ := s1 hlt
    refine .inr ⟨go, fun H' => ∃ S', S'.H = H' ∧ Gr K p S2 S' ∧ S'.T ≤ S2.T ∧ I (c + 1) 0 S' A, fun H' q => ⟨ds.length - (c + 1), by omega, rfl, hlt, q⟩, fun x H' y => ?_⟩
    obtain ⟨eH, d, hd, rx⟩ := yl x H' y
    subst eH
    have dm := List.mem_of_getElem? hd
    have nxt : (ds.take (c + 1)).flatMap (fun d => (gl d).map (f d)) = (ds.take c).flatMap (fun d => (gl d).map (f d)) ++ (gl d).map (f d) := by rw [List.take_succ, hd, List.flatMap_append]; simp
    have st := (h.any ((g1.trans g2).trans g')).wiped vs
    have st2 := (st.set (t := .dat d) hi rx (fun z => by cases z)).base (fun _ _ q => q)
    refine ⟨by rw [wipe_set hm, wipe_wipe fun _ z => z], ?_⟩
    dsimp only [tYes]
    rw [if_pos rfl]
    refine h1 d dm _ _ _ _ st2 S' (Gr.refl g'.ok) _ fun J1 S3 g3 t3 src1 => ?_
    have up : ∀ {S4 : Wd}, Gr K p S' S4 → S4.T ≤ S'.T → I c 0 S' A → I c 0 S4 A := fun {S4} g t ⟨acc, a1, a2, a3⟩ => ⟨acc, g.hh _ _ a1 hAp, (g.old A (by rw [a1]; simp)).trans a2, a3.mono g.ff⟩
    refine ⟨fun a k H' => k = (gl d).length - a ∧ a ≤ (gl d).length ∧ ∃ S4, S4.H = H' ∧ Gr K p S2 S4 ∧ S4.T ≤ S2.T ∧ Ex S3.F S4.F ∧ I c a S4 A, ⟨(gl d).length, by simp, Nat.zero_le _, S3, rfl, g'.trans g3, by omega, fun _ _ q => q, up g3 t3 hI⟩, ?_⟩
    rintro a k H' ⟨rfl, ha, S4, rfl, g4, t4, x4, acc, a1, a2, a3⟩
    rw [hd] at a3
    dsimp only at a3
    obtain ⟨u1, u2⟩ := src1 S4 x4 g4.ok a
    by_cases hla : a < (gl d).length
    · obtain ⟨go1, yl1⟩ := u1 hla
      refine .inr ⟨go1, fun H' => ∃ S4, S4.H = H' ∧ Gr K p S2 S4 ∧ S4.T ≤ S2.T ∧ Ex S3.F S4.F ∧ I c (a + 1) S4 A, fun H' q => ⟨(gl d).length - (a + 1), by omega, rfl, hla, q⟩, fun x1 H' y1 => ?_⟩
      obtain ⟨eH, e, hde, rx1⟩ := yl1 x1 H' y1
      subst eH
      have em := List.mem_of_getElem? hde
      have stO := ((((h.any ((g1.trans g2).trans g4)).wiped vs).set (t := .dat d) hi (rx.mono (g3.ff.trans x4)) (fun z => by cases z)).base (B' := S4.F) (fun _ _ q => q)).wiped vs1
      have stI := stO.set (t := .dat e) hj rx1 (fun z => by cases z)
      refine ⟨by rw [wipe_set hm1, wipe_wipe fun _ z => z], ?_⟩
      dsimp only [tYes]
      rw [if_pos rfl]
      refine he d dm e em _ _ _ _ stI S4 (Gr.refl g4.ok) _ fun y S5 g5 t5 ry => ?_
      have hA5 := g5.hh _ _ a1 hAp
      have hF5 : S5.F A = none := (g5.old A (by rw [a1]; simp)).trans a2
      have small : acc.length < sizeLine := by
        refine Nat.lt_of_le_of_lt ?_ hz
        rw [a3.length, List.length_append]
        have split : ds.flatMap (fun d => (gl d).map (f d)) = (ds.take (c + 1)).flatMap (fun d => (gl d).map (f d)) ++ (ds.drop (c + 1)).flatMap (fun d => (gl d).map (f d)) := by rw [← List.flatMap_append, List.take_append_drop]
        rw [split, nxt, List.length_append, List.length_append, List.length_take]
        omega
      refine ⟨acc, hA5, small, ⟨S5.F, upd S5.H A (.lst (acc ++ [y])), S5.T⟩, rfl, Gr.chg g2.ok (g4.trans g5) hA hF5 hA5 (fun ps z => by cases z) code_ne_lst, by show S5.T ≤ _; omega, x4.trans g5.ff, acc ++ [y], upd_same, hF5, ?_⟩
      rw [hd]
      dsimp only
      rw [List.take_succ, List.getElem?_map, hde, ← List.append_assoc]
      exact (a3.mono g5.ff).snoc ry
    · have ea : a = (gl d).length := by omega
      subst ea
      refine .inl ⟨u2 rfl, S4, rfl, g4, t4, acc, a1, a2, ?_⟩
      have tk : ((gl d).map (f d)).take (gl d).length = (gl d).map (f d) := List.take_of_length_le (by rw [List.length_map]; exact Nat.le_refl _)
      rw [tk] at a3
      rw [nxt]
      cases ds[c + 1]? <;> (simp only [List.take_zero, List.append_nil]; exact a3)
  · have ec : c = ds.length := by omega
    subst ec
    obtain ⟨acc, a1, a2, a3⟩ := hI
    rw [List.take_length, List.getElem?_eq_none (Nat.le_refl _), List.append_nil] at a3
    exact .inl ⟨s2 rfl, q A acc S' (g2.trans g') (by omega) (g2.fresh hA) a1 a2 a3⟩
/-! ### raise C(x), x a variable that holds a text -/
theorem s_raiseV {D C : Addr} {E : XK} {x : Str} (h : Sta K p S0 B m M n σ S l) (hg : get l i = some (.dat (.str x))) (SC : SCls K D C) (hno : PySem.W.findIn K (.ref C) "part" = some none) (k : ∀ dx S', Gr K p S0 S' → S'.T ≤ S0.T + n → S'.H dx = some (.xd [("part", .str x)]) → E (.ref C) (some dx) S'.H) :
    tMkO C (spPart K D "part") [] (tCons (tVar i) tNil) σ S.H (fun cls d H' => E cls d H') := by
  obtain ⟨v, e, r⟩ := h.has _ (get_mem hg)
  cases (show Rp K S.F v (.str x) from r)
  exact ⟨.str x, e, s_raise h SC hno k⟩
/-! ### calls of defs that may raise -/
section
variable {C : Addr} {fs : List (Str × V)} {pre : List D → Prop} {f : List D → Option D} {dvs : List V} {dds : List D}
theorem ed_callED {tt : TA} {E : XK} (h : EvA K p tt σ S ds) (hd : ∀ F, Rps K F dvs dds) (hn : (ds ++ dds).length = n) (hp : pre (ds ++ dds)) (hf : f (ds ++ dds) = some e) : EvD K p (tCall (spE K n pre f C fs) dvs E tt) σ S e := fun S1 g Q q =>
  h S1 g _ fun vs S2 g2 t2 rv => by
    refine ⟨S2.F, ds ++ dds, ⟨g2.ok.sub, fun a e => (by cases e), g2.ok.nt, g2.ok.tb⟩, rv.append (hd _), hn, hp, fun d' hd' v F' H' g' r => ?_, fun z => by rw [hf] at z; cases z⟩
    rw [hf] at hd'
    cases hd'
    have g3 : Gr K none S2 ⟨F', H', S2.T⟩ := ⟨g'.ff, fun b o q np n => g'.hh b o q np n, g'.al, g'.old, ⟨g'.ok.sub, fun a e => (by cases e), g'.ok.nt, g'.ok.tb⟩⟩
    exact q v ⟨F', H', S2.T⟩ (g2.trans (g3.up g2.ok rfl)) t2 r
theorem ev_raiseD {tt : TA} {E : XK} (h : EvA K none tt σ S ds) (hok : Ok K none S) (hd : ∀ F, Rps K F dvs dds) (hn : (ds ++ dds).length = n) (hp : pre (ds ++ dds)) (hf : f (ds ++ dds) = none) {Q : VK} (k : ∀ dx S', Gr K none S S' → S'.T ≤ S.T → S'.H dx = some (.xd fs) → E (.ref C) (some dx) S'.H) :
    tCall (spE K n pre f C fs) dvs E tt σ S.H Q := h S (Gr.refl hok) _ fun vs S2 g2 t2 rv => by
  refine ⟨S2.F, ds ++ dds, ⟨g2.ok.sub, fun a e => (by cases e), g2.ok.nt, g2.ok.tb⟩, rv.append (hd _), hn, hp, (fun d' hd' => by rw [hf] at hd'; cases hd'), fun _ dx F' H' g' hx => ?_⟩
  have g3 : Gr K none S2 ⟨F', H', S2.T⟩ := ⟨g'.ff, fun b o q np n => g'.hh b o q np n, g'.al, g'.old, ⟨g'.ok.sub, fun a e => (by cases e), g'.ok.nt, g'.ok.tb⟩⟩
  exact k dx ⟨F', H', S2.T⟩ (g2.trans g3) t2 hx
end
/-! ### a while whose turns draw: at most w times each, c turns at most -/
theorem s_whileN {α : Type} {c : TT} {tb : TS} {w : Nat} (I : α → Prop) (e : α → En) (μ : α → Nat) (b : α → Bool) (a0 : α) (h : Sta K p S0 B m M n σ S l) (h0 : I a0) (hs : sub (e a0) l) (hM : n + μ a0 * w ≤ M)
    (ht : ∀ a n' σ S, I a → Sta K p S0 B m M n' σ S (e a) → EvT K p c σ S (b a))
    (hb : ∀ a n' σ S, I a → b a = true → n' + μ a * w ≤ M → Sta K p S0 B m M n' σ S (e a) → ∀ D' : Ends, D'.rt = G.rt → (∀ a' σ' S' l', I a' → μ a' < μ a → Sta K p S0 B m M (n' + w) σ' S' l' → sub (e a') l' → D'.nx σ' S'.H) → (∀ σ' H', D'.bk σ' H' = G.nx σ' H') → tb D' σ S.H)
    (hd : ∀ a n' σ S, I a → b a = false → n' ≤ n + μ a0 * w → Sta K p S0 B m M n' σ S (e a) → G.nx σ S.H) : tWhile c tb G σ S.H := by
  refine ⟨fun k σ' H' => ∃ a S' n', I a ∧ μ a = k ∧ S'.H = H' ∧ n' + μ a * w ≤ n + μ a0 * w ∧ Sta K p S0 B m M n' σ' S' (e a), ⟨μ a0, a0, S, n, h0, rfl, rfl, Nat.le_refl _, h.weak hs⟩, ?_⟩
  rintro k σ' H' ⟨a, S', n', ia, rfl, rfl, hn, hst⟩
  refine ht a n' σ' S' ia hst S' (Gr.refl hst.ok) _ fun S2 g2 t2 => ?_
  have h2 := hst.grow0 g2 t2
  cases hba : b a with
  | true =>
    rw [if_pos rfl]
    have kk : ∀ a' σ' S' l', I a' → μ a' < μ a → Sta K p S0 B m M (n' + w) σ' S' l' → sub (e a') l' → ∃ m', m' < μ a ∧ ∃ a S1 n1, I a ∧ μ a = m' ∧ S1.H = S'.H ∧ n1 + μ a * w ≤ n + μ a0 * w ∧ Sta K p S0 B m M n1 σ' S1 (e a) :=
      fun a' σ' S' l' i' lt st' sb => ⟨μ a', lt, a', S', n' + w, i', rfl, rfl, by
        have : μ a' * w + w ≤ μ a * w := by
          rw [← Nat.succ_mul]
          exact Nat.mul_le_mul_right w lt
        omega, st'.weak sb⟩
    refine ⟨fun σ' H' => ∃ m', m' < μ a ∧ ∃ a S1 n1, I a ∧ μ a = m' ∧ S1.H = H' ∧ n1 + μ a * w ≤ n + μ a0 * w ∧ Sta K p S0 B m M n1 σ' S1 (e a), fun σ' H' q => q, ?_⟩
    exact hb a n' σ' S2 ia hba (by omega) h2 _ rfl kk fun _ _ => rfl
  | false =>
    rw [if_neg Bool.false_ne_true]
    exact hd a n' σ' S2 ia hba (by omega) h2
end
end DL
/-! ## texts in order; defs with texts as defaults; what is heard of a call by keywords -/
namespace DL
open PySem L2
open Evl (Ex)
/-! ### an order -/
structure Lin {α : Type} (lt : α → α → Bool) : Prop where
  ir : ∀ a, lt a a = false
  tr : ∀ a b c, lt a b = true → lt b c = true → lt a c = true
  tot : ∀ a b, lt a b = false → lt b a = false → a = b
section
variable {α : Type} [DecidableEq α] {lt : α → α → Bool}
def insG (lt : α → α → Bool) (x : α) : List α → List α
  | [] => [x]
  | y :: l => if lt x y = true then x :: y :: l else if x = y then y :: l else y :: insG lt x l
def srtG (lt : α → α → Bool) (l : List α) : List α := l.foldr (insG lt) []
abbrev Asc (lt : α → α → Bool) (l : List α) : Prop := l.Pairwise fun a b => lt a b = true
theorem insG_mem (x k : α) : ∀ l, k ∈ insG lt x l ↔ k = x ∨ k ∈ l
  | [] => by simp [insG]
  | y :: l => by
    unfold insG
    by_cases c : lt x y = true
    · rw [if_pos c, List.mem_cons]
    · rw [if_neg c]
      by_cases e : x = y
      · rw [if_pos e, e]
        exact ⟨.inr, fun h => h.elim (fun z => z ▸ List.mem_cons_self) id⟩
      · rw [if_neg e, List.mem_cons, insG_mem x k l, List.mem_cons]
        exact ⟨fun h => h.elim (fun z => .inr (.inl z)) (fun z => z.imp id .inr), fun h => h.elim (fun z => .inr (.inl z)) (fun z => z.imp id .inr)⟩
theorem insG_asc (L : Lin lt) (x : α) : ∀ l : List α, Asc lt l → Asc lt (insG lt x l)
  | [], _ => List.pairwise_singleton _ _
  | y :: l, h => by
    obtain ⟨h1, h2⟩ := List.pairwise_cons.mp h
    unfold insG
    by_cases c : lt x y = true
    · rw [if_pos c]
      exact List.pairwise_cons.mpr ⟨fun z hz => (List.mem_cons.mp hz).elim (fun e => e ▸ c) fun e => L.tr _ _ _ c (h1 z e), h⟩
    · rw [if_neg c]
      by_cases e : x = y
      · rwa [if_pos e]
      · rw [if_neg e]
        refine List.pairwise_cons.mpr ⟨fun z hz => ?_, insG_asc L x l h2⟩
        rcases (insG_mem x z l).mp hz with rfl | z1
        · cases q : lt y z with
          | true => rfl
          | false => exact absurd (L.tot z y (by simpa using c) q) e
        · exact h1 z z1
theorem srtG_asc (L : Lin lt) : ∀ l : List α, Asc lt (srtG lt l)
  | [] => .nil
  | x :: l => insG_asc L x _ (srtG_asc L l)
theorem srtG_mem (k : α) : ∀ l : List α, k ∈ srtG lt l ↔ k ∈ l
  | [] => by simp [srtG]
  | x :: l => by
    show k ∈ insG lt x (srtG lt l) ↔ _
    rw [insG_mem, srtG_mem k l, List.mem_cons]
theorem ascG_ext (L : Lin lt) : ∀ {xs ys : List α}, Asc lt xs → Asc lt ys → (∀ k, k ∈ xs ↔ k ∈ ys) → xs = ys
  | [], [], _, _, _ => rfl
  | [], y :: ys, _, _, h => absurd ((h y).mpr List.mem_cons_self) List.not_mem_nil
  | x :: xs, [], _, _, h => absurd ((h x).mp List.mem_cons_self) List.not_mem_nil
  | x :: xs, y :: ys, p, q, h => by
    obtain ⟨p1, p2⟩ := List.pairwise_cons.mp p
    obtain ⟨q1, q2⟩ := List.pairwise_cons.mp q
    have no : ∀ {a b : α}, lt a b = true → lt b a = true → False := fun u v => by
      have := L.tr _ _ _ u v
      rw [L.ir] at this
      cases this
    have e : x = y := by
      rcases List.mem_cons.mp ((h x).mp List.mem_cons_self) with a | a
      · exact a
      · rcases List.mem_cons.mp ((h y).mpr List.mem_cons_self) with b | b
        · exact b.symm
        · exact (no (q1 x a) (p1 y b)).elim
    subst e
    have self : ∀ {k}, lt x k = true → k ≠ x := fun u z => by rw [z, L.ir] at u; cases u
    rw [ascG_ext L p2 q2 fun k => ⟨fun hk => ((List.mem_cons.mp ((h k).mp (List.mem_cons_of_mem _ hk))).resolve_left (self (p1 k hk))), fun hk => ((List.mem_cons.mp ((h k).mpr (List.mem_cons_of_mem _ hk))).resolve_left (self (q1 k hk)))⟩]
end
/-! ### texts -/
def ltS (a b : Str) : Bool := PySem.Spec.ltCps a.cps.toList b.cps.toList
theorem lin_cps : Lin PySem.Spec.ltCps where
  ir := fun a => by induction a with
    | nil => rfl
    | cons x l ih => simp [PySem.Spec.ltCps, ih]
  tr := fun a => by
    induction a with
    | nil =>
      intro b c h1 h2
      cases b with
      | nil => simp [PySem.Spec.ltCps] at h1
      | cons y m =>
        cases c with
        | nil => simp [PySem.Spec.ltCps] at h2
        | cons z n => rfl
    | cons x l ih =>
      intro b c h1 h2
      cases b with
      | nil => cases h1
      | cons y m =>
        cases c with
        | nil => cases h2
        | cons z n =>
          simp only [PySem.Spec.ltCps, Bool.or_eq_true, decide_eq_true_eq, Bool.and_eq_true, beq_iff_eq] at h1 h2 ⊢
          rcases h1 with h1 | ⟨e1, h1⟩ <;> rcases h2 with h2 | ⟨e2, h2⟩
          · exact .inl (Nat.lt_trans h1 h2)
          · exact .inl (e2 ▸ h1)
          · exact .inl (e1 ▸ h2)
          · exact .inr ⟨e1.trans e2, ih m n h1 h2⟩
  tot := fun a => by
    induction a with
    | nil => intro b h1 h2; cases b <;> first | rfl | cases h1
    | cons x l ih =>
      intro b h1 h2
      cases b with
      | nil => cases h2
      | cons y m =>
        simp only [PySem.Spec.ltCps, Bool.or_eq_false_iff, decide_eq_false_iff_not, Bool.and_eq_false_iff, beq_eq_false_iff_ne] at h1 h2
        have e : x = y := by omega
        subst e
        rw [ih m (h1.2.resolve_left fun z => z rfl) (h2.2.resolve_left fun z => z rfl)]
theorem linS : Lin ltS where
  ir := fun a => lin_cps.ir _
  tr := fun a b c => lin_cps.tr _ _ _
  tot := fun a b h1 h2 => by
    have := lin_cps.tot _ _ h1 h2
    cases a; cases b
    simpa using this
def srtS (l : List Str) : List Str := srtG ltS l
theorem asc_of_rising : ∀ (l : List Str) (p : Str), (p :: l).Nodup → PyProof.Rows.risingS p l = true → Asc ltS (p :: l)
  | [], p, _, _ => List.pairwise_singleton _ _
  | x :: l, p, nd, h => by
    obtain ⟨n1, n2⟩ := List.nodup_cons.mp nd
    simp only [PyProof.Rows.risingS, Bool.and_eq_true, Bool.not_eq_true'] at h
    have ih := asc_of_rising l x n2 h.2
    have px : ltS p x = true := by
      cases q : ltS p x with
      | true => rfl
      | false => exact absurd (linS.tot p x q h.1) fun z => n1 (z ▸ List.mem_cons_self)
    refine List.pairwise_cons.mpr ⟨fun z hz => ?_, ih⟩
    rcases List.mem_cons.mp hz with rfl | hz
    · exact px
    · exact linS.tr _ _ _ px ((List.pairwise_cons.mp ih).1 z hz)
/-- what sorted makes of texts that are apart -/
theorem srtS_of {ys xs : List Str} (nd : ys.Nodup) (h : PyProof.Rows.sortedS ys = true) (m : ∀ k, k ∈ ys ↔ k ∈ xs) : ys = srtS xs := by
  refine ascG_ext linS ?_ (srtG_asc linS xs) fun k => (m k).trans (srtG_mem k xs).symm
  cases ys with
  | nil => exact .nil
  | cons y l => exact asc_of_rising l y nd h
theorem srtS_congr {xs ys : List Str} (m : ∀ k, k ∈ xs ↔ k ∈ ys) : srtS xs = srtS ys := ascG_ext linS (srtG_asc linS _) (srtG_asc linS _) fun k => (srtG_mem k xs).trans ((m k).trans (srtG_mem k ys).symm)
theorem srtS_mem (k : Str) (l : List Str) : k ∈ srtS l ↔ k ∈ l := srtG_mem k l
def rSortDS : List V → Hp → VK → Prop := fun xs H Q => ∃ (a : Addr) (kvs : List (Key × V)) (ks : List Str), xs = [.ref a] ∧ Rd H a (.dK kvs) ∧ kvs.map (·.1) = ks.map Sum.inr ∧ ks.length < 64 ∧ ∀ ys p, ys.Perm ks → PyProof.Rows.sortedS ys = true → H p = none → Q (.ref p) (upd H p (.lst (ys.map V.str)))
theorem cr_sortDS {X : Cx} (hc : X.calm = true) : CallR X (.builtin "sorted") rSortDS := call_sortedD hc
section
variable {K : PySem.W.Frag} [LT K] {p : Option Addr} {S S0 S1 S2 S3 : Wd} {B : Hp} {σ σ' : L2.St} {te ta tb tc to : TE} {d d1 d2 d3 e : D} {ds es zs : List D} {v : V} {m M n k : Nat} {P P1 P2 : D → Prop} {l l' : En} {i j : Nat} {t : Ty} {G : Ends}
theorem eo_sortSetS {P : Program} {w : World} {xs : List Str} (h : EvQ K p ta σ S true (xs.map D.str)) (hz : xs.length ≤ 4000) (h64 : (uniq xs).length < 64) : EvO K p (tSortSetS P w K ta) σ S ((srtS xs).map D.str) := fun S1 g Q q =>
  ev_set (fun r => r.strs_inv) h hz S1 g Q fun a S2 g2 t2 ha _ _ => ⟨a, _, rfl, ha, nodup_uniq xs, h64, fun ys b hp hs hb => by
    cases srtS_of (hp.nodup_iff.mpr (nodup_uniq xs)) hs fun j => (hp.mem_iff).trans mem_uniq
    exact q b _ ⟨S2.F, upd S2.H b (.lst ((srtS xs).map V.str)), S2.T⟩ (g2.trans (Gr.newO g2.ok hb)) t2 (g2.fresh hb) upd_same (g2.ok.freshF hb) (Rps.strs _)⟩
theorem eo_sortDS {kds : List (Key × D)} {xs : List Str} (h : EvD K p ta σ S (.dic kds)) (hk : kds.map (·.1) = xs.map Sum.inr) (nd : xs.Nodup) (h64 : xs.length < 64) : EvO K p (tCB rSortDS (tCons ta tNil)) σ S ((srtS xs).map D.str) := fun S1 g Q q =>
  h S1 g _ fun v S2 g2 t2 r => by
    cases r with
    | @dic a kvs _ hF hks rs =>
    refine ⟨a, kvs, xs, rfl, .of (g2.ok.sub _ _ hF), hks.trans hk, h64, fun ys b hp hs hb => ?_⟩
    cases srtS_of (hp.nodup_iff.mpr nd) hs fun j => hp.mem_iff
    exact q b _ ⟨S2.F, upd S2.H b (.lst ((srtS xs).map V.str)), S2.T⟩ (g2.trans (Gr.newO g2.ok hb)) t2 (g2.fresh hb) upd_same (g2.ok.freshF hb) (Rps.strs _)
/-- what is heard of a call by keywords of a def that may raise -/
theorem ed_heardEK {HC : Addr → Str → Prop} {n : Nat} {pre : List D → Prop} {f : List D → Option D} {C : Addr} {x word : Str} {tk : TA} {gV : List V → List V → List V} (h : EvA K p tk σ S zs) (hg : ∀ F vs, Rps K F vs zs → Rps K F (gV [] vs) ds) (hn : ds.length = n) (hp : pre ds) (hw : f ds = none → HC C word) :
    EvN K p (Lm.tLamT (LT.tabs K) (TTh K HC) fun E => tCallK (spE K n pre f C [("part", .str x)]) gV E tNil tk) σ S 0 (fun d => d = heardD (f ds) word x) := fun S1 g hb Q q' => by
  have q : ∀ v S2, Gr K p S1 S2 → S2.T ≤ S1.T → Rp K S2.F v (heardD (f ds) word x) → Q v S2.H := fun v S2 g2 t2 r => q' v _ S2 g2 t2 r rfl
  refine ⟨g.ok.tb.tabs, fun H1 ext tb no => ?_⟩
  have g1 := lam_gr g.ok ext tb fun a ps e => (no a ps e).elim id fun ⟨old, h⟩ => g.ok.tb.only a old h
  refine ⟨p, ⟨S1.F, H1, S1.T⟩, rfl, g1.ok, hb, fun S2 g2 t2 Q' E' hQ hE => h S2 (g.trans (g1.trans g2)) _ fun vs S3 g3 t3 rs => ?_⟩
  have t23 : S3.T ≤ S1.T := by have : S2.T ≤ S1.T := t2; omega
  have lift : ∀ {F' H' : Hp}, Gr K none ⟨S3.F, S3.H, 0⟩ ⟨F', H', 0⟩ → Gr K p S3 ⟨F', H', S3.T⟩ := fun {F' H'} g' =>
    Gr.up (S' := ⟨F', H', S3.T⟩) ⟨g'.ff, fun b o q np n => g'.hh b o q np n, g'.al, g'.old, ⟨g'.ok.sub, fun a e => (by cases e), g'.ok.nt, g'.ok.tb⟩⟩ g3.ok rfl
  refine ⟨S3.F, ds, ⟨g3.ok.sub, fun a e => (by cases e), g3.ok.nt, g3.ok.tb⟩, hg _ _ rs, hn, hp, fun d hd v F' H' g' rv => ?_, fun hnone dx F' H' g' hx => ?_⟩
  · refine hQ _ _ ⟨⟨F', H', S3.T⟩, d, rfl, g3.trans (lift g'), t3, rv, fun v' S4 g4 t4 rv' => q v' S4 (g1.trans (g2.trans (g3.trans ((lift g').trans g4)))) (by have : S4.T ≤ S3.T := t4; omega) ?_⟩
    rw [hd]
    exact rv'
  · refine hE _ _ _ ⟨⟨F', H', S3.T⟩, C, dx, x, word, rfl, g3.trans (lift g'), t3, rfl, rfl, hx, hw hnone, fun v' S4 g4 t4 rv' => q v' S4 (g1.trans (g2.trans (g3.trans ((lift g').trans g4)))) (by have : S4.T ≤ S3.T := t4; omega) ?_⟩
    rw [hnone]
    exact rv'
end
/-! ### a def whose last parameters have texts as defaults -/
section
open PySem PySem.Spec PyProof.Rows
variable {K : PySem.W.Frag} {x qual : Str} {st : Stmt} {f T : Addr} {oc : Value} {od an : Option Addr} {osl : Array (Option Value)} {kV doc pm cdv ct : Value} {ts : List Str}
abbrev FunT (K : PySem.W.Frag) (x qual : Str) (st : Stmt) (ts : List Str) (f : Addr) (fd : FuncData) : Prop := FunD K x qual (defArgs st) (defBody st) (defScope st) (ts.map V.str) [] f fd
theorem funT_mk (l : K.lookup f = some ⟨oc, od, .func (PySem.W.fnOf x qual (defArgs st) (defBody st) (defScope st) (.ref T) kV doc pm an cdv ct), osl⟩) (c : PySem.W.codeIn K cdv qual = true) (k : PySem.W.keepIn K (.ref f) = true) (t : KTup K T ts) (ne : ts ≠ []) :
    FunT K x qual st ts f (PySem.W.fnOf x qual (defArgs st) (defBody st) (defScope st) (.ref T) kV doc pm an cdv ct) := by
  obtain ⟨o, its, n, t1, _, t3, _, t5⟩ := t
  exact ⟨⟨oc, od, .ref T, kV, doc, pm, an, cdv, ct, osl, rfl, l, c, .inr ⟨fun z => ne (List.map_eq_nil_iff.mp z), T, o, its.toList, n, rfl, t1, by rw [Array.toArray_toList]; exact t3, t5⟩, .inl rfl⟩, k⟩
end
/-- raise C(x), x a name -/
def tRaiseV (K : PySem.W.Frag) (D C : Addr) (te : TE) (E : XK) : TS := fun _ σ H => tMkO C (spPart K D "part") [] (tCons te tNil) σ H fun cls d H' => E cls d H'
theorem ps_raiseV {X : Cx} {E : XK} {D fI C : Addr} {fd : FuncData} {n y : Str} {k : Nat} {te : TE} {p1 p2 p3 p4 : Pos} (hc : X.calm = true) (I : PartI X.prog X.K X.mg D fI fd) (R : RaiseI X.K D fI C) (hr : Room (k + 2) X.A) (tk : Takes X (fun cls d _ H => E cls d H)) (hg : Gl X n) (hm : X.mg n = some (.ref C)) (he : PE X (.Name y p2) te)
    (hdb : (n == ("__debug__" : Str)) = false := by decide) (hs : starEach [.Name y p2] X.env = (false, eval (.Name y p2) X.env) :: starEach [] X.env := by rfl) (hpl : (backTo p3 (starEach [] X.env)).any (·.1) = false := by rfl) :
    PS X (.Raise (some (.Call (.Name n p1) [.Name y p2] [] p3)) none p4) (tRaiseV X.K D C te E) :=
  ps_raise hc tk (pmk_oex (k := 1) R.S.T R.iC I.tI I.ok (hr.mono (by omega)) I.b .nil pass0 hg hm (pa_cons he pa_nil) hdb hs hpl)
end DL
/-! ## data that is shown; lists put together with draws; names -/
namespace DL
open PySem PySem.Spec PyProof.Rows L2
open Evl (Ex)
mutual
def dep : D → Nat
  | .lst xs => 1 + deps xs
  | .tup xs => 1 + deps xs
  | _ => 1
def deps : List D → Nat
  | [] => 0
  | x :: xs => max (dep x) (deps xs)
end
theorem deps_mem {es : List D} {e : D} (h : e ∈ es) : dep e ≤ deps es := by
  induction es with
  | nil => cases h
  | cons x xs ih =>
    simp only [deps]
    rcases List.mem_cons.mp h with rfl | h
    · omega
    · have := ih h; omega
/-- short texts of signs, small numbers, in lists and tuples -/
def okS (s : Str) : Bool := decide (s.length ≤ 400) && s.cps.toList.all fun c => decide (c < 0x110000)
mutual
def showy : D → Bool
  | .lst xs => showys xs
  | .tup xs => showys xs
  | .str s => okS s
  | .int i => decide (0 ≤ i) && decide (i < 100)
  | .non => true
  | .bl _ => true
  | .dic _ => false
  | .ins _ _ => false
  | .val _ => false
def showys : List D → Bool
  | [] => true
  | x :: xs => showy x && showys xs
end
theorem showys_all : ∀ xs : List D, showys xs = xs.all showy
  | [] => by simp [showys]
  | x :: xs => by simp [showys, showys_all xs]
theorem okS_str {s : Str} (h : okS s = true) : PyData.strOk s = true ∧ (PyData.shown (.str s)).length + 2 ≤ 4004 := by
  unfold okS at h
  rw [Bool.and_eq_true, decide_eq_true_eq, List.all_eq_true] at h
  obtain ⟨h1, h2⟩ := h
  have small : ∀ c ∈ s.cps.toList, c < 0x110000 := fun c hc => of_decide_eq_true (h2 c hc)
  refine ⟨?_, ?_⟩
  · unfold PyData.strOk
    rw [Array.all_eq_true]
    exact fun i hi => decide_eq_true (small _ (by simp))
  · have := StrLaws.reprText_len s fun c hc => Nat.lt_trans (small c hc) (by decide)
    show (reprText s).length + 2 ≤ 4004
    omega
theorem int_small : ∀ n : Fin 100, (PyData.shown (.int (n.val : Int))).length ≤ 2 := by decide +kernel
theorem int_log : ∀ n : Fin 100, (PyData.int (n.val : Int)).showable = true := by decide +kernel
theorem list_shown (ts : List Str) : (listText ts).length ≤ 2 + piled ts := by
  unfold listText
  rw [strLen_append]
  cases ts with
  | nil => decide
  | cons t r =>
    show (textFrom 1 ("[" ++ ("" : String) ++ t) r).length + 1 ≤ _
    rw [textFrom_length_pos r 1 _ (by decide), strLen_append, strLen_append, piled_cons]
    have e1 : ((("[" : String) : Str)).length = 1 := rfl
    have e2 : ((("" : String) : Str)).length = 0 := rfl
    rw [e1, e2]
    omega
theorem tup_shown (ts : List Str) : (tupleText ts).length ≤ 3 + piled ts := by
  unfold tupleText
  rw [strLen_append, strLen_append]
  have e1 : ((("(" : String) : Str)).length = 1 := rfl
  have e3 : (((if ts.length == 1 then ",)" else ")" : String) : Str)).length ≤ 2 := by split <;> decide
  have e2 : (Str.join ", " ts).length ≤ piled ts := by
    cases ts with
    | nil => decide
    | cons t r => have := join_length_add (t :: r) (by simp); omega
  omega
mutual
theorem showy_pl : ∀ d : D, showy d = true → d.pl = true ∧ d.py.showable = true ∧ d.py.canLay0 = true ∧ d.py.depth ≤ dep d ∧ d.py.shown.length + 2 ≤ 4004 * sz d
  | .non, _ => ⟨rfl, rfl, rfl, by simp [D.py, PyData.depth, dep], by simp only [sz]; decide⟩
  | .bl b, _ => ⟨rfl, rfl, rfl, by simp [D.py, PyData.depth, dep], by simp only [sz]; cases b <;> decide⟩
  | .int i, h => by
    simp only [showy, Bool.and_eq_true, decide_eq_true_eq] at h
    obtain ⟨n, rfl⟩ : ∃ n : Nat, i = n := ⟨i.toNat, by omega⟩
    have a := int_small ⟨n, by omega⟩
    have b := int_log ⟨n, by omega⟩
    dsimp only at a b
    exact ⟨rfl, b, rfl, by simp [D.py, PyData.depth, dep], by simp only [sz, D.py]; omega⟩
  | .str s, h => by
    obtain ⟨a, b⟩ := okS_str (show okS s = true by simpa [showy] using h)
    exact ⟨rfl, rfl, a, by simp [D.py, PyData.depth, dep], by simp only [sz, D.py]; omega⟩
  | .lst xs, h => by
    obtain ⟨a, b, c, d, e⟩ := showys_pl xs (by simpa [showy] using h)
    refine ⟨by simpa [D.pl] using a, by simpa [D.py, PyData.showable] using b, by simpa [D.py, PyData.canLay0] using c, by rw [D.py, PyData.depth, dep]; omega, ?_⟩
    have := list_shown (PyData.shownAll (D.pys xs))
    simp only [D.py, PyData.shown, sz]
    omega
  | .tup xs, h => by
    obtain ⟨a, b, c, d, e⟩ := showys_pl xs (by simpa [showy] using h)
    refine ⟨by simpa [D.pl] using a, by simpa [D.py, PyData.showable] using b, by simpa [D.py, PyData.canLay0] using c, by rw [D.py, PyData.depth, dep]; omega, ?_⟩
    have := tup_shown (PyData.shownAll (D.pys xs))
    simp only [D.py, PyData.shown, sz]
    omega
  | .dic _, h => by simp [showy] at h
  | .ins _ _, h => by simp [showy] at h
  | .val _, h => by simp [showy] at h
theorem showys_pl : ∀ xs : List D, showys xs = true → D.pls xs = true ∧ PyData.showableAll (D.pys xs) = true ∧ PyData.canLayAll0 (D.pys xs) = true ∧ PyData.depthAll (D.pys xs) ≤ deps xs ∧ piled (PyData.shownAll (D.pys xs)) ≤ 4004 * szs xs
  | [], _ => ⟨by simp [D.pls], by simp [D.pys, PyData.showableAll], by simp [D.pys, PyData.canLayAll0], by simp [D.pys, PyData.depthAll], by simp [D.pys, PyData.shownAll, piled]⟩
  | x :: xs, h => by
    simp only [showys, Bool.and_eq_true] at h
    obtain ⟨a, b, c, d, e⟩ := showy_pl x h.1
    obtain ⟨a2, b2, c2, d2, e2⟩ := showys_pl xs h.2
    refine ⟨by simp [D.pls, a, a2], by simp [D.pys, PyData.showableAll, b, b2], by simp [D.pys, PyData.canLayAll0, c, c2], by simp only [D.pys, PyData.depthAll, deps]; omega, ?_⟩
    simp only [D.pys, PyData.shownAll, szs]
    rw [piled_cons]
    omega
end
theorem showy_sh {d : D} (h : showy d = true) (hd : dep d ≤ 64) : d.sh = true := by
  obtain ⟨a, _, c, e, _⟩ := showy_pl d h
  unfold D.sh SeqAt.shaped
  simp only [a, c, Bool.true_and, decide_eq_true_eq]
  omega
section
variable {K : PySem.W.Frag} [LT K] {p : Option Addr} {S S0 S1 S2 S3 : Wd} {B : Hp} {σ σ' : L2.St} {te ta tb tc to : TE} {d d1 d2 d3 e : D} {ds es : List D} {v : V} {m M n k : Nat} {l l' : En} {i j : Nat} {t : Ty} {G : Ends}
/-- repr of a list that is shown -/
theorem rc_reprY (h : showy (.lst ds) = true) (hd : dep (.lst ds) ≤ 64) (hz : sz (.lst ds) ≤ 4000) : RC K p (rRepr K) [.lst ds] (.str (D.lst ds).py.shown) := by
  obtain ⟨a, b, c, e, f⟩ := showy_pl _ h
  exact rc_reprL a b c (by omega) (by rw [sizeLine_eq]; omega)
/-- xs + ys, lists that come of draws -/
theorem en_cat {PA PB : List D → Prop} (ha : EvN K p ta σ S n (fun d => ∃ xs, d = .lst xs ∧ PA xs)) (hb : EvN K p tb σ S k (fun d => ∃ ys, d = .lst ys ∧ PB ys)) (hz : ∀ xs ys, PA xs → PB ys → xs.length + ys.length ≤ sizeLine) :
    EvN K p (tOp (rAddU K) ta tb) σ S (n + k) (fun d => ∃ zs, d = .lst zs ∧ ∃ xs ys, PA xs ∧ PB ys ∧ zs = xs ++ ys) := fun S1 g hB Q q =>
  ha S1 g (by omega) _ fun u d1 S2 g2 t2 r2 h2 => hb S2 (g.trans g2) (by omega) _ fun v d2 S3 g3 t3 r3 h3 => by
    obtain ⟨xs, rfl, px⟩ := h2
    obtain ⟨ys, rfl, py⟩ := h3
    have r2 := r2.mono g3.ff
    cases r2 with
    | @lst a us _ fa ra =>
    cases r3 with
    | @lst b ws _ fb rb =>
    have e1 := ra.length
    have e2 := rb.length
    have := hz xs ys px py
    refine .inr (.inr (.inl ⟨a, b, us, ws, rfl, rfl, g3.ok.sub _ _ fa, g3.ok.sub _ _ fb, by omega, fun c hc => ?_⟩))
    have g4 := Gr.new (p := p) (o := .lst (us ++ ws)) g3.ok hc
    exact q (.ref c) (.lst (xs ++ ys)) _ ((g2.trans g3).trans g4) (by show S3.T ≤ _; omega) (.lst upd_same ((ra.append rb).mono g4.ff)) ⟨_, rfl, xs, ys, px, py, rfl⟩
theorem EvO.nl {ds : List D} (h : EvO K p te σ S ds) : EvN K p te σ S 0 (fun d => ∃ xs, d = .lst xs ∧ xs = ds) := (h.ed.toN).le (Nat.le_refl _) fun d e => ⟨ds, e, rfl⟩
end
/-! ### names -/
def words : List Str := ["both", "gives", "pick", "or", "nothing", "any", "no", "split", "call", "take", "open", "use", "never", "give", "box", "pair", "fun", "offer", "left", "right", "unit", "rest", "first", "second"]
def letters : Str := "abcdefghijklmnopqrstuvwxyz"
def isLet (c : Nat) : Bool := decide (c ∈ letters.cps.toList)
def isNameS (s : Str) : Bool := decide (1 ≤ s.length) && decide (s.length ≤ 8) && !words.contains s && s.cps.toList.all isLet
def isNameD : D → Bool
  | .str s => isNameS s
  | _ => false
/-- of a known kind, no text too long -/
def kns (d : D) : Prop := kn d ∧ ∀ s, d = .str s → s.length ≤ 1000000
def isLetD : D → Bool
  | .str s => s.cps.toList.all isLet
  | _ => false
theorem signs_let (s : Str) : (((signs s).filter fun _ => true).map fun d => .bl (isLetD d)) = (s.cps.toList.map isLet).map D.bl := by
  rw [List.filter_eq_self.mpr fun _ _ => rfl]
  unfold signs
  rw [List.map_map, List.map_map]
  congr 1
  funext c
  show D.bl ([c].all isLet) = D.bl (isLet c)
  rw [List.all_cons, List.all_nil, Bool.and_true]
def nameTest (s : Str) : Bool := false || (!(decide ((1 : Int) ≤ (s.length : Int)) && decide ((s.length : Int) ≤ 8)) || inD (.str s) (words.map D.str))
theorem nameTest_eq (s : Str) : nameTest s = !(decide (1 ≤ s.length) && decide (s.length ≤ 8) && !words.contains s) := by
  unfold nameTest
  rw [inD_str, show decide ((1 : Int) ≤ (s.length : Int)) = decide (1 ≤ s.length) from decide_eq_decide.mpr (by omega), show decide ((s.length : Int) ≤ 8) = decide (s.length ≤ 8) from decide_eq_decide.mpr (by omega)]
  cases decide (1 ≤ s.length) <;> cases decide (s.length ≤ 8) <;> cases words.contains s <;> rfl
theorem name_no {s : Str} (h : nameTest s = true) : isNameS s = false := by
  rw [nameTest_eq] at h
  unfold isNameS
  cases q : (decide (1 ≤ s.length) && decide (s.length ≤ 8) && !words.contains s)
  · rfl
  · rw [q] at h; cases h
theorem name_yes {s : Str} (h : nameTest s = false) : isNameS s = s.cps.toList.all isLet := by
  rw [nameTest_eq] at h
  unfold isNameS
  cases q : (decide (1 ≤ s.length) && decide (s.length ≤ 8) && !words.contains s)
  · rw [q] at h; cases h
  · rfl
theorem signs_mem {s : Str} {d : D} (h : d ∈ signs s) : ∃ c, d = .str ⟨#[c]⟩ := by
  obtain ⟨c, _, e⟩ := List.mem_map.mp h
  exact ⟨c, e.symm⟩
theorem signs_len {s : Str} {n : Nat} (h : s.length < n) : (signs s).length < n := by
  unfold signs
  rw [List.length_map]
  exact h
end DL
/-! ## statements, plainly -/
namespace DL
open PySem PySem.Spec PyProof.Rows L2
open Evl (Ex)
def bareL : List Str := ["nothing", "any", "no"]
def joinL : List Str := ["both", "gives", "pick", "or"]
def atomS (s : Str) : Bool := bareL.contains s || isNameS s
mutual
/-- a statement's form -/
def stm : D → Bool
  | .str s => atomS s
  | .lst xs => stmR xs
  | .tup xs => stmR xs
  | _ => false
def stmR : List D → Bool
  | [.str j, p, q] => joinL.contains j && (stm p && stm q)
  | _ => false
end
mutual
/-- how many parts -/
def sizeS : D → Nat
  | .lst xs => sizeR xs
  | .tup xs => sizeR xs
  | _ => 1
def sizeR : List D → Nat
  | [.str _, p, q] => 1 + sizeS p + sizeS q
  | _ => 1
end
mutual
/-- itself and all within -/
def partsS : D → List D
  | .lst xs => .lst xs :: partsR xs
  | .tup xs => .tup xs :: partsR xs
  | .str s => [.str s]
  | _ => []
def partsR : List D → List D
  | [.str _, p, q] => partsS p ++ partsS q
  | _ => []
end
mutual
/-- texts short, kinds known -/
def mild : D → Bool
  | .lst xs => milds xs
  | .tup xs => milds xs
  | .str s => decide (s.length ≤ 400)
  | .non => true
  | .bl _ => true
  | .int _ => true
  | .dic _ => true
  | .ins _ _ => false
  | .val _ => false
def milds : List D → Bool
  | [] => true
  | x :: xs => mild x && milds xs
end
theorem milds_mem : ∀ {es : List D}, milds es = true → ∀ e ∈ es, mild e = true
  | [], _, e, h => by cases h
  | x :: xs, f, e, h => by
    rw [milds, Bool.and_eq_true] at f
    rcases List.mem_cons.mp h with rfl | h
    · exact f.1
    · exact milds_mem f.2 e h
theorem mild_row {d : D} {es : List D} (h : rowD d = some es) (f : mild d = true) : milds es = true := by
  cases d <;> simp only [rowD, Option.some.injEq, reduceCtorEq] at h <;> subst h <;> simpa only [mild] using f
mutual
theorem mild_fine : ∀ d : D, mild d = true → fine d = true
  | .lst xs, h => by simpa only [fine] using milds_fine xs (by simpa only [mild] using h)
  | .tup xs, h => by simpa only [fine] using milds_fine xs (by simpa only [mild] using h)
  | .str _, _ => by simp only [fine]
  | .non, _ => by simp only [fine]
  | .bl _, _ => by simp only [fine]
  | .int _, _ => by simp only [fine]
  | .dic _, _ => by simp only [fine]
  | .ins _ _, h => by simp [mild] at h
  | .val _, h => by simp [mild] at h
theorem milds_fine : ∀ xs : List D, milds xs = true → fines xs = true
  | [], _ => by simp only [fines]
  | x :: xs, h => by
    simp only [milds, Bool.and_eq_true] at h
    simp only [fines, mild_fine x h.1, milds_fine xs h.2, Bool.and_self]
end
theorem mild_kns {d : D} (h : mild d = true) : kns d := ⟨fine_kn (mild_fine d h), fun s e => by
  subst e
  simp only [mild, decide_eq_true_eq] at h
  omega⟩
theorem stm_row {d : D} {es : List D} (h : rowD d = some es) : stm d = stmR es := by
  cases d <;> simp only [rowD, Option.some.injEq, reduceCtorEq] at h <;> subst h <;> simp only [stm]
theorem size_row {d : D} {es : List D} (h : rowD d = some es) : sizeS d = sizeR es := by
  cases d <;> simp only [rowD, Option.some.injEq, reduceCtorEq] at h <;> subst h <;> simp only [sizeS]
theorem parts_row {d : D} {es : List D} (h : rowD d = some es) : partsS d = d :: partsR es := by
  cases d <;> simp only [rowD, Option.some.injEq, reduceCtorEq] at h <;> subst h <;> simp only [partsS]
/-- a row of three, a join ahead -/
def join3 (es : List D) : Option (Str × D × D) := match es with
  | [.str j, p, q] => some (j, p, q)
  | _ => none
theorem join3_of {es : List D} {j : Str} {p q : D} (h : join3 es = some (j, p, q)) : es = [.str j, p, q] := by
  unfold join3 at h
  split at h
  · cases h; rfl
  · cases h
theorem stmR_no {es : List D} (h : join3 es = none) : stmR es = false := by
  unfold join3 at h
  split at h
  · cases h
  · rename_i no
    unfold stmR
    split
    · exact absurd rfl (no _ _ _)
    · rfl
theorem stm_cases {d : D} (h : stm d = true) : (∃ s, d = .str s ∧ atomS s = true) ∨ ∃ j p q, rowD d = some [.str j, p, q] ∧ joinL.contains j = true ∧ stm p = true ∧ stm q = true := by
  have row : ∀ es, rowD d = some es → ∃ j p q, rowD d = some [.str j, p, q] ∧ joinL.contains j = true ∧ stm p = true ∧ stm q = true := fun es he => by
    rw [stm_row he] at h
    cases e : join3 es with
    | none => rw [stmR_no e] at h; cases h
    | some t =>
      obtain ⟨j, p, q⟩ := t
      have := join3_of e
      subst this
      simp only [stmR, Bool.and_eq_true] at h
      exact ⟨j, p, q, he, h.1, h.2.1, h.2.2⟩
  cases d with
  | str s => exact .inl ⟨s, rfl, by simpa only [stm] using h⟩
  | lst xs => exact .inr (row xs rfl)
  | tup xs => exact .inr (row xs rfl)
  | _ => simp [stm] at h
/-- by what a statement is -/
theorem stm_ind {motive : D → Prop} (atom : ∀ s, atomS s = true → motive (.str s)) (join : ∀ d j p q, rowD d = some [.str j, p, q] → joinL.contains j = true → stm p = true → stm q = true → motive p → motive q → motive d) : ∀ n d, sz d ≤ n → stm d = true → motive d
  | 0, d, hz, _ => by have := sz_pos d; omega
  | n + 1, d, hz, h => by
    rcases stm_cases h with ⟨s, rfl, hs⟩ | ⟨j, p, q, hd, hj, hp, hq⟩
    · exact atom s hs
    · have := row_sz hd
      simp only [szs, sz] at this
      exact join d j p q hd hj hp hq (stm_ind atom join n p (by omega) hp) (stm_ind atom join n q (by omega) hq)
theorem size_pos (d : D) : 1 ≤ sizeS d := by
  have row : ∀ es : List D, 1 ≤ sizeR es := fun es => by
    unfold sizeR
    split <;> omega
  cases d <;> simp only [sizeS] <;> first | exact row _ | exact Nat.le_refl _
theorem size_join {d p q : D} {j : Str} (h : rowD d = some [.str j, p, q]) : sizeS d = 1 + sizeS p + sizeS q := by rw [size_row h]; simp only [sizeR]
theorem parts_join {d p q : D} {j : Str} (h : rowD d = some [.str j, p, q]) : partsS d = d :: (partsS p ++ partsS q) := by rw [parts_row h]; simp only [partsR]
theorem stm_join {d p q : D} {j : Str} (h : rowD d = some [.str j, p, q]) : stm d = (joinL.contains j && (stm p && stm q)) := by rw [stm_row h]; simp only [stmR]
theorem fix_join {d p q : D} {j : Str} (h : rowD d = some [.str j, p, q]) : fixD d = .tup [.str j, fixD p, fixD q] := by rw [fixD_row h]; simp [fixD]
theorem parts_len {d : D} (h : stm d = true) : (partsS d).length = sizeS d := by
  refine stm_ind (motive := fun d => (partsS d).length = sizeS d) (fun s _ => by simp [partsS, sizeS]) (fun d j p q hd _ _ _ h1 h2 => ?_) _ d (Nat.le_refl _) h
  rw [parts_join hd, size_join hd, List.length_cons, List.length_append, h1, h2]
  omega
theorem parts_stm {d : D} (h : stm d = true) : ∀ x ∈ partsS d, stm x = true := by
  refine stm_ind (motive := fun d => ∀ x ∈ partsS d, stm x = true) (fun s hs x hx => ?_) (fun d j p q hd hj hp hq h1 h2 x hx => ?_) _ d (Nat.le_refl _) h
  · simp only [partsS, List.mem_singleton] at hx
    rw [hx]
    simpa only [stm] using hs
  · rw [parts_join hd, List.mem_cons, List.mem_append] at hx
    rcases hx with rfl | hx | hx
    · rw [stm_join hd, hj, hp, hq]; rfl
    · exact h1 x hx
    · exact h2 x hx
theorem parts_mild {d : D} (h : stm d = true) (hm : mild d = true) : ∀ x ∈ partsS d, mild x = true := by
  refine (stm_ind (motive := fun d => mild d = true → ∀ x ∈ partsS d, mild x = true) (fun s hs hm x hx => ?_) (fun d j p q hd hj hp hq h1 h2 hm x hx => ?_) _ d (Nat.le_refl _) h) hm
  · simp only [partsS, List.mem_singleton] at hx
    rw [hx]
    exact hm
  · have ms := mild_row hd hm
    simp only [milds, Bool.and_eq_true, Bool.and_true] at ms
    rw [parts_join hd, List.mem_cons, List.mem_append] at hx
    rcases hx with rfl | hx | hx
    · exact hm
    · exact h1 ms.2.1 x hx
    · exact h2 ms.2.2 x hx
theorem fix_stm : ∀ n d, sz d ≤ n → stm (fixD d) = stm d ∧ sizeS (fixD d) = sizeS d
  | 0, d, hz => by have := sz_pos d; omega
  | n + 1, d, hz => by
    cases hr : rowD d with
    | none => rw [fixD_leaf hr]; exact ⟨rfl, rfl⟩
    | some es =>
      have zd := row_sz hr
      cases e : join3 es with
      | some t =>
        obtain ⟨j, p, q⟩ := t
        have := join3_of e
        subst this
        simp only [szs, sz] at zd
        obtain ⟨a1, a2⟩ := fix_stm n p (by omega)
        obtain ⟨b1, b2⟩ := fix_stm n q (by omega)
        have hf : rowD (fixD d) = some [.str j, fixD p, fixD q] := by rw [fix_join hr]; rfl
        rw [stm_join hf, stm_join hr, size_join hf, size_join hr, a1, a2, b1, b2]
        exact ⟨rfl, rfl⟩
      | none =>
        have hf : rowD (fixD d) = some (es.map fixD) := by rw [fixD_row hr]; rfl
        have e2 : join3 (es.map fixD) = none := by
          cases e3 : join3 (es.map fixD) with
          | none => rfl
          | some t =>
            exfalso
            obtain ⟨j, p, q⟩ := t
            have z := join3_of e3
            match es, z, e with
            | [x, y, w], z, e =>
              simp only [List.map_cons, List.map_nil, List.cons.injEq, and_true] at z
              obtain ⟨z, _⟩ := z
              cases x <;> simp [fixD] at z
              simp [join3] at e
            | [], z, _ => simp at z
            | [_], z, _ => simp at z
            | [_, _], z, _ => simp at z
            | _ :: _ :: _ :: _ :: _, z, _ => simp at z
        have s1 : ∀ xs : List D, join3 xs = none → sizeR xs = 1 := fun xs h => by
          unfold join3 at h
          split at h
          · cases h
          · rename_i no
            unfold sizeR
            split
            · exact absurd rfl (no _ _ _)
            · rfl
        rw [stm_row hr, stm_row hf, stmR_no e, stmR_no e2, size_row hr, size_row hf, s1 _ e, s1 _ e2]
        exact ⟨rfl, rfl⟩
/-! ### kinds, texts -/
/-- a kind: a text that is none of nothing, any, no -/
def kindOf : D → Option Str
  | .str s => if bareL.contains s then none else some s
  | _ => none
def kindsOf (ds : List D) : List Str := ds.filterMap kindOf
def kindsT (ds : List D) : D := .tup ((srtS (kindsOf ds)).map D.str)
def wordOf (d : D) : Str := match d with
  | .str s => s
  | d => match rowD d with
    | some (.str j :: _) => j
    | _ => Str.empty
def textS (d : D) : Str := Txt.join " " ((partsS d).map wordOf)
theorem join_short (a : Str) : ∀ ys : List Str, (Str.join a ys).length ≤ (ys.map (·.length)).sum + ys.length * a.length
  | [] => Nat.zero_le _
  | [x] => by simp [Str.join]
  | x :: y :: r => by
    have ih := join_short a (y :: r)
    show (x ++ a ++ Str.join a (y :: r)).length ≤ _
    rw [strLen_append, strLen_append]
    simp only [List.map_cons, List.sum_cons, List.length_cons] at ih ⊢
    have : (r.length + 1 + 1) * a.length = (r.length + 1) * a.length + a.length := by rw [Nat.succ_mul]
    omega
theorem cps_append (x y : Str) : (x ++ y).cps.toList = x.cps.toList ++ y.cps.toList := by
  cases x; cases y
  exact Array.toList_append
theorem join_signs (a : Str) (f : Nat → Bool) (ha : a.cps.toList.all f = true) : ∀ ys : List Str, (∀ y ∈ ys, y.cps.toList.all f = true) → (Str.join a ys).cps.toList.all f = true
  | [], _ => rfl
  | [x], h => h x List.mem_cons_self
  | x :: y :: r, h => by
    have ih := join_signs a f ha (y :: r) fun z hz => h z (List.mem_cons_of_mem _ hz)
    show (x ++ a ++ Str.join a (y :: r)).cps.toList.all f = true
    rw [cps_append, cps_append, List.all_append, List.all_append, h x List.mem_cons_self, ha, ih]
    rfl
theorem okS_join {ys : List Str} (h : ∀ y ∈ ys, y.length ≤ 8 ∧ okS y = true) (few : ys.length ≤ 40) : okS (Txt.join " " ys) = true ∧ (ys.map (·.length)).sum + ys.length * (" " : Str).length ≤ 16777216 := by
  have sum : (ys.map (·.length)).sum ≤ ys.length * 8 := by
    clear few
    induction ys with
    | nil => exact Nat.le_refl _
    | cons y ys ih =>
      have := ih fun z hz => h z (List.mem_cons_of_mem _ hz)
      have := (h y List.mem_cons_self).1
      simp only [List.map_cons, List.sum_cons, List.length_cons]
      omega
  have one : ((" " : String) : Str).length = 1 := rfl
  have s1 := join_short " " ys
  rw [one] at s1 ⊢
  refine ⟨?_, by omega⟩
  rw [TL.join_eq]
  unfold okS
  rw [Bool.and_eq_true, decide_eq_true_eq]
  refine ⟨by omega, join_signs " " (fun c => decide (c < 0x110000)) (by decide) ys fun y hy => ?_⟩
  have := (h y hy).2
  unfold okS at this
  rw [Bool.and_eq_true] at this
  exact this.2
/-! ### statements that are drawn: tuples over known words -/
def atomsL : List Str := ["coin", "tea", "a", "b", "abcdefgh", "nothing", "any", "no"]
inductive Drn : D → Nat → Prop where
  | atom {s : Str} : s ∈ atomsL → Drn (.str s) 1
  | join {j : Str} {p q : D} {n m : Nat} : j ∈ joinL → Drn p n → Drn q m → Drn (.tup [.str j, p, q]) (1 + n + m)
theorem word_ok : ∀ s ∈ atomsL ++ joinL, s.length ≤ 8 ∧ okS s = true := by
  have : ((atomsL ++ joinL).all fun s => decide (s.length ≤ 8) && okS s) = true := by decide +kernel
  rw [List.all_eq_true] at this
  intro s hs
  simpa using this s hs
theorem atom_ok : ∀ s ∈ atomsL, atomS s = true := by
  have : (atomsL.all atomS) = true := by decide +kernel
  exact List.all_eq_true.mp this
theorem Drn.pos {d : D} {n : Nat} (h : Drn d n) : 1 ≤ n := by cases h <;> omega
theorem Drn.row {j : Str} {p q : D} : rowD (.tup [.str j, p, q]) = some [.str j, p, q] := rfl
theorem Drn.stm {d : D} {n : Nat} (h : Drn d n) : stm d = true := by
  induction h with
  | atom hs => simpa only [DL.stm] using atom_ok _ hs
  | join hj _ _ h1 h2 =>
    rw [stm_join Drn.row, h1, h2]
    simpa using hj
theorem Drn.size {d : D} {n : Nat} (h : Drn d n) : sizeS d = n := by
  induction h with
  | atom => simp [sizeS]
  | join _ _ _ h1 h2 => rw [size_join Drn.row, h1, h2]
theorem Drn.fix {d : D} {n : Nat} (h : Drn d n) : fixD d = d := by
  induction h with
  | atom => simp [fixD]
  | join _ _ _ h1 h2 => rw [fix_join Drn.row, h1, h2]
theorem Drn.mild {d : D} {n : Nat} (h : Drn d n) : mild d = true := by
  induction h with
  | atom hs =>
    have := (word_ok _ (List.mem_append_left _ hs)).1
    simp only [DL.mild, decide_eq_true_eq]
    omega
  | join hj _ _ h1 h2 =>
    have := (word_ok _ (List.mem_append_right _ hj)).1
    simp only [DL.mild, milds, h1, h2, Bool.and_true, decide_eq_true_eq]
    omega
theorem Drn.showy {d : D} {n : Nat} (h : Drn d n) : showy d = true := by
  induction h with
  | atom hs => simpa only [DL.showy] using (word_ok _ (List.mem_append_left _ hs)).2
  | join hj _ _ h1 h2 => simp only [DL.showy, showys, h1, h2, (word_ok _ (List.mem_append_right _ hj)).2, Bool.and_self]
theorem Drn.sz {d : D} {n : Nat} (h : Drn d n) : sz d + 1 ≤ 2 * n := by
  induction h with
  | atom => simp [DL.sz]
  | join _ h1 h2 a b => simp only [DL.sz, szs]; have := h1.pos; have := h2.pos; omega
theorem Drn.dep {d : D} {n : Nat} (h : Drn d n) : 2 * dep d ≤ n + 1 := by
  induction h with
  | atom => simp [DL.dep]
  | join _ h1 h2 a b => simp only [DL.dep, deps]; have := h1.pos; have := h2.pos; omega
theorem Drn.parts {d : D} {n : Nat} (h : Drn d n) : ∀ x ∈ partsS d, ∃ m, m ≤ n ∧ Drn x m := by
  induction h with
  | atom hs =>
    intro x hx
    simp only [partsS, List.mem_singleton] at hx
    exact ⟨1, Nat.le_refl _, hx ▸ .atom hs⟩
  | @join j p q n m hj g1 g2 h1 h2 =>
    intro x hx
    rw [parts_join Drn.row, List.mem_cons, List.mem_append] at hx
    rcases hx with rfl | hx | hx
    · exact ⟨_, Nat.le_refl _, .join hj g1 g2⟩
    · obtain ⟨k, hk, g⟩ := h1 x hx; exact ⟨k, by omega, g⟩
    · obtain ⟨k, hk, g⟩ := h2 x hx; exact ⟨k, by omega, g⟩
theorem Drn.word {d : D} {n : Nat} (h : Drn d n) : wordOf d ∈ atomsL ++ joinL := by
  cases h with
  | atom hs => exact List.mem_append_left _ hs
  | join hj => exact List.mem_append_right _ hj
theorem Drn.text {d : D} {n : Nat} (h : Drn d n) (few : n ≤ 40) : okS (textS d) = true ∧ (((partsS d).map wordOf).map (·.length)).sum + ((partsS d).map wordOf).length * (" " : Str).length ≤ 16777216 := by
  refine okS_join (fun y hy => ?_) (by rw [List.length_map, parts_len h.stm, h.size]; exact few)
  obtain ⟨x, hx, rfl⟩ := List.mem_map.mp hy
  obtain ⟨m, _, g⟩ := h.parts x hx
  exact word_ok _ g.word
end DL
/-! ## instances of own classes: made once, then lasting -/
namespace DL
open PySem L2
open C8 (InsC)
open Evl (Ex)
/-- what a def that may raise comes to -/
inductive Out (α : Type) where
  | ok (a : α)
  | no (C : Addr) (fs : List (Str × V))
/-- what the layer asks of a class -/
structure KCls (K : PySem.W.Frag) (C : Addr) : Prop where
  i : InsC K C
  non : PySem.W.kitOne K (.type "NoneType") (.ref C) = some false
  bl : PySem.W.kitOne K (.type "bool") (.ref C) = some false
  int : PySem.W.kitOne K (.type "int") (.ref C) = some false
  str : PySem.W.kitOne K (.type "str") (.ref C) = some false
  lst : PySem.W.kitOne K (.type "list") (.ref C) = some false
  tup : PySem.W.kitOne K (.type "tuple") (.ref C) = some false
  dic : PySem.W.kitOne K (.type "dict") (.ref C) = some false
theorem KCls.kit {K : PySem.W.Frag} {C : Addr} {T : String} {d : D} (c : KCls K C) (h : tyD d = some T) : PySem.W.kitOne K (.type T) (.ref C) = some false := by
  cases d <;> cases h
  · exact c.non
  · exact c.bl
  · exact c.int
  · exact c.str
  · exact c.lst
  · exact c.tup
  · exact c.dic
/-- an instance of the class at C -/
def isC (C : Addr) : D → Bool
  | .ins C' _ => decide (C' = C)
  | _ => false
theorem fld_rel {K : PySem.W.Frag} {F : Hp} {x : Str} : ∀ {fs : List (Str × V)} {fds : List (Str × D)}, fs.map (·.1) = fds.map (·.1) → Rps K F (fs.map (·.2)) (fds.map (·.2)) →
    (∀ d, fds.lookup x = some d → ∃ v, fs.lookup x = some v ∧ Rp K F v d) ∧ (fds.lookup x = none → fs.lookup x = none)
  | [], [], _, _ => ⟨fun d h => (by cases h), fun _ => rfl⟩
  | [], _ :: _, h, _ => (by cases h)
  | _ :: _, [], h, _ => (by cases h)
  | (k, v) :: fs, (k', d') :: fds, h, r => by
    simp only [List.map_cons, List.cons.injEq] at h
    obtain ⟨rfl, h⟩ := h
    simp only [List.map_cons] at r
    cases r with
    | cons r1 r2 =>
    obtain ⟨a, b⟩ := fld_rel (x := x) h r2
    rw [List.lookup_cons, List.lookup_cons]
    by_cases e : (x == k) = true
    · rw [e]
      exact ⟨fun d hd => ⟨v, rfl, (by cases hd; exact r1)⟩, fun z => (by cases z)⟩
    · rw [Bool.not_eq_true] at e
      rw [e]
      exact ⟨a, b⟩
section
variable {K : PySem.W.Frag} [LT K] {p : Option Addr} {S S0 S1 S2 : Wd} {B : Hp} {σ : L2.St} {te ta tb : TE} {d d1 d2 e : D} {ds es : List D} {n m M i : Nat} {C f x dx : Addr} {fds : List (Str × D)} {g : Str} {l : En} {G : Ends} {E : XK}
/-- isinstance(v, C) of an instance of C -/
theorem ed_isCT (c : InsC K C) (h : EvH K p te σ S (.ins C fds)) : EvD K p (tCB (rIsi K) (tCons te (tCons (tC (.ref C)) tNil))) σ S (.bl true) := fun S1 g Q q => h S1 g _ fun v S2 g2 t2 r => by
  cases r with
  | ins hF hk hr => exact ⟨_, .ref C, .ref C, .ref C, true, rfl, .own C, .base (.ins (hide_ex _ _ hF) c.cl c.ha c.hn c.htk c.hm), c.me, q _ S2 g2 t2 (.bl true)⟩
/-- isinstance(v, C) of other data -/
theorem ed_isCF (c : KCls K C) (h : EvH K p te σ S d) (hk : kn d) : EvD K p (tCB (rIsi K) (tCons te (tCons (tC (.ref C)) tNil))) σ S (.bl false) := fun S1 g Q q => h S1 g _ fun v S2 g2 t2 r => by
  cases e : tyD d with
  | none => exact absurd e hk
  | some T => exact ⟨_, .ref C, .type T, .ref C, false, rfl, .own C, tyX_rp (r.mono hide_ex) e, c.kit e, q _ S2 g2 t2 (.bl false)⟩
/-- o.g of a lasting instance -/
theorem ed_fld (h : EvD K p te σ S (.ins C fds)) (c : Cls K C) (no : NoAttr K C g) (hl : fds.lookup g = some d) : EvD K p (tFld K te g) σ S d := fun S1 g1 Q q => h S1 g1 _ fun v S2 g2 t2 r => by
  cases r with
  | @ins a _ dx fs _ hF hk hr =>
    obtain ⟨u, e1, e2⟩ := (fld_rel hk hr).1 d hl
    exact ⟨a, C, dx, fs, u, rfl, g2.ok.sub _ _ hF, c, no, e1, q u S2 g2 t2 e2⟩
/-- o.g(..), a method that reads -/
theorem ed_meth {pre : List D → Prop} {fn : List D → D} {t : TA} (h : EvD K p te σ S (.ins C fds)) (hl : fds.lookup g = none) (ha : EvA K p t σ S ds) (hn : (D.ins C fds :: ds).length = n) (hp : pre (.ins C fds :: ds)) : EvD K p (tMeth C g (spP K n pre fn) [] E te t) σ S (fn (.ins C fds :: ds)) := fun S1 g1 Q q => h S1 g1 _ fun v S2 g2 t2 r => by
  cases r with
  | @ins a _ dx fs _ hF hk hr =>
    refine ⟨a, dx, fs, rfl, g2.ok.sub _ _ hF, (fld_rel hk hr).2 hl, ha S2 (g1.trans g2) _ fun vs S3 g3 t3 rs => ?_⟩
    rw [List.append_nil]
    refine ⟨S3.F, D.ins C fds :: ds, ⟨g3.ok.sub, fun a e => (by cases e), g3.ok.nt, g3.ok.tb⟩, .cons ((Rp.ins hF hk hr).mono g3.ff) rs, hn, hp, fun v F' H' g' r' => ?_⟩
    have g4 : Gr K none S3 ⟨F', H', S3.T⟩ := ⟨g'.ff, fun b o q np n => g'.hh b o q np n, g'.al, g'.old, ⟨g'.ok.sub, fun a e => (by cases e), g'.ok.nt, g'.ok.tb⟩⟩
    exact q v ⟨F', H', S3.T⟩ (g2.trans (g3.trans (g4.up g3.ok rfl))) (by show S3.T ≤ S1.T; omega) r'
/-! ### making -/
/-- what a class's __init__ promises: the fields, or an exception -/
def spM (K : PySem.W.Frag) [LT K] (C : Addr) (n : Nat) (pre : List D → Prop) (fn : List D → Out (List (Str × D))) : Sp := fun vs H Q E => ∃ (F H1 : Hp) (us : List V) (ds : List D) (x dx : Addr), vs = .ref x :: us ∧ H1 x = none ∧ H1 dx = none ∧ dx ≠ x ∧ H = upd (upd H1 dx (.own x)) x (.ins C dx []) ∧
  Ok K none ⟨F, H1, 0⟩ ∧ Rps K F us ds ∧ ds.length = n ∧ pre ds ∧
  (∀ fds, fn ds = .ok fds → ∀ F' H' ws, Gr K none ⟨F, H1, 0⟩ ⟨F', H', 0⟩ → F' x = none → H' x = some (.ins C dx ws) → ws.map (·.1) = fds.map (·.1) → Rps K F' (ws.map (·.2)) (fds.map (·.2)) → Q .non H') ∧
  (∀ CE fs, fn ds = .no CE fs → ∀ dy F' H', Gr K none ⟨F, H1, 0⟩ ⟨F', H', 0⟩ → H' dy = some (.xd fs) → E (.ref CE) (some dy) H')
theorem spM_len {pre : List D → Prop} {fn : List D → Out (List (Str × D))} {vs : List V} {H : Hp} {Q : VK} (h : spM K C n pre fn vs H Q E) : vs.length = n + 1 := by
  obtain ⟨F, H1, us, ds, x, dx, rfl, _, _, _, _, _, r, hn, _⟩ := h
  rw [List.length_cons, r.length, hn]
theorem make_lift {H' F' : Hp} (g' : Gr K none ⟨S.F, S.H, 0⟩ ⟨F', H', 0⟩) (ok : Ok K p S) : Gr K p S ⟨F', H', S.T⟩ :=
  Gr.up (S' := ⟨F', H', S.T⟩) ⟨g'.ff, fun b o q np n => g'.hh b o q np n, g'.al, g'.old, ⟨g'.ok.sub, fun a e => (by cases e), g'.ok.nt, g'.ok.tb⟩⟩ ok rfl
/-- C(..) that raises nothing -/
theorem ed_make {pre : List D → Prop} {fn : List D → Out (List (Str × D))} {t : TA} (h : EvA K p t σ S ds) (hn : ds.length = n) (hp : pre ds) (hf : fn ds = .ok fds) : EvD K p (tMake C (spM K C n pre fn) [] E t) σ S (.ins C fds) := fun S1 g Q q =>
  h S1 g _ fun vs S2 g2 t2 rs x dx hx hdx hne => by
    refine ⟨S2.F, S2.H, vs ++ [], ds, x, dx, rfl, hx, hdx, hne, rfl, ⟨g2.ok.sub, fun a e => (by cases e), g2.ok.nt, g2.ok.tb⟩, by rw [List.append_nil]; exact rs, hn, hp, fun fds' he F' H' ws g' hF hH hk hr => ?_, fun CE fs z => by rw [hf] at z; cases z⟩
    cases hf.symm.trans he
    have g4 := make_lift g' g2.ok
    exact ⟨rfl, q (.ref x) ⟨upd F' x (.ins C dx ws), H', S2.T⟩ (g2.trans (g4.fix hx hH hF (ok_ne g2.ok hx))) t2 (.ins upd_same hk (hr.mono (Ex.new hF)))⟩
/-- C(k = .., ..) -/
theorem ed_makeN {pre : List D → Prop} {fn : List D → Out (List (Str × D))} {t tk : TA} {zs : List D} {a b : Nat} {gV : List V → List V → List V} (h : EvA K p t σ S ds) (hk : EvA K p tk σ S zs) (la : ds.length = a) (lb : zs.length = b)
    (hg : ∀ (F : Hp) (x : V) (us ws : List V), Rps K F us ds → Rps K F ws zs → ∃ vs, gV (x :: us) ws = x :: vs ∧ Rps K F vs es) (hn : es.length = n) (hp : pre es) (hf : fn es = .ok fds) : EvD K p (tMakeN C a b (spM K C n pre fn) gV E t tk) σ S (.ins C fds) := fun S1 g Q q =>
  h S1 g _ fun us S2 g2 t2 rs => hk S2 (g.trans g2) _ fun ws S3 g3 t3 rz => by
    refine ⟨rs.length.trans la, rz.length.trans lb, fun x dx hx hdx hne => ?_⟩
    obtain ⟨vs, e1, e2⟩ := hg S3.F (.ref x) us ws (rs.mono g3.ff) rz
    rw [e1]
    refine ⟨S3.F, S3.H, vs, es, x, dx, rfl, hx, hdx, hne, rfl, ⟨g3.ok.sub, fun a e => (by cases e), g3.ok.nt, g3.ok.tb⟩, e2, hn, hp, fun fds' he F' H' ws g' hF hH hk hr => ?_, fun CE fs z => by rw [hf] at z; cases z⟩
    cases hf.symm.trans he
    have g4 := make_lift g' g3.ok
    exact ⟨rfl, q (.ref x) ⟨upd F' x (.ins C dx ws), H', S3.T⟩ (g2.trans (g3.trans (g4.fix hx hH hF (ok_ne g3.ok hx)))) (by show S3.T ≤ S1.T; omega) (.ins upd_same hk (hr.mono (Ex.new hF)))⟩
/-! ### within __init__: the instance at x is not lasting yet -/
structure Ini (K : PySem.W.Frag) [LT K] (S1 S : Wd) (x C dx : Addr) (fds : List (Str × D)) (m : Nat) (σ : L2.St) (l : En) : Prop where
  ok1 : Ok K none S1
  g : Gr K none S1 S
  t : S.T ≤ S1.T
  n1 : S1.H x = none
  hF : S.F x = none
  has : ∃ ws : List (Str × V), S.H x = some (.ins C dx ws) ∧ ws.map (·.1) = fds.map (·.1) ∧ Rps K S.F (ws.map (·.2)) (fds.map (·.2))
  st : Sta K none S S.F m 0 0 σ S l
/-- behind a statement that knows nothing of the instance -/
theorem Ini.next {σ' : L2.St} {l' : En} (h : Ini K S1 S x C dx fds m σ l) (s : Sta K none S S.F m 0 0 σ' S2 l') (no : l'.all (fun q => !q.2.ow) = true) : Ini K S1 S2 x C dx fds m σ' l' := by
  obtain ⟨ws, h1, h2, h3⟩ := h.has
  have tn := s.tn
  have tb := h.st.tb
  have t := h.t
  have r := s.rebase no (M' := 0) (by omega)
  exact ⟨h.ok1, h.g.trans s.g, by omega, h.n1, (s.g.old x (by rw [h1]; simp)).trans h.hF, ⟨ws, s.g.hh x _ h1 (by simp), h2, h3.mono s.g.ff⟩, ⟨r.ok0, r.g, fun _ _ z => z, r.len, r.tb, r.tn, r.has, r.sep⟩⟩
/-- x.g = e, a field that is not there yet -/
theorem s_fldI (h : Ini K S1 S x C dx fds m σ l) (c : Cls K C) (no : NoAttr K C g) (hs : get l i = some (.dat (.val (.ref x)))) (he : EvD K none te σ S d) (hg : fds.lookup g = none) (few : fds.length < 1000) (ow : l.all (fun q => !q.2.ow) = true)
    (k : ∀ S', Ini K S1 S' x C dx (fds ++ [(g, d)]) m σ l → G.nx σ S'.H) : sFld K (tVar i) te g G σ S.H :=
  he S (Gr.refl h.st.ok) _ fun v S2 g2 t2 r2 => by
    obtain ⟨ws, h1, h2, h3⟩ := h.has
    have ok := h.st.ok
    have st2 := h.st.grow0 g2 t2
    obtain ⟨u, eu, ru⟩ := st2.has (i, .dat (.val (.ref x))) (get_mem hs)
    cases (show Rp K S2.F u (.val (.ref x)) from ru)
    have h4 : S2.H x = some (.ins C dx ws) := g2.hh x _ h1 (by simp)
    have lw : ws.length = fds.length := by
      have := congrArg List.length h2
      simpa only [List.length_map] using this
    have hp : putF g v ws = ws ++ [(g, v)] := by
      have : ∀ (ws : List (Str × V)) (fds : List (Str × D)), ws.map (·.1) = fds.map (·.1) → fds.lookup g = none → putF g v ws = ws ++ [(g, v)] := by
        intro ws
        induction ws with
        | nil => intro _ _ _; rfl
        | cons w ws ih =>
          intro fds e1 e2
          cases fds with
          | nil => cases e1
          | cons f fds =>
            simp only [List.map_cons, List.cons.injEq] at e1
            rw [List.lookup_cons] at e2
            have ne : (g == f.1) = false := by
              cases q : g == f.1 with
              | false => rfl
              | true => rw [q] at e2; cases e2
            rw [ne] at e2
            obtain ⟨wk, wv⟩ := w
            have nk : ¬ wk = g := fun z => by
              rw [← e1.1] at ne
              rw [z] at ne
              simp at ne
            show (if wk = g then (wk, v) :: ws else (wk, wv) :: putF g v ws) = _
            rw [if_neg nk, ih fds e1.2 e2]
            rfl
      exact this ws fds h2 hg
    refine ⟨.ref x, eu, x, C, dx, ws, rfl, h4, c, no, by omega, ?_⟩
    have hF2 : S2.F x = none := (g2.old x (by rw [h1]; simp)).trans h.hF
    have gg := Gr.chg (o := .ins C dx (putF g v ws)) h.ok1 (h.g.trans g2) h.n1 hF2 h4 (fun ps z => by cases z) (fun c q z => by unfold LamX.CodeO at z; cases z) (nt := fun ps z => by cases z)
    have tn := st2.tn
    have tb := h.st.tb
    have tt := h.t
    refine k ⟨S2.F, upd S2.H x (.ins C dx (putF g v ws)), S2.T⟩ ⟨h.ok1, gg, by show S2.T ≤ S1.T; omega, h.n1, hF2, ⟨putF g v ws, upd_same, ?_, ?_⟩, ⟨gg.ok, Gr.refl gg.ok, fun _ _ z => z, st2.len, by show S2.T + 0 ≤ _; omega, Nat.le_refl _, fun q hq => ?_, fun a ha b hb _ oa => ?_⟩⟩
    · rw [hp, List.map_append, List.map_append, h2]
      rfl
    · rw [hp, List.map_append, List.map_append]
      have := (h3.mono g2.ff).snoc r2
      exact this
    · obtain ⟨v', e', r'⟩ := st2.has q hq
      refine ⟨v', e', ?_⟩
      have nq := List.all_eq_true.mp ow q hq
      cases q with
      | mk j t => cases t <;> first | exact r' | simp [Ty.ow] at nq
    · have nq := List.all_eq_true.mp ow a ha
      rw [oa] at nq
      cases nq
/-- the entry of __init__ -/
theorem fnM {t : TS} {Ns : List Str} {vs : List V} {H : Hp} {Q : VK} {pre : List D → Prop} {fn : List D → Out (List (Str × D))} (h : spM K C n pre fn vs H Q E) (hN : n + 1 ≤ Ns.length)
    (body : ∀ (S1 S : Wd) (x dx : Addr) (ds : List D) (σ : L2.St) (G : Ends), pre ds → ds.length = n → Ini K S1 S x C dx [] Ns.length σ ((0, .dat (.val (.ref x))) :: ents 1 ds) →
      (∀ fds S' σ' l', fn ds = .ok fds → Ini K S1 S' x C dx fds Ns.length σ' l' → G.nx σ' S'.H) →
      (∀ CE fs, fn ds = .no CE fs → ∀ dy S', Gr K none S1 S' → S'.T ≤ S1.T → S'.H dy = some (.xd fs) → E (.ref CE) (some dy) S'.H) → t G σ S.H) :
    t { nx := fun _ H' => Q .non H', rt := Q } (L2.start Ns vs) H := by
  obtain ⟨F, H1, us, ds, x, dx, rfl, hx, hdx, hne, rfl, ok, r, hn, hp, k1, k2⟩ := h
  have o1 : Gr K none ⟨F, H1, 0⟩ ⟨F, upd H1 dx (.own x), 0⟩ := Gr.newO ok hdx
  have hx2 : (upd H1 dx (.own x)) x = none := by rw [upd_ne hne.symm]; exact hx
  have o2 : Gr K none ⟨F, upd H1 dx (.own x), 0⟩ ⟨F, upd (upd H1 dx (.own x)) x (.ins C dx []), 0⟩ := Gr.newO o1.ok hx2
  have st := sta_start (N := Ns) (M := 0) (ds := D.val (.ref x) :: ds) (vs := .ref x :: us) o2.ok (.cons (.val _) r) (by rw [List.length_cons, r.length, hn]; exact hN) (show 0 + 0 ≤ 1000000000 by decide)
  have down : ∀ {S' : Wd}, Gr K none ⟨F, H1, 0⟩ S' → Gr K none ⟨F, H1, 0⟩ ⟨S'.F, S'.H, 0⟩ := fun {S'} g => ⟨g.ff, fun b o q np n => g.hh b o q np n, g.al, g.old, ⟨g.ok.sub, fun a e => (by cases e), g.ok.nt, g.ok.tb⟩⟩
  refine body ⟨F, H1, 0⟩ ⟨F, upd (upd H1 dx (.own x)) x (.ins C dx []), 0⟩ x dx ds _ { nx := fun _ H' => Q .non H', rt := Q } hp hn ⟨ok, o1.trans o2, Nat.le_refl _, hx, ok.freshF hx, ⟨[], upd_same, rfl, .nil⟩, st⟩ (fun fds S' σ' l' he hi => ?_) (fun CE fs he dy S' g _ hy => k2 CE fs he dy S'.F S'.H (down g) hy)
  obtain ⟨ws, h1, h2, h3⟩ := hi.has
  exact k1 fds he S'.F S'.H ws (down hi.g) hi.hF h1 h2 h3
end
/-! ### == of an own class -/
/-- x == y, x an instance of C whose own == keeps sp -/
def rEqO (K : PySem.W.Frag) (C : Addr) (sp : Sp) (E : XK) : R2 := fun x y H Q => ∃ (a dx : Addr) (fs : List (Str × V)) (t : Value), x = .ref a ∧ H a = some (.ins C dx fs) ∧ TyX K H y t ∧ PySem.W.notFirst K C t = true ∧ sp [x, y] H (fun v H' => ∃ b, v = .bl b ∧ Q (.bl b) H') E
theorem op_eqO {X : Cx} {CX : CXT} {C f : Addr} {fd : FuncData} {ps : List Str} {sp : Sp} {E : XK} {n : Nat} (F : FnOk X.prog X.w X.K X.mg X.base CX n f fd ps sp) (hr : Room n X.A) (hs : PySem.W.findIn X.K (.ref C) "__eq__" = some (some (.ref f))) (hf : PySem.W.isFn X.K (.ref f) = true) (hb : Binds X.K fd ps [])
    (hx : Passes CX X E) : OpR X (compareOp .Eq) (rEqO X.K C sp E) := by
  intro pins s σ H x y u v Q I rx ry h
  obtain ⟨a, dx, fs, t, rfl, ha, ty, nf, hsp⟩ := h
  cases (show u = Value.ref a from rx)
  obtain ⟨mA, J, _⟩ := ins_get I.hok ha
  obtain ⟨od, J, _⟩ := J.look
  obtain ⟨m, hF⟩ := I.fr
  obtain ⟨P, kx, hP, _⟩ := kit_of I ry ty
  show wpAny (model X.prog X.w) X.A (richCompare .Eq (.ref a) v) (EP X pins σ Q) X.xe s
  refine PySem.W.cmp_K (op := .Eq) (tb := t) hr.units0 hF I.ok.mod.kin J (kx.ty _ _ I.kIn hP) nf hs hf ?_
  refine wpAny_mono (run_fn (us := [.ref a, v]) (vs := [.ref a, y]) (dvs := []) F hr hb .nil hx I (.cons rfl (.cons ry .nil)) hsp) (fun r s' q => ?_) fun _ _ e => e
  obtain ⟨z, H', I', rz, b, rfl, q'⟩ := q
  cases (show r = Value.bool b from rz)
  exact ⟨.bl b, H', I', rfl, q'⟩
section
variable {K : PySem.W.Frag} [LT K] {p : Option Addr} {S : Wd} {σ : L2.St} {te ta tb : TE} {d e : D} {C : Addr} {fds gds : List (Str × D)} {E : XK} {n : Nat} {pre : List D → Prop} {fn : List D → D} {b : Bool}
/-- what == asks of the two types -/
structure KEq (K : PySem.W.Frag) (C : Addr) : Prop where
  c : InsC K C
  own : PySem.W.notFirst K C (.ref C) = true
  non : PySem.W.notFirst K C (.type "NoneType") = true
  bl : PySem.W.notFirst K C (.type "bool") = true
  int : PySem.W.notFirst K C (.type "int") = true
  str : PySem.W.notFirst K C (.type "str") = true
  lst : PySem.W.notFirst K C (.type "list") = true
  tup : PySem.W.notFirst K C (.type "tuple") = true
  dic : PySem.W.notFirst K C (.type "dict") = true
theorem KEq.of {T : String} (c : KEq K C) (h : tyD d = some T) : PySem.W.notFirst K C (.type T) = true := by
  cases d <;> cases h
  · exact c.non
  · exact c.bl
  · exact c.int
  · exact c.str
  · exact c.lst
  · exact c.tup
  · exact c.dic
/-- instance == data, or == an instance of the same class -/
theorem ed_eqO (c : KEq K C) (ha : EvD K p ta σ S (.ins C fds)) (hb : EvD K p tb σ S d) (hk : kn d ∨ ∃ gds, d = .ins C gds) (hn : n = 2) (hp : pre [.ins C fds, d]) (hf : fn [.ins C fds, d] = .bl b) : EvD K p (tOp (rEqO K C (spP K n pre fn) E) ta tb) σ S (.bl b) := fun S1 g Q q =>
  ha S1 g _ fun u S2 g2 t2 r => hb S2 (g.trans g2) _ fun v S3 g3 t3 r3 => by
    cases r with
    | @ins a _ dx fs _ hF h1 h2 =>
      have hF3 := g3.ff _ _ hF
      have ty : ∃ t, TyX K S3.H v t ∧ PySem.W.notFirst K C t = true := by
        rcases hk with hk | ⟨gds, rfl⟩
        · cases e : tyD d with
          | none => exact absurd e hk
          | some T => exact ⟨_, tyX_rp (r3.mono g3.ok.sub) e, c.of e⟩
        · cases r3 with
          | ins hG _ _ => exact ⟨.ref C, .base (.ins (g3.ok.sub _ _ hG) c.c.cl c.c.ha c.c.hn c.c.htk c.c.hm), c.own⟩
      obtain ⟨t, ty, nf⟩ := ty
      refine ⟨a, dx, fs, t, rfl, g3.ok.sub _ _ hF3, ty, nf, ?_⟩
      refine ⟨S3.F, [.ins C fds, d], ⟨g3.ok.sub, fun a e => (by cases e), g3.ok.nt, g3.ok.tb⟩, .cons ((Rp.ins hF h1 h2).mono g3.ff) (.cons r3 .nil), hn.symm, hp, fun w F' H' g' r' => ?_⟩
      rw [hf] at r'
      cases r'
      have g4 := make_lift g' g3.ok
      exact ⟨b, rfl, q (.bl b) ⟨F', H', S3.T⟩ (g2.trans (g3.trans g4)) (by show S3.T ≤ S1.T; omega) (.bl b)⟩
end
end DL
/-! ## != of an own class that has == alone -/
namespace DL
open PySem PySem.Spec PyProof.Rows L2
open C8 (InsC)
section
variable {prog : Program} {w : World} {A : Around} {E : Value → Shared → Prop} {s : Shared} {K : PySem.W.Frag} {x C f : Addr} {ox : Obj} {od : Option Obj} {u t : Value}
/-- object.__ne__ asks the own __eq__ -/
theorem ne_body (hu : A.units < cLine) (X : K.In s.heap) (I : PySem.W.InstAt s.heap x ox C od) (hs : PySem.W.findIn K (.ref C) "__eq__" = some (some (.ref f))) (hf : PySem.W.isFn K (.ref f) = true) {Q : Fin → Shared → Prop}
    (h : wpAny (model prog w) A (call (.ref f) [.ref x, u]) (fun v s' => ∃ b, v = .bool b ∧ Q (.done (.ret (.bool (!b)))) s') E s) : wpAny (model prog w) A (Builtin.«object.__ne__» ⟨[.ref x, u], []⟩) Q E s := by
  unfold Builtin.«object.__ne__»
  have asks : ∀ {R : Option Value → Shared → Prop}, (∀ b s', Q (.done (.ret (.bool (!b)))) s' → R (some (.bool b)) s') → wpAny (model prog w) A (callSpecialIfBound? (.ref x) (Str.ofString "__eq__") [u]) R E s := fun {R} k => PySem.W.ifBound_K X I hs hf (wpAny_mono h (fun v s' q => by
    obtain ⟨b, rfl, q⟩ := q
    exact k b s' q) fun _ _ e => e)
  repeat (first
    | with_reducible refine wpAny_cRoomFor hu ?_
    | (refine wpAny_bind (asks fun b s' q => ?_))
    | (refine wpAny_bind (wpAny_truthy_bool ?_))
    | exact wpAny_pure q
    | wp_step)
theorem ne_call (hu : A.units + 1 < cLine) (X : K.In s.heap) (I : PySem.W.InstAt s.heap x ox C od) (hm : PySem.W.mroIn K C (.type "object") = some true) (hs : PySem.W.findIn K (.ref C) "__eq__" = some (some (.ref f))) (hf : PySem.W.isFn K (.ref f) = true) {Q : Value → Shared → Prop}
    (h : wpAny (model prog w) A.in1 (call (.ref f) [.ref x, u]) (fun v s' => ∃ b, v = .bool b ∧ Q (.bool (!b)) s') E s) : wpAny (model prog w) A (call (.builtin "object.__ne__") [.ref x, u]) Q E s :=
  wpAny_call (codeAny_call_builtin F.cmp_object.ne.plain F.cmpEntry_ne (PySem.W.check_slot F.cmpKind_ne F.cmpSplit_ne (I.type.andThen (PySem.W.looks_mroIn X hm)) (F.cmpArgs_ne _ _) (ne_body (A := A.in1) hu X I hs hf (wpAny_mono h (fun v s' q => by
    obtain ⟨b, rfl, q⟩ := q
    exact ⟨b, rfl, q⟩) fun _ _ e => e))))
theorem ne_bound {args : List Value} {Q : Option Value → Shared → Prop} (X : K.In s.heap) (I : PySem.W.InstAt s.heap x ox C od) (hn : PySem.W.findIn K (.ref C) "__ne__" = some (some (.builtin "object.__ne__")))
    (h : wpAny (model prog w) A (call (.builtin "object.__ne__") (.ref x :: args)) (fun v => Q (some v)) E s) : wpAny (model prog w) A (callSpecialIfBound? (.ref x) (Str.ofString "__ne__") args) Q E s := by
  have last : wpAny (model prog w) A (call (.builtin "object.__ne__") ([.ref x] ++ args) >>= fun v => pure (some v)) Q E s := wpAny_bind (wpAny_mono h (fun _ _ q => wpAny_pure q) fun _ _ q => q)
  have bd := F.cmp_object.ne.bind (Value.ref x)
  unfold callSpecialIfBound? bindSpecialIfBound?
  refine wpAny_holding (wpAny_bind (wpAny_bind (wpAny_bind (I.type.here ((PySem.W.looks_findIn X hn).here (wpAny_bind (wpAny_askSetting (wpAny_ite ?_))))))))
  split <;> first
    | exact wpAny_bind (wpAny_of_eq bd (wpAny_pure last))
    | exact wpAny_tryCatch (wpAny_bind (wpAny_of_eq bd (wpAny_pure last)))
end
/-- x != y, x an instance of C whose own == keeps sp -/
def rNeO (K : PySem.W.Frag) (C : Addr) (sp : Sp) (E : XK) : R2 := fun x y H Q => ∃ (a dx : Addr) (fs : List (Str × V)) (t : Value), x = .ref a ∧ H a = some (.ins C dx fs) ∧ TyX K H y t ∧ PySem.W.notFirst K C t = true ∧ sp [x, y] H (fun v H' => ∃ b, v = .bl b ∧ Q (.bl (!b)) H') E
theorem op_neO {X : Cx} {CX : CXT} {C f : Addr} {fd : FuncData} {ps : List Str} {sp : Sp} {E : XK} {n : Nat} (F : FnOk X.prog X.w X.K X.mg X.base CX n f fd ps sp) (hr : Room (n + 1) X.A) (hs : PySem.W.findIn X.K (.ref C) "__eq__" = some (some (.ref f))) (hf : PySem.W.isFn X.K (.ref f) = true)
    (hn : PySem.W.findIn X.K (.ref C) "__ne__" = some (some (.builtin "object.__ne__"))) (hm : PySem.W.mroIn X.K C (.type "object") = some true) (hb : Binds X.K fd ps []) (hx : Passes CX X E) : OpR X (compareOp .NotEq) (rNeO X.K C sp E) := by
  intro pins s σ H x y u v Q I rx ry h
  obtain ⟨a, dx, fs, t, rfl, ha, ty, nf, hsp⟩ := h
  cases (show u = Value.ref a from rx)
  obtain ⟨mA, J, _⟩ := ins_get I.hok ha
  obtain ⟨od, J, _⟩ := J.look
  obtain ⟨P, kx, hP, _⟩ := kit_of I ry ty
  have room := hr.units
  have e0 : Env0 X.prog X.w X.K X.mg X.base X.A.in1 X.stack s H := by
    have e := I.env0
    exact ⟨e.frames, e.mod, e.bs, e.bsz, e.funs, e.frf, e.hok, e.bare⟩
  have r2 : Vals [V.ref a, y] [Value.ref a, v] := .cons rfl (.cons ry .nil)
  have hl := F.len _ _ _ _ hsp
  have asked : wpAny (model X.prog X.w) X.A.in1 (call (.ref f) [.ref a, v]) (fun r s' => ∃ b, r = .bool b ∧ EP X pins σ Q (.bool (!b)) s') X.xe s := by
    refine wpAny_call (codeAny_mono (F.run X.A.in1 X.stack s H ⟨[.ref a, v], []⟩ [.ref a, v] [.ref a, y] _ E hr.in1 e0 (by
      have := hb s [.ref a, v] I.kIn (by simpa using hl)
      simpa using this) r2 hsp) fun r s' hq => ?_)
    cases r with
    | error e => exact hx pins σ H s e s' I hq
    | ok fl =>
      cases fl with
      | ret w =>
        obtain ⟨z, H', I', rz, b, rfl, q⟩ := I.after hq
        cases (show w = Value.bool b from rz)
        exact ⟨b, rfl, .bl (!b), H', I', rfl, q⟩
      | next => exact False.elim hq
      | brk => exact False.elim hq
      | cont => exact False.elim hq
  have one : wpAny (model X.prog X.w) X.A (tryCompare (.ref a) "__ne__" v) (fun r s' => ∃ b, r = some (.bool b) ∧ EP X pins σ Q (.bool b) s') X.xe s := by
    unfold tryCompare
    refine wpAny_bind (ne_bound I.kIn J hn (ne_call (by omega) I.kIn J hm hs hf (wpAny_mono asked (fun r s' q => ?_) fun _ _ e => e)))
    obtain ⟨b, rfl, q⟩ := q
    exact ⟨b, rfl, wpAny_pure ⟨!b, rfl, q⟩⟩
  show wpAny (model X.prog X.w) X.A (richCompare .NotEq (.ref a) v) (EP X pins σ Q) X.xe s
  have back : ∀ {R : Option Value → Sem Value}, (∀ b, R (some (.bool b)) = pure (.bool b)) → wpAny (model X.prog X.w) X.A (tryCompare (.ref a) "__ne__" v >>= R) (EP X pins σ Q) X.xe s := fun {R} hR => wpAny_bind (wpAny_mono one (fun r s' z => by
    obtain ⟨b, rfl, q⟩ := z
    rw [hR]
    exact wpAny_pure q) fun _ _ e => e)
  unfold richCompare
  simp only [oneThing_ref, cmpInfo_NotEq]
  refine wpAny_holding (wpAny_bind (wpAny_cRoomFor (by omega) (wpAny_bind (J.type.here (wpAny_bind ((kx.ty _ _ I.kIn hP).here ?_))))))
  split
  · rename_i q
    have no : PySem.W.subIn X.K t (.ref C) = some false := by
      unfold PySem.W.notFirst at nf
      rw [Bool.or_eq_true, beq_iff_eq, beq_iff_eq] at nf
      rcases nf with rfl | nf
      · simp at q
      · exact nf
    refine wpAny_bind ((PySem.W.looks_subIn I.kIn no).here ?_)
    simp only [Bool.false_eq_true, if_false]
    exact back fun b => rfl
  · refine wpAny_bind (wpAny_pure ?_)
    simp only [Bool.false_eq_true, if_false]
    exact back fun b => rfl
section
variable {K : PySem.W.Frag} [LT K] {p : Option Addr} {S : Wd} {σ : L2.St} {ta tb : TE} {d : D} {C : Addr} {fds : List (Str × D)} {E : XK} {n : Nat} {pre : List D → Prop} {fn : List D → D} {b : Bool}
/-- instance != data, or != an instance of the same class -/
theorem ed_neO (c : KEq K C) (ha : EvD K p ta σ S (.ins C fds)) (hb : EvD K p tb σ S d) (hk : kn d ∨ ∃ gds, d = .ins C gds) (hn : n = 2) (hp : pre [.ins C fds, d]) (hf : fn [.ins C fds, d] = .bl b) : EvD K p (tOp (rNeO K C (spP K n pre fn) E) ta tb) σ S (.bl (!b)) := fun S1 g Q q =>
  ha S1 g _ fun u S2 g2 t2 r => hb S2 (g.trans g2) _ fun v S3 g3 t3 r3 => by
    cases r with
    | @ins a _ dx fs _ hF h1 h2 =>
      have hF3 := g3.ff _ _ hF
      have ty : ∃ t, TyX K S3.H v t ∧ PySem.W.notFirst K C t = true := by
        rcases hk with hk | ⟨gds, rfl⟩
        · cases e : tyD d with
          | none => exact absurd e hk
          | some T => exact ⟨_, tyX_rp (r3.mono g3.ok.sub) e, c.of e⟩
        · cases r3 with
          | ins hG _ _ => exact ⟨.ref C, .base (.ins (g3.ok.sub _ _ hG) c.c.cl c.c.ha c.c.hn c.c.htk c.c.hm), c.own⟩
      obtain ⟨t, ty, nf⟩ := ty
      refine ⟨a, dx, fs, t, rfl, g3.ok.sub _ _ hF3, ty, nf, S3.F, [.ins C fds, d], ⟨g3.ok.sub, fun a e => (by cases e), g3.ok.nt, g3.ok.tb⟩, .cons ((Rp.ins hF h1 h2).mono g3.ff) (.cons r3 .nil), hn.symm, hp, fun w F' H' g' r' => ?_⟩
      rw [hf] at r'
      cases r'
      have g4 := make_lift g' g3.ok
      exact ⟨b, rfl, q (.bl (!b)) ⟨F', H', S3.T⟩ (g2.trans (g3.trans g4)) (by show S3.T ≤ S1.T; omega) (.bl _)⟩
end
/-- keywords of a making, by what binds them -/
theorem kbn_mk {K : PySem.W.Frag} {x qual : Str} {st : Stmt} {f : Addr} {fd : FuncData} {ps ks : List Str} {n : Nat} {g : List Value → List Value → List Value} {gV : List V → List V → List V} (F : Fun K x qual st f fd)
    (h : ∀ (kV doc pm : Value) (an : Option Addr) (cdv ct : Value) (us ws : List Value), us.length = n → ws.length = ks.length → bindArgs (PySem.W.fnOf x qual (defArgs st) (defBody st) (defScope st) .none kV doc pm an cdv ct) ⟨us, ks.zip ws⟩ = pure (ps.zip (g us ws)))
    (hr : ∀ {vs : List V} {us : List Value} {zs : List V} {ws : List Value}, Vals vs us → Vals zs ws → Vals (gV vs zs) (g us ws)) : KBn K fd ps n ks g gV := by
  obtain ⟨oc, od, kV, doc, pm, an, cdv, ct, osl, rfl, lk, hcd⟩ := F.ex
  exact ⟨fun s us ws _ l1 l2 => .of_eq (h kV doc pm an cdv ct us ws l1 l2), fun r q => hr r q⟩
end DL
local macro_rules | `(tactic| k_extra "rd") => `(tactic| first
  | (with_reducible exact DL.rd_add) | (with_reducible exact DL.rd_I0) | (with_reducible exact DL.rd_B0) | (with_reducible exact DL.rd_isB) | (with_reducible exact DL.rd_notB)
  | ((with_reducible apply DL.rd_isN); rfl) | ((with_reducible apply DL.rd_notN); rfl) | (with_reducible exact DL.rd_neNil) | (with_reducible exact DL.rd_eqNil) | (with_reducible exact DL.rd_eqUs) | (with_reducible exact DL.rd_neUs))
local macro_rules | `(tactic| k_extra "ev") => `(tactic| first
  | (with_reducible exact DL.ed_int) | (with_reducible exact DL.ed_bl) | (with_reducible exact DL.ed_str) | (with_reducible exact DL.ed_non)
  | ((with_reducible apply DL.ed_var); (assumption); (rfl))
  | ((with_reducible apply DL.ed_not); (k_extra "ev"))
  | ((with_reducible apply DL.ed_op); (k_extra "eh"); (k_extra "eh"); (k_extra "rd")))
local macro_rules | `(tactic| k_extra "eh") => `(tactic| first
  | ((with_reducible apply DL.eh_var); (assumption); (rfl))
  | ((with_reducible apply DL.EvD.h); (k_extra "ev"))
  | ((with_reducible apply DL.EvO.h); (with_reducible apply DL.eo_lst); (k_extra "ea"); (decide)))
local macro_rules | `(tactic| k_extra "ea") => `(tactic| first
  | (with_reducible exact DL.ea_nil)
  | ((with_reducible apply DL.ea_cons); (k_extra "ev"); (k_extra "ea")))
namespace K01
open PySem L2 DL
def top (i : Nat) : Stmt := PySem.Challenge.pw_paidatmost_k01_names_and_small_questions.main.body.getD i (.Pass ⟨0, 0, 0, 0⟩)
abbrev s_is_integer : Stmt := top 16
abbrev s_is_within : Stmt := top 17
abbrev s_is_row : Stmt := top 18
abbrev s_is_name : Stmt := top 19
abbrev s_are_names : Stmt := top 20
abbrev s_names_in_order : Stmt := top 21
abbrev s_fixed : Stmt := top 23
abbrev s_statement_in : Stmt := top 26
abbrev s_is_statement : Stmt := top 27
abbrev s__law_pen : Stmt := top 29
abbrev s__law_draw : Stmt := top 30
abbrev s__law_pick : Stmt := top 31
abbrev s__law_words : Stmt := top 32
abbrev s__law_is_name : Stmt := top 33
abbrev s__law_text_drawn : Stmt := top 34
abbrev s__law_order : Stmt := top 35
abbrev s__law_kinds_right : Stmt := top 36
abbrev s_law : Stmt := top 37
def gv_are_names_value {α : Type} : List α → List α → List α := fun us zs => match us, zs with
  | [], [x0] => [x0]
  | _, _ => []
def gv_is_integer_value {α : Type} : List α → List α → List α := fun us zs => match us, zs with
  | [], [x0] => [x0]
  | _, _ => []
def gv_is_name_value {α : Type} : List α → List α → List α := fun us zs => match us, zs with
  | [], [x0] => [x0]
  | _, _ => []
def gv_is_row_value {α : Type} : List α → List α → List α := fun us zs => match us, zs with
  | [], [x0] => [x0]
  | _, _ => []
def gv_is_within_most_least_value {α : Type} : List α → List α → List α := fun us zs => match us, zs with
  | [], [x0, x1, x2] => [x2, x1, x0]
  | _, _ => []
def gv_names_in_order_many_taken {α : Type} : List α → List α → List α := fun us zs => match us, zs with
  | [], [x0, x1] => [x1, x0]
  | _, _ => []
structure Fs (P : Program) (w : World) (K : PySem.W.Frag) (mg : Str → Option Value) where
  a_is_integer : Addr
  d_is_integer : FuncData
  F_is_integer : Fun K "is_integer" "is_integer" s_is_integer a_is_integer d_is_integer
  m_is_integer : mg "is_integer" = some (.ref a_is_integer)
  b_is_integer : Binds K d_is_integer ["value"] []
  a_is_within : Addr
  d_is_within : FuncData
  F_is_within : Fun K "is_within" "is_within" s_is_within a_is_within d_is_within
  m_is_within : mg "is_within" = some (.ref a_is_within)
  b_is_within : Binds K d_is_within ["value", "least", "most"] []
  a_is_row : Addr
  d_is_row : FuncData
  F_is_row : Fun K "is_row" "is_row" s_is_row a_is_row d_is_row
  m_is_row : mg "is_row" = some (.ref a_is_row)
  b_is_row : Binds K d_is_row ["value"] []
  a_is_name : Addr
  d_is_name : FuncData
  F_is_name : Fun K "is_name" "is_name" s_is_name a_is_name d_is_name
  m_is_name : mg "is_name" = some (.ref a_is_name)
  b_is_name : Binds K d_is_name ["value"] []
  a_are_names : Addr
  d_are_names : FuncData
  F_are_names : Fun K "are_names" "are_names" s_are_names a_are_names d_are_names
  m_are_names : mg "are_names" = some (.ref a_are_names)
  b_are_names : Binds K d_are_names ["value"] []
  a_names_in_order : Addr
  d_names_in_order : FuncData
  F_names_in_order : Fun K "names_in_order" "names_in_order" s_names_in_order a_names_in_order d_names_in_order
  m_names_in_order : mg "names_in_order" = some (.ref a_names_in_order)
  b_names_in_order : Binds K d_names_in_order ["taken", "many"] []
  a_fixed : Addr
  d_fixed : FuncData
  F_fixed : Fun K "fixed" "fixed" s_fixed a_fixed d_fixed
  m_fixed : mg "fixed" = some (.ref a_fixed)
  b_fixed : Binds K d_fixed ["value"] []
  a_statement_in : Addr
  d_statement_in : FuncData
  F_statement_in : Fun K "statement_in" "statement_in" s_statement_in a_statement_in d_statement_in
  m_statement_in : mg "statement_in" = some (.ref a_statement_in)
  b_statement_in : Binds K d_statement_in ["value"] []
  a_is_statement : Addr
  d_is_statement : FuncData
  F_is_statement : Fun K "is_statement" "is_statement" s_is_statement a_is_statement d_is_statement
  m_is_statement : mg "is_statement" = some (.ref a_is_statement)
  b_is_statement : Binds K d_is_statement ["value"] []
  a__law_pen : Addr
  d__law_pen : FuncData
  F__law_pen : Fun K "_law_pen" "_law_pen" s__law_pen a__law_pen d__law_pen
  m__law_pen : mg "_law_pen" = some (.ref a__law_pen)
  b__law_pen : Binds K d__law_pen ["script"] []
  a__law_draw : Addr
  d__law_draw : FuncData
  F__law_draw : Fun K "_law_draw" "_law_draw" s__law_draw a__law_draw d__law_draw
  m__law_draw : mg "_law_draw" = some (.ref a__law_draw)
  b__law_draw : Binds K d__law_draw ["pen", "many"] []
  a__law_pick : Addr
  d__law_pick : FuncData
  F__law_pick : Fun K "_law_pick" "_law_pick" s__law_pick a__law_pick d__law_pick
  m__law_pick : mg "_law_pick" = some (.ref a__law_pick)
  b__law_pick : Binds K d__law_pick ["pen", "some"] []
  a__law_words : Addr
  d__law_words : FuncData
  F__law_words : Fun K "_law_words" "_law_words" s__law_words a__law_words d__law_words
  m__law_words : mg "_law_words" = some (.ref a__law_words)
  b__law_words : Binds K d__law_words [] []
  a__law_is_name : Addr
  d__law_is_name : FuncData
  F__law_is_name : Fun K "_law_is_name" "_law_is_name" s__law_is_name a__law_is_name d__law_is_name
  m__law_is_name : mg "_law_is_name" = some (.ref a__law_is_name)
  b__law_is_name : Binds K d__law_is_name ["value"] []
  a__law_text_drawn : Addr
  d__law_text_drawn : FuncData
  F__law_text_drawn : Fun K "_law_text_drawn" "_law_text_drawn" s__law_text_drawn a__law_text_drawn d__law_text_drawn
  m__law_text_drawn : mg "_law_text_drawn" = some (.ref a__law_text_drawn)
  b__law_text_drawn : Binds K d__law_text_drawn ["pen"] []
  a__law_order : Addr
  d__law_order : FuncData
  F__law_order : Fun K "_law_order" "_law_order" s__law_order a__law_order d__law_order
  m__law_order : mg "_law_order" = some (.ref a__law_order)
  b__law_order : Binds K d__law_order ["taken", "many"] []
  a__law_kinds_right : Addr
  d__law_kinds_right : FuncData
  F__law_kinds_right : Fun K "_law_kinds_right" "_law_kinds_right" s__law_kinds_right a__law_kinds_right d__law_kinds_right
  m__law_kinds_right : mg "_law_kinds_right" = some (.ref a__law_kinds_right)
  b__law_kinds_right : Binds K d__law_kinds_right ["pen"] []
  a_law : Addr
  d_law : FuncData
  F_law : Fun K "law" "law" s_law a_law d_law
  m_law : mg "law" = some (.ref a_law)
  b_law : Binds K d_law ["script"] []
  k_are_names_value : KBinds K d_are_names ["value"] ["value"] gv_are_names_value gv_are_names_value
  k_is_integer_value : KBinds K d_is_integer ["value"] ["value"] gv_is_integer_value gv_is_integer_value
  k_is_name_value : KBinds K d_is_name ["value"] ["value"] gv_is_name_value gv_is_name_value
  k_is_row_value : KBinds K d_is_row ["value"] ["value"] gv_is_row_value gv_is_row_value
  k_is_within_most_least_value : KBinds K d_is_within ["value", "least", "most"] ["most", "least", "value"] gv_is_within_most_least_value gv_is_within_most_least_value
  k_names_in_order_many_taken : KBinds K d_names_in_order ["taken", "many"] ["many", "taken"] gv_names_in_order_many_taken gv_names_in_order_many_taken
  a_BARE : Addr
  g_BARE : mg "BARE" = some (.ref a_BARE)
  t_BARE : KTup K a_BARE ["nothing", "any", "no"]
  a_JOINS : Addr
  g_JOINS : mg "JOINS" = some (.ref a_JOINS)
  t_JOINS : KTup K a_JOINS ["both", "gives", "pick", "or"]
  g_LETTERS : ∃ t, mg "LETTERS" = some (.str "abcdefghijklmnopqrstuvwxyz" t)
  g_MOST_PARTS : ∃ t, mg "MOST_PARTS" = some (.int 24 t)
  g_MOST_SIGNS : ∃ t, mg "MOST_SIGNS" = some (.int 8 t)
  a_WORDS : Addr
  g_WORDS : mg "WORDS" = some (.ref a_WORDS)
  t_WORDS : KTup K a_WORDS ["both", "gives", "pick", "or", "nothing", "any", "no", "split", "call", "take", "open", "use", "never", "give", "box", "pair", "fun", "offer", "left", "right", "unit", "rest", "first", "second"]
  z_abs : mg "abs" = none
  z_all : mg "all" = none
  z_bool : mg "bool" = none
  z_dict : mg "dict" = none
  z_int : mg "int" = none
  z_isinstance : mg "isinstance" = none
  z_len : mg "len" = none
  z_list : mg "list" = none
  z_range : mg "range" = none
  z_repr : mg "repr" = none
  z_set : mg "set" = none
  z_str : mg "str" = none
  z_sum : mg "sum" = none
  z_tuple : mg "tuple" = none
def h0 (ds : List D) : D := ds.headD .non
def h1 (ds : List D) : D := ds.getD 1 .non
def h2 (ds : List D) : D := ds.getD 2 .non
/-- of a known kind -/
def kn (d : D) : Prop := tyD d ≠ none
def isIntD : D → Bool
  | .int _ => true
  | _ => false
def isRowD : D → Bool
  | .lst _ => true
  | .tup _ => true
  | _ => false
theorem kn_int {d : D} (h : kn d) : ∃ b, isiD "int" d = some b ∧ isiD "bool" d = some (b && !isIntD d) ∧ (isIntD d = true → b = true) := by
  rw [isi_int, isi_bl]
  cases d <;> first | exact ⟨_, rfl, rfl, fun _ => rfl⟩ | exact ⟨_, rfl, rfl, fun z => by cases z⟩ | exact absurd rfl h
theorem kn_row {d : D} (h : kn d) : isiD2 "list" "tuple" d = some (isRowD d) := by
  rw [isi_row]
  cases d <;> first | rfl | exact absurd rfl h
def words : List Str := ["both", "gives", "pick", "or", "nothing", "any", "no", "split", "call", "take", "open", "use", "never", "give", "box", "pair", "fun", "offer", "left", "right", "unit", "rest", "first", "second"]
def letters : Str := "abcdefghijklmnopqrstuvwxyz"
def isLet (c : Nat) : Bool := decide (c ∈ letters.cps.toList)
def isNameS (s : Str) : Bool := decide (1 ≤ s.length) && decide (s.length ≤ 8) && !words.contains s && s.cps.toList.all isLet
def isNameD : D → Bool
  | .str s => isNameS s
  | _ => false
/-- of a known kind, no text too long -/
def kns (d : D) : Prop := kn d ∧ ∀ s, d = .str s → s.length ≤ 1000000
theorem kn_str {d : D} (h : kn d) : isiD "str" d = some (match d with | .str _ => true | _ => false) := by
  rw [isi_str]
  cases d <;> first | rfl | exact absurd rfl h
theorem inD_strs (s : Str) (ss : List Str) : inD (.str s) (ss.map D.str) = ss.contains s := by
  unfold inD
  rw [List.any_map, List.contains_eq_any_beq]
  congr 1
  funext z
  show (z == s) = (s == z)
  exact Bool.eq_iff_iff.mpr (by rw [beq_iff_eq, beq_iff_eq]; exact eq_comm)
theorem flat_strs (ss : List Str) : (ss.map D.str).all flatD = true := by
  rw [List.all_map]
  exact List.all_eq_true.mpr fun _ _ => rfl
theorem le_line {n : Nat} (h : n ≤ 1000000) : n ≤ sizeLine := Nat.le_trans h (by rw [sizeLine_eq]; decide)
theorem lt_line {n : Nat} (h : n ≤ 1000000) : n < sizeLine := Nat.lt_of_le_of_lt h (by rw [sizeLine_eq]; decide)
theorem filter_true {α : Type} (l : List α) : l.filter (fun _ => true) = l := by
  induction l with
  | nil => rfl
  | cons a r ih => rw [List.filter_cons, if_pos rfl, ih]
def lets : List Nat := letters.cps.toList
def exts (w : Str) : List Str := lets.map fun c => w ++ ⟨#[c]⟩
def lev : Nat → List Str
  | 0 => [Str.empty]
  | n + 1 => (lev n).flatMap exts
def okIn (ts : List Str) (w : Str) : Bool := isNameS w && !ts.contains w
def W : List Str := lev 1 ++ lev 2 ++ lev 3
def ordS (ts : List Str) (many : Nat) : List Str := (W.filter (okIn ts)).take many
def ten : List Str := ["a", "b", "c", "z", "aa", "ab", "zz", "no", "or", "x"]
/-! the same over lists of codes -/
def extsL (w : List Nat) : List (List Nat) := lets.map fun c => w ++ [c]
def levL : Nat → List (List Nat)
  | 0 => [[]]
  | n + 1 => (levL n).flatMap extsL
def mkS (l : List Nat) : Str := ⟨l.toArray⟩
theorem mkS_app (l : List Nat) (c : Nat) : mkS (l ++ [c]) = mkS l ++ ⟨#[c]⟩ := by
  unfold mkS
  show (⟨_⟩ : Str) = ⟨l.toArray ++ #[c]⟩
  congr 1
  simp
theorem lev_L : ∀ n, lev n = (levL n).map mkS
  | 0 => rfl
  | n + 1 => by
    show (lev n).flatMap exts = ((levL n).flatMap extsL).map mkS
    rw [lev_L n, List.flatMap_map, List.map_flatMap]
    congr 1
    funext l
    unfold exts extsL
    rw [List.map_map]
    congr 1
    funext c
    exact (mkS_app l c).symm
theorem mkS_inj {a b : List Nat} (h : mkS a = mkS b) : a = b := by
  have e : (mkS a).cps.toList = (mkS b).cps.toList := by rw [h]
  exact e
def okL (l : List Nat) : Bool := decide (1 ≤ l.length) && decide (l.length ≤ 8) && !(words.map fun s => s.cps.toList).contains l && l.all (fun c => lets.contains c) && !(ten.map fun s => s.cps.toList).contains l
theorem contains_mkS (l : List Nat) (ws : List Str) : ws.contains (mkS l) = (ws.map fun s => s.cps.toList).contains l := by
  rw [List.contains_eq_any_beq, List.contains_eq_any_beq, List.any_map]
  congr 1
  funext s
  refine Bool.eq_iff_iff.mpr ⟨fun h => ?_, fun h => ?_⟩
  · have e := eq_of_beq h
    show (l == s.cps.toList) = true
    rw [← e]
    exact beq_self_eq_true _
  · have e : l = s.cps.toList := eq_of_beq h
    have e2 : mkS l = s := by rw [e]; rfl
    rw [e2]
    exact beq_self_eq_true _
theorem ok_L (l : List Nat) : okIn ten (mkS l) = okL l := by
  unfold okIn okL isNameS
  rw [contains_mkS, contains_mkS]
  have e1 : (mkS l).length = l.length := rfl
  have e2 : (mkS l).cps.toList = l := rfl
  rw [e1, e2]
  have e3 : (fun c => lets.contains c) = isLet := by
    funext c
    unfold isLet
    exact List.contains_eq_mem c lets
  rw [e3]
theorem many_L : 730 ≤ ((levL 1 ++ levL 2 ++ (levL 3).take 130).filter okL).length := by decide +kernel
theorem ok_mono {ts : List Str} (h : ∀ t ∈ ts, t ∈ ten) (w : Str) (q : okIn ten w = true) : okIn ts w = true := by
  unfold okIn at q ⊢
  obtain ⟨q1, q2⟩ := Bool.and_eq_true_iff.mp q
  rw [q1, Bool.true_and]
  cases e : ts.contains w with
  | false => rfl
  | true =>
    have hm : w ∈ ts := by simpa using e
    have e2 : ten.contains w = true := by simpa using h w hm
    rw [e2] at q2
    cases q2
theorem W_many {ts : List Str} (h : ∀ t ∈ ts, t ∈ ten) : 730 ≤ (W.filter (okIn ts)).length := by
  have e : (levL 1 ++ levL 2 ++ (levL 3).take 130).map mkS <+: W := by
    have a := ((List.prefix_append_right_inj (levL 1 ++ levL 2)).mpr (List.take_prefix 130 (levL 3))).map mkS
    have b : (levL 1 ++ levL 2 ++ levL 3).map mkS = W := by
      unfold W
      simp only [lev_L, List.map_append]
    exact b ▸ a
  have h1 := (e.sublist.filter (okIn ten)).length_le
  have h2 : ((levL 1 ++ levL 2 ++ (levL 3).take 130).map mkS).filter (okIn ten) = ((levL 1 ++ levL 2 ++ (levL 3).take 130).filter okL).map mkS := by
    rw [List.filter_map]
    exact congrArg (List.map mkS) (List.filter_congr fun l _ => ok_L l)
  rw [h2, List.length_map] at h1
  have h3 : (W.filter (okIn ten)).length ≤ (W.filter (okIn ts)).length := by
    rw [← List.countP_eq_length_filter, ← List.countP_eq_length_filter]
    exact List.countP_mono_left fun w _ q => ok_mono h w q
  have h4 := many_L
  omega
/-! the queue -/
def Pq (k : Nat) : List Str := lev 1 ++ (W.take k).flatMap exts
theorem exts_len (w : Str) : (exts w).length = 26 := by
  unfold exts
  rw [List.length_map]
  decide +kernel
theorem Pq_len (k : Nat) (h : k ≤ W.length) : (Pq k).length = 26 + 26 * k := by
  unfold Pq
  have e : ∀ l : List Str, (l.flatMap exts).length = 26 * l.length := by
    intro l
    induction l with
    | nil => rfl
    | cons x r ih => rw [List.flatMap_cons, List.length_append, exts_len, ih, List.length_cons]; omega
  have e1 : (lev 1).length = 26 := by
    show ([Str.empty].flatMap exts).length = 26
    rw [e]
    rfl
  rw [List.length_append, e, e1, List.length_take]
  omega
theorem W_pre : W <+: lev 1 ++ W.flatMap exts := by
  have e : lev 1 ++ W.flatMap exts = W ++ lev 4 := by
    unfold W
    rw [List.flatMap_append, List.flatMap_append]
    show lev 1 ++ (lev 2 ++ lev 3 ++ lev 4) = _
    simp only [List.append_assoc]
  rw [e]
  exact List.prefix_append _ _
theorem Pq_at {k : Nat} (h : k < W.length) : (Pq k)[k]? = W[k]? := by
  have e1 : Pq k <+: lev 1 ++ W.flatMap exts := by
    unfold Pq
    refine List.prefix_append_right_inj _ |>.mpr ?_
    conv => rhs; rw [← List.take_append_drop k W]
    rw [List.flatMap_append]
    exact List.prefix_append _ _
  have hk : k < (Pq k).length := by rw [Pq_len k (Nat.le_of_lt h)]; omega
  obtain ⟨t1, ht1⟩ := e1
  obtain ⟨t2, ht2⟩ := W_pre
  have a1 : (lev 1 ++ W.flatMap exts)[k]? = (Pq k)[k]? := by rw [← ht1, List.getElem?_append_left hk]
  have a2 : (lev 1 ++ W.flatMap exts)[k]? = W[k]? := by conv => lhs; rw [← ht2, List.getElem?_append_left h]
  rw [← a1, a2]
theorem Pq_succ {k : Nat} {w : Str} (h : W[k]? = some w) : Pq (k + 1) = Pq k ++ exts w := by
  unfold Pq
  rw [List.take_succ, h, List.flatMap_append, List.append_assoc]
  show _ ++ (_ ++ List.flatMap exts [w]) = _
  rw [List.flatMap_cons, List.flatMap_nil, List.append_nil]
theorem Pq_drop {k : Nat} {w : Str} (h : W[k]? = some w) : (Pq k).drop k = w :: (Pq k).drop (k + 1) := by
  have hk : k < W.length := (List.getElem?_eq_some_iff.mp h).1
  have hp := Pq_at hk
  rw [h] at hp
  obtain ⟨h1, h2⟩ := List.getElem?_eq_some_iff.mp hp
  rw [List.drop_eq_getElem_cons h1, h2]
theorem Pq_next {k : Nat} {w : Str} (h : W[k]? = some w) : (Pq k).drop (k + 1) ++ exts w = (Pq (k + 1)).drop (k + 1) := by
  have hk : k < W.length := (List.getElem?_eq_some_iff.mp h).1
  rw [Pq_succ h, List.drop_append_of_le_length]
  rw [Pq_len k (Nat.le_of_lt hk)]
  omega
theorem lev_len : ∀ n, ∀ w ∈ lev n, w.length = n
  | 0, w, h => by rw [List.mem_singleton.mp h]; rfl
  | n + 1, w, h => by
    obtain ⟨v, hv, hw⟩ := List.mem_flatMap.mp h
    obtain ⟨c, _, rfl⟩ := List.mem_map.mp hw
    rw [str_len_app, lev_len n v hv]
    rfl
theorem W_short {w : Str} (h : w ∈ W) : w.length ≤ 3 := by
  unfold W at h
  rcases List.mem_append.mp h with h | h
  · rcases List.mem_append.mp h with h | h
    · rw [lev_len 1 w h]; decide
    · rw [lev_len 2 w h]; decide
  · exact Nat.le_of_eq (lev_len 3 w h)
theorem levL_len : ∀ n, (levL n).length = 26 ^ n
  | 0 => rfl
  | n + 1 => by
    show ((levL n).flatMap extsL).length = _
    have e : ∀ l : List (List Nat), (l.flatMap extsL).length = 26 * l.length := by
      intro l
      induction l with
      | nil => rfl
      | cons x r ih =>
        rw [List.flatMap_cons, List.length_append, ih, List.length_cons]
        have : (extsL x).length = 26 := by unfold extsL; rw [List.length_map]; decide +kernel
        omega
    rw [e, levL_len n, Nat.pow_succ]
    omega
theorem W_len : W.length = 18278 := by
  unfold W
  rw [List.length_append, List.length_append, lev_L, lev_L, lev_L, List.length_map, List.length_map, List.length_map, levL_len, levL_len, levL_len]
/-- what was found so far, at the end -/
theorem found_end {ts : List Str} {many k : Nat} (h : ((W.take k).filter (okIn ts)).length = many) : (W.take k).filter (okIn ts) = ordS ts many := by
  unfold ordS
  have e : W.filter (okIn ts) = (W.take k).filter (okIn ts) ++ (W.drop k).filter (okIn ts) := by rw [← List.filter_append, List.take_append_drop]
  rw [e, List.take_append_of_le_length (by omega), ← h, List.take_length]
theorem found_step {ts : List Str} {k : Nat} {w : Str} (h : W[k]? = some w) : (W.take (k + 1)).filter (okIn ts) = if okIn ts w = true then (W.take k).filter (okIn ts) ++ [w] else (W.take k).filter (okIn ts) := by
  rw [List.take_succ, h, List.filter_append]
  simp only [Option.toList, List.filter_cons, List.filter_nil]
  split <;> simp
/-- the law's own list: the levels below s -/
def Es : Nat → List Str
  | 0 => []
  | s + 1 => Es s ++ lev (s + 1)
theorem Es3 : Es 3 = W := rfl
theorem Es_end {ts : List Str} {many : Nat} : ∀ {s : Nat}, s ≤ 3 → many ≤ ((Es s).filter (okIn ts)).length → ((Es s).filter (okIn ts)).take many = ordS ts many := fun {s} hs h => by
  have e : ∃ t, W = Es s ++ t := by
    match s, hs with
    | 0, _ => exact ⟨W, rfl⟩
    | 1, _ => exact ⟨lev 2 ++ lev 3, by unfold W; show _ = ([] ++ lev 1) ++ _; rw [List.nil_append, List.append_assoc]⟩
    | 2, _ => exact ⟨lev 3, rfl⟩
    | 3, _ => exact ⟨[], by rw [List.append_nil]; rfl⟩
  obtain ⟨t, ht⟩ := e
  unfold ordS
  rw [ht, List.filter_append, List.take_append_of_le_length h]
/-! ## is_integer -/
abbrev N_is_integer : List Str := ["value"]
theorem sc_is_integer : FnScope N_is_integer ["value"] (defScope s_is_integer) := ⟨rfl, rfl, rfl, by decide +kernel, rfl, by decide +kernel, by decide +kernel⟩
abbrev sp_is_integer (K : PySem.W.Frag) [LT K] : Sp := spP K 1 (fun ds => kn (h0 ds)) (fun ds => .bl (isIntD (h0 ds)))
def t_is_integer {P : Program} {w : World} {K : PySem.W.Frag} [LT K] {mg : Str → Option Value} (Z : Fs P w K mg) : TS :=
  (tRet (tAndV (tCB (rIsi K) (tCons (tVar 0) (tCons (tC (.ty "int")) tNil))) (tNotV (tCB (rIsi K) (tCons (tVar 0) (tCons (tC (.ty "bool")) tNil))))))
theorem ps_is_integer {P : Program} {w : World} {K : PySem.W.Frag} [LT K] {mg : Str → Option Value} {base : Heap} (Z : Fs P w K mg) {cdv : Value} {A : Around} {outer : List Env} {s : Shared} {H : Hp} {E : XK} (hr : Room 0 (A.deeper (PyProof.Rows.envOfC "is_integer" (defScope s_is_integer) s.heap.objs.size Z.a_is_integer cdv))) :
    PSs (cxOf CX0 P w K mg base N_is_integer "is_integer" (defScope s_is_integer) Z.a_is_integer cdv A outer s H E).nox (defBody s_is_integer) (t_is_integer Z) := by
  have hu := hu_of hr
  have hu64 := hr.units
  have hu66 := hu66_of hr
  exact (pss_one (ps_ret (pe_and (pe_callB call_isi (by rfl) Z.z_isinstance (by decide +kernel) (pa_cons (pv 0) (pa_cons (pe_bltn rfl Z.z_int (by decide +kernel) rfl) pa_nil))) (pe_one (pe_not (pe_callB call_isi (by rfl) Z.z_isinstance (by decide +kernel) (pa_cons (pv 0) (pa_cons (pe_bltn rfl Z.z_bool (by decide +kernel) rfl) pa_nil))))))))
theorem rd_is_integer {P : Program} {w : World} {K : PySem.W.Frag} [LT K] {mg : Str → Option Value} (Z : Fs P w K mg) {vs : List V} {H : Hp} {Q : VK} {E : XK} (h : sp_is_integer K vs H Q E) : t_is_integer Z { nx := fun _ H' => Q .non H', rt := Q } (L2.start N_is_integer vs) H := by
  refine fnP1 h (by decide) fun S0 d σ G hp st k => ?_
  obtain ⟨b, e1, e2, e3⟩ := kn_int (show kn d from hp)
  refine s_ret st (EvD.is (ed_and (ed_isi (by k_extra "eh") e1) fun _ => ed_not (ed_isi (by k_extra "eh") e2)) ?_) k
  show D.bl _ = D.bl (isIntD d)
  cases b <;> cases q : isIntD d <;> simp_all
theorem ok_is_integer {P : Program} {w : World} {K : PySem.W.Frag} [LT K] {mg : Str → Option Value} {base : Heap} (Z : Fs P w K mg) : FnOk P w K mg base CX0 1 Z.a_is_integer Z.d_is_integer ["value"] (sp_is_integer K) :=
  Z.F_is_integer.ok sc_is_integer (fun _ _ _ _ h => by first | exact spP_len h | exact spN_len h | exact spPen_len h) (fun cdv A outer s H vs Q E hr h => ⟨t_is_integer Z, ps_is_integer Z hr, rd_is_integer Z h⟩)
/-! ## is_within -/
abbrev N_is_within : List Str := ["value", "least", "most"]
theorem sc_is_within : FnScope N_is_within ["value", "least", "most"] (defScope s_is_within) := ⟨rfl, rfl, rfl, by decide +kernel, rfl, by decide +kernel, by decide +kernel⟩
/-- least is an integer; most is an integer or None; the value is of a known kind -/
def isWithin (v lo hi : D) : Bool := match v, lo, hi with
  | .int v, .int lo, .int hi => decide (lo ≤ v) && decide (v ≤ hi)
  | .int v, .int lo, .non => decide (lo ≤ v)
  | _, _, _ => false
abbrev sp_is_within (K : PySem.W.Frag) [LT K] : Sp := spP K 3 (fun ds => kn (h0 ds) ∧ (∃ i, h1 ds = .int i) ∧ (h2 ds = .non ∨ ∃ i, h2 ds = .int i)) (fun ds => .bl (isWithin (h0 ds) (h1 ds) (h2 ds)))
def t_is_within {P : Program} {w : World} {K : PySem.W.Frag} [LT K] {mg : Str → Option Value} (Z : Fs P w K mg) : TS :=
  (tRet (tAndV (tCall (sp_is_integer K) [] E0 (tCons (tVar 0) tNil)) (tAndV (tOp (rI0 fun i j => .bl (decide (i ≤ j))) (tVar 1) (tVar 0)) (tOrV (tOp rIsN (tVar 2) (tC .non)) (tOp (rI0 fun i j => .bl (decide (i ≤ j))) (tVar 0) (tVar 2))))))
theorem ps_is_within {P : Program} {w : World} {K : PySem.W.Frag} [LT K] {mg : Str → Option Value} {base : Heap} (Z : Fs P w K mg) {cdv : Value} {A : Around} {outer : List Env} {s : Shared} {H : Hp} {E : XK} (hr : Room 1 (A.deeper (PyProof.Rows.envOfC "is_within" (defScope s_is_within) s.heap.objs.size Z.a_is_within cdv))) :
    PSs (cxOf CX0 P w K mg base N_is_within "is_within" (defScope s_is_within) Z.a_is_within cdv A outer s H E).nox (defBody s_is_within) (t_is_within Z) := by
  have hu := hu_of hr
  have hu64 := hr.units
  have hu66 := hu66_of hr
  exact (pss_one (ps_ret (pe_and (pe_call (ok_is_integer Z) (hr.mono (by decide)) rfl Z.m_is_integer Z.F_is_integer.kp Z.b_is_integer .nil pass0 (pa_cons (pv 0) pa_nil)) (pe_and (pe_cmpR op_le (pv 1) (pv 0) (nomark _)) (pe_one (pe_or (pe_cmpR op_isN (pv 2) pe_non (nomark _)) (pe_one (pe_cmpR op_le (pv 0) (pv 2) (nomark _)))))))))
theorem rd_is_within {P : Program} {w : World} {K : PySem.W.Frag} [LT K] {mg : Str → Option Value} (Z : Fs P w K mg) {vs : List V} {H : Hp} {Q : VK} {E : XK} (h : sp_is_within K vs H Q E) : t_is_within Z { nx := fun _ H' => Q .non H', rt := Q } (L2.start N_is_within vs) H := by
  refine fnP3 h (by decide) fun S0 v lo hi σ G hp st k => ?_
  obtain ⟨h1, ⟨i, h2⟩, h3⟩ := hp
  cases (show lo = .int i from h2)
  have first := ed_call (p := none) (K := K) (S := S0) (σ := σ) (n := 1) (pre := fun ds => kn (h0 ds)) (f := fun ds => .bl (isIntD (h0 ds))) (E := E0) (t := tCons (tVar 0) tNil) (ds := [v]) (by k_extra "ea") rfl h1
  by_cases hv : isIntD v = true
  · obtain ⟨j, rfl⟩ : ∃ j, v = .int j := by cases v <;> first | exact ⟨_, rfl⟩ | cases hv
    rcases h3 with h3 | ⟨u, h3⟩
    · cases (show hi = .non from h3)
      refine s_ret st (EvD.is (ed_and first fun _ => ed_and (by k_extra "ev") fun _ => ed_or (a := true) (b := true) (by k_extra "ev") fun z => by cases z) ?_) k
      show D.bl (true && (decide (i ≤ j) && true)) = D.bl (decide (i ≤ j))
      rw [Bool.and_true, Bool.true_and]
    · cases (show hi = .int u from h3)
      refine s_ret st (EvD.is (ed_and first fun _ => ed_and (by k_extra "ev") fun _ => ed_or (a := false) (by k_extra "ev") fun z => by k_extra "ev") ?_) k
      rfl
  · refine s_ret st (EvD.is (ed_and (b := false) first fun q => absurd q hv) ?_) k
    show D.bl (isIntD v && false) = D.bl (isWithin v (.int i) hi)
    cases v <;> first | (rw [Bool.and_false]; rfl) | exact absurd rfl hv
theorem ok_is_within {P : Program} {w : World} {K : PySem.W.Frag} [LT K] {mg : Str → Option Value} {base : Heap} (Z : Fs P w K mg) : FnOk P w K mg base CX0 2 Z.a_is_within Z.d_is_within ["value", "least", "most"] (sp_is_within K) :=
  Z.F_is_within.ok sc_is_within (fun _ _ _ _ h => by first | exact spP_len h | exact spN_len h | exact spPen_len h) (fun cdv A outer s H vs Q E hr h => ⟨t_is_within Z, ps_is_within Z hr, rd_is_within Z h⟩)
/-! ## is_row -/
abbrev N_is_row : List Str := ["value"]
theorem sc_is_row : FnScope N_is_row ["value"] (defScope s_is_row) := ⟨rfl, rfl, rfl, by decide +kernel, rfl, by decide +kernel, by decide +kernel⟩
abbrev sp_is_row (K : PySem.W.Frag) [LT K] : Sp := spP K 1 (fun ds => kn (h0 ds)) (fun ds => .bl (isRowD (h0 ds)))
def t_is_row {P : Program} {w : World} {K : PySem.W.Frag} [LT K] {mg : Str → Option Value} (Z : Fs P w K mg) : TS :=
  (tRet (tCB (rIsiT K) (tCons (tVar 0) (tCons (tTup (tCons (tC (.ty "list")) (tCons (tC (.ty "tuple")) tNil))) tNil))))
theorem ps_is_row {P : Program} {w : World} {K : PySem.W.Frag} [LT K] {mg : Str → Option Value} {base : Heap} (Z : Fs P w K mg) {cdv : Value} {A : Around} {outer : List Env} {s : Shared} {H : Hp} {E : XK} (hr : Room 0 (A.deeper (PyProof.Rows.envOfC "is_row" (defScope s_is_row) s.heap.objs.size Z.a_is_row cdv))) :
    PSs (cxOf CX0 P w K mg base N_is_row "is_row" (defScope s_is_row) Z.a_is_row cdv A outer s H E).nox (defBody s_is_row) (t_is_row Z) := by
  have hu := hu_of hr
  have hu64 := hr.units
  have hu66 := hu66_of hr
  exact (pss_one (ps_ret (pe_callB call_isiT (by rfl) Z.z_isinstance (by decide +kernel) (pa_cons (pv 0) (pa_cons (pe_tup (pa_cons (pe_bltn rfl Z.z_list (by decide +kernel) rfl) (pa_cons (pe_bltn rfl Z.z_tuple (by decide +kernel) rfl) pa_nil))) pa_nil)))))
theorem rd_is_row {P : Program} {w : World} {K : PySem.W.Frag} [LT K] {mg : Str → Option Value} (Z : Fs P w K mg) {vs : List V} {H : Hp} {Q : VK} {E : XK} (h : sp_is_row K vs H Q E) : t_is_row Z { nx := fun _ H' => Q .non H', rt := Q } (L2.start N_is_row vs) H := by
  refine fnP1 h (by decide) fun S0 d σ G hp st k => ?_
  exact s_ret st (ed_isi2 (by k_extra "eh") (kn_row hp)) k
theorem ok_is_row {P : Program} {w : World} {K : PySem.W.Frag} [LT K] {mg : Str → Option Value} {base : Heap} (Z : Fs P w K mg) : FnOk P w K mg base CX0 1 Z.a_is_row Z.d_is_row ["value"] (sp_is_row K) :=
  Z.F_is_row.ok sc_is_row (fun _ _ _ _ h => by first | exact spP_len h | exact spN_len h | exact spPen_len h) (fun cdv A outer s H vs Q E hr h => ⟨t_is_row Z, ps_is_row Z hr, rd_is_row Z h⟩)
/-! ## is_name -/
abbrev N_is_name : List Str := ["value", "sign"]
theorem sc_is_name : FnScope N_is_name ["value"] (defScope s_is_name) := ⟨rfl, rfl, rfl, by decide +kernel, rfl, by decide +kernel, by decide +kernel⟩
abbrev sp_is_name (K : PySem.W.Frag) [LT K] : Sp := spP K 1 (fun ds => kns (h0 ds)) (fun ds => .bl (isNameD (h0 ds)))
def isLetD : D → Bool
  | .str s => s.cps.toList.all isLet
  | _ => false
theorem signs_let (s : Str) : (((signs s).filter fun _ => true).map fun d => .bl (isLetD d)) = (s.cps.toList.map isLet).map D.bl := by
  rw [filter_true]
  unfold signs
  rw [List.map_map, List.map_map]
  congr 1
  funext c
  show D.bl ([c].all isLet) = D.bl (isLet c)
  rw [List.all_cons, List.all_nil, Bool.and_true]
def nameTest (s : Str) : Bool := false || (!(decide ((1 : Int) ≤ (s.length : Int)) && decide ((s.length : Int) ≤ 8)) || inD (.str s) (words.map D.str))
theorem nameTest_eq (s : Str) : nameTest s = !(decide (1 ≤ s.length) && decide (s.length ≤ 8) && !words.contains s) := by
  unfold nameTest
  rw [inD_strs, show decide ((1 : Int) ≤ (s.length : Int)) = decide (1 ≤ s.length) from decide_eq_decide.mpr (by omega), show decide ((s.length : Int) ≤ 8) = decide (s.length ≤ 8) from decide_eq_decide.mpr (by omega)]
  cases decide (1 ≤ s.length) <;> cases decide (s.length ≤ 8) <;> cases words.contains s <;> rfl
theorem name_no {s : Str} (h : nameTest s = true) : isNameS s = false := by
  rw [nameTest_eq] at h
  unfold isNameS
  cases q : (decide (1 ≤ s.length) && decide (s.length ≤ 8) && !words.contains s)
  · rfl
  · rw [q] at h; cases h
theorem name_yes {s : Str} (h : nameTest s = false) : isNameS s = s.cps.toList.all isLet := by
  rw [nameTest_eq] at h
  unfold isNameS
  cases q : (decide (1 ≤ s.length) && decide (s.length ≤ 8) && !words.contains s)
  · rw [q] at h; cases h
  · rfl
theorem signs_mem {s : Str} {d : D} (h : d ∈ signs s) : ∃ c, d = .str ⟨#[c]⟩ := by
  obtain ⟨c, _, e⟩ := List.mem_map.mp h
  exact ⟨c, e.symm⟩
theorem signs_len {s : Str} {n : Nat} (h : s.length < n) : (signs s).length < n := by
  unfold signs
  rw [List.length_map]
  exact h
def t_is_name {P : Program} {w : World} {K : PySem.W.Frag} [LT K] {mg : Str → Option Value} (Z : Fs P w K mg) : TS :=
  (tSeq (tIfS (tOr (tNot (tB (tCB (rIsi K) (tCons (tVar 0) (tCons (tC (.ty "str")) tNil))))) (tOr (tNot (tTest (tChain (rI0 fun i j => .bl (decide (i ≤ j))) (rI0 fun i j => .bl (decide (i ≤ j))) (tC (.int 1)) (tCB (rLenA K) (tCons (tVar 0) tNil)) (tC (.int 8))))) (tTest (tOp (rInV K) (tVar 0) (tC (.ref Z.a_WORDS))))))
    (tRet (tC (.bl false)))
    tNext)
    (tRet (tCB (rAll K) (tCons (tLc (iStr (tVar 0)) (gName 1) tYes (tOp (rInV K) (tVar 1) (tC (.str "abcdefghijklmnopqrstuvwxyz"))) [1]) tNil))))
theorem ps_is_name {P : Program} {w : World} {K : PySem.W.Frag} [LT K] {mg : Str → Option Value} {base : Heap} (Z : Fs P w K mg) {cdv : Value} {A : Around} {outer : List Env} {s : Shared} {H : Hp} {E : XK} (hr : Room 0 (A.deeper (PyProof.Rows.envOfC "is_name" (defScope s_is_name) s.heap.objs.size Z.a_is_name cdv))) :
    PSs (cxOf CX0 P w K mg base N_is_name "is_name" (defScope s_is_name) Z.a_is_name cdv A outer s H E).nox (defBody s_is_name) (t_is_name Z) := by
  have hu := hu_of hr
  have hu64 := hr.units
  have hu66 := hu66_of hr
  exact (pss_cons (ps_if (PW.pt (pw_or (pt_not (pt_val (pe_callB call_isi (by rfl) Z.z_isinstance (by decide +kernel) (pa_cons (pv 0) (pa_cons (pe_bltn rfl Z.z_str (by decide +kernel) rfl) pa_nil))))) (pw_or (pt_not (pt_chain op_le op_le pe_int (pe_callB call_lenA (by rfl) Z.z_len (by decide +kernel) (pa_cons (pv 0) pa_nil)) (pe_gi rfl Z.g_MOST_SIGNS))) (pw_or1 (pt_cmpR (op_inV hu) (pv 0) (pe_gr rfl Z.g_WORDS) rfl)))))
    (pss_one (ps_ret pe_bl))
    pss_nil)
    (pss_one (ps_ret (pe_callB (cr_all rfl) (by rfl) Z.z_all (by decide +kernel) (pa_cons (pe_lc (own := [("sign", 1)]) rfl sc_is_name.nd (pi_str (pv 0)) (blkOk_by (own := [("sign", 1)]) (N := N_is_name) (sc := defScope s_is_name) (by decide +kernel)) (fun _ _ _ _ _ => (pg_name (i := 1) sc_is_name.nd rfl (Or.inl rfl))) (fun _ _ _ _ _ => pts_nil) (fun _ _ _ _ _ => (pe_cmpR (op_inV hu) (pv 1) (pe_gs rfl Z.g_LETTERS) rfl))) pa_nil)))))
theorem rd_is_name {P : Program} {w : World} {K : PySem.W.Frag} [LT K] {mg : Str → Option Value} (Z : Fs P w K mg) {vs : List V} {H : Hp} {Q : VK} {E : XK} (h : sp_is_name K vs H Q E) : t_is_name Z { nx := fun _ H' => Q .non H', rt := Q } (L2.start N_is_name vs) H := by
  refine fnP1 h (by decide) fun S0 d σ G hp st k => ?_
  obtain ⟨hk, hl⟩ := hp
  have hk : kn d := hk
  have e1 := kn_str hk
  by_cases hs : ∃ s, d = .str s
  · obtain ⟨s, rfl⟩ := hs
    have hz := hl s rfl
    have hw : EvD K none (tC (.ref Z.a_WORDS)) σ S0 (.tup (words.map D.str)) := ed_c Z.t_WORDS.rp
    refine s_seq (s_if st (et_or (a := false) (EvT.is (et_not (et_B (ed_isi (by k_extra "eh") e1))) rfl) fun _ =>
      et_or (et_not (et_test (ed_chain (by k_extra "eh") (EvD.h (ed_cb (eh_cons (by k_extra "eh") eh_nil) (rl_S (le_line hz)))) rd_B0 (fun _ => by k_extra "eh") rd_B0))) fun _ =>
        et_test (ed_op (by k_extra "eh") hw.h (rd_inT2 rfl (flat_strs words)))) (fun hb S1 st1 => ?_) (fun hb S1 st1 => ?_))
    · refine s_ret st1 ed_bl (fun v S' g t r => k v S' g t ?_)
      show Rp K S'.F v (.bl (isNameS s))
      rw [name_no hb]
      exact r
    · refine s_next ?_
      dsimp only
      refine (s_ret st1 (EvD.is (ed_cb (eh_cons (EvO.h (eo_lc (i := 1) (vs := [1]) (f := fun d => .bl (isLetD d)) (b := fun _ => true) st1 (es_str (by k_extra "ev")) (by decide) (by decide) (fun d hd B' n' σ' S' st' => ⟨et_yes, fun _ => ?_⟩) (signs_len (lt_line hz)))) eh_nil) (by rw [signs_let]; exact rc_all)) ?_) k)
      · obtain ⟨c, rfl⟩ := signs_mem hd
        refine EvD.is (ed_op (by k_extra "eh") (by k_extra "eh") rd_inS2) ?_
        show D.bl _ = D.bl ([c].all isLet)
        rw [List.all_cons, List.all_nil, Bool.and_true]
        rfl
      · show D.bl _ = D.bl (isNameS s)
        rw [name_yes hb]
        congr 1
        rw [List.all_map]
        rfl
  · have e2 : isiD "str" d = some false := by
      rw [e1]
      cases d <;> first | rfl | exact absurd ⟨_, rfl⟩ hs
    refine s_seq (s_if (b := true) st (et_or (a := true) (b := true) (EvT.is (et_not (et_B (ed_isi (by k_extra "eh") e2))) rfl) fun z => by cases z) (fun hb S1 st1 => ?_) (fun hb S1 st1 => by cases hb))
    · refine s_ret st1 ed_bl (fun v S' g t r => k v S' g t ?_)
      have e : isNameD d = false := by cases d <;> first | rfl | exact absurd ⟨_, rfl⟩ hs
      show Rp K S'.F v (.bl (isNameD d))
      rw [e]
      exact r
theorem ok_is_name {P : Program} {w : World} {K : PySem.W.Frag} [LT K] {mg : Str → Option Value} {base : Heap} (Z : Fs P w K mg) : FnOk P w K mg base CX0 1 Z.a_is_name Z.d_is_name ["value"] (sp_is_name K) :=
  Z.F_is_name.ok sc_is_name (fun _ _ _ _ h => by first | exact spP_len h | exact spN_len h | exact spPen_len h) (fun cdv A outer s H vs Q E hr h => ⟨t_is_name Z, ps_is_name Z hr, rd_is_name Z h⟩)
/-! ## are_names -/
abbrev N_are_names : List Str := ["value", "one"]
theorem sc_are_names : FnScope N_are_names ["value"] (defScope s_are_names) := ⟨rfl, rfl, rfl, by decide +kernel, rfl, by decide +kernel, by decide +kernel⟩
def keyS (d : D) : Str := match d with
  | .str s => s
  | _ => Str.empty
def areNamesD (d : D) : Bool := match rowD d with
  | some ds => ds.all isNameD && decide ((uniq (ds.map keyS)).length = ds.length)
  | none => false
abbrev sp_are_names (K : PySem.W.Frag) [LT K] : Sp := spP K 1 (fun ds => kn (h0 ds) ∧ ∀ es, rowD (h0 ds) = some es → es.length ≤ 1000 ∧ ∀ e ∈ es, kns e) (fun ds => .bl (areNamesD (h0 ds)))
def t_are_names {P : Program} {w : World} {K : PySem.W.Frag} [LT K] {mg : Str → Option Value} (Z : Fs P w K mg) : TS :=
  (tSeq (tIfS (tOr (tNot (tB (tCall (sp_is_row K) [] E0 (tCons (tVar 0) tNil)))) (tNot (tB (tCB (rAll K) (tCons (tLc (iRow K (tVar 0)) (gName 1) tYes (tCall (sp_is_name K) [] E0 (tCons (tVar 1) tNil)) [1]) tNil)))))
    (tRet (tC (.bl false)))
    tNext)
    (tRet (tOp (rEqU K) (tCB (rLenA K) (tCons (tDc (iRow K (tVar 0)) (gName 1) tYes (tVar 1) (tC (.bl true)) [1]) tNil)) (tCB (rLenA K) (tCons (tVar 0) tNil)))))
theorem ps_are_names {P : Program} {w : World} {K : PySem.W.Frag} [LT K] {mg : Str → Option Value} {base : Heap} (Z : Fs P w K mg) {cdv : Value} {A : Around} {outer : List Env} {s : Shared} {H : Hp} {E : XK} (hr : Room 1 (A.deeper (PyProof.Rows.envOfC "are_names" (defScope s_are_names) s.heap.objs.size Z.a_are_names cdv))) :
    PSs (cxOf CX0 P w K mg base N_are_names "are_names" (defScope s_are_names) Z.a_are_names cdv A outer s H E).nox (defBody s_are_names) (t_are_names Z) := by
  have hu := hu_of hr
  have hu64 := hr.units
  have hu66 := hu66_of hr
  exact (pss_cons (ps_if (PW.pt (pw_or (pt_not (pt_val (pe_call (ok_is_row Z) (hr.mono (by decide)) rfl Z.m_is_row Z.F_is_row.kp Z.b_is_row .nil pass0 (pa_cons (pv 0) pa_nil)))) (pw_or1 (pt_not (pt_val (pe_callB (cr_all rfl) (by rfl) Z.z_all (by decide +kernel) (pa_cons (pe_lc (own := [("one", 1)]) rfl sc_are_names.nd (pi_row (pv 0)) (blkOk_by (own := [("one", 1)]) (N := N_are_names) (sc := defScope s_are_names) (by decide +kernel)) (fun _ _ _ _ _ => (pg_name (i := 1) sc_are_names.nd rfl (Or.inl rfl))) (fun _ _ _ _ _ => pts_nil) (fun _ _ _ _ _ => (pe_call (ok_is_name Z) (hr.mono (by decide)) rfl Z.m_is_name Z.F_is_name.kp Z.b_is_name .nil pass0 (pa_cons (pv 1) pa_nil)))) pa_nil)))))))
    (pss_one (ps_ret pe_bl))
    pss_nil)
    (pss_one (ps_ret (pe_cmpR (op_eqU hu64) (pe_callB call_lenA (by rfl) Z.z_len (by decide +kernel) (pa_cons (pe_dc (own := [("one", 1)]) rfl sc_are_names.nd (pi_row (pv 0)) (blkOk_by (own := [("one", 1)]) (N := N_are_names) (sc := defScope s_are_names) (by decide +kernel)) (fun _ _ _ _ _ => (pg_name (i := 1) sc_are_names.nd rfl (Or.inl rfl))) (fun _ _ _ _ _ => pts_nil) (fun _ _ _ _ _ => (pv 1)) (fun _ _ _ _ _ => pe_bl)) pa_nil)) (pe_callB call_lenA (by rfl) Z.z_len (by decide +kernel) (pa_cons (pv 0) pa_nil)) (nomark _)))))
theorem all_map (es : List D) (f : D → Bool) : ((es.filter fun _ => true).map fun d => D.bl (f d)) = (es.map f).map D.bl := by
  rw [filter_true, List.map_map]
  rfl
theorem names_len (es : List D) (f : D → D) : (mkD ((es.filter fun _ => true).map fun d => ((.inr (keyS d) : Key), f d))).length = (uniq (es.map keyS)).length := by
  have e := congrArg List.length (mkD_keys ((es.filter fun _ => true).map fun d => ((.inr (keyS d) : Key), f d)))
  rw [List.length_map] at e
  rw [e, filter_true, List.map_map]
  have e2 : es.map ((fun x => x.1) ∘ fun d => ((.inr (keyS d) : Key), f d)) = (es.map keyS).map fun s => (.inr s : Key) := by rw [List.map_map]; rfl
  rw [e2, uniq_map _ (fun x y q => by cases q; rfl), List.length_map]
theorem rd_are_names {P : Program} {w : World} {K : PySem.W.Frag} [LT K] {mg : Str → Option Value} (Z : Fs P w K mg) {vs : List V} {H : Hp} {Q : VK} {E : XK} (h : sp_are_names K vs H Q E) : t_are_names Z { nx := fun _ H' => Q .non H', rt := Q } (L2.start N_are_names vs) H := by
  refine fnP1 h (by decide) fun S0 d σ G hp st k => ?_
  obtain ⟨hk, he⟩ := hp
  have hk : kn d := hk
  have c1 : EvD K none (tCall (sp_is_row K) [] E0 (tCons (tVar 0) tNil)) σ S0 (.bl (isRowD d)) := ed_call (ds := [d]) (ea_cons (ed_var st rfl) ea_nil) rfl hk
  cases hr : rowD d with
  | none =>
    have e : isRowD d = false := by cases d <;> first | rfl | cases hr
    rw [e] at c1
    refine s_seq (s_if st (et_orT (EvT.is (et_not (et_B c1)) rfl)) (fun _ S1 st1 => ?_) (fun hb S1 st1 => by cases hb))
    refine s_ret st1 (EvD.is ed_bl ?_) k
    show D.bl false = D.bl (areNamesD d)
    unfold areNamesD
    rw [hr]
  | some es =>
    have e : isRowD d = true := by cases d <;> first | rfl | cases hr
    rw [e] at c1
    obtain ⟨hl, hes⟩ := he es hr
    have hz : es.length < sizeLine := Nat.lt_of_le_of_lt hl (by rw [sizeLine_eq]; decide)
    have c2 : EvD K none (tCB (rAll K) (tCons (tLc (iRow K (tVar 0)) (gName 1) tYes (tCall (sp_is_name K) [] E0 (tCons (tVar 1) tNil)) [1]) tNil)) σ S0 (.bl (es.all isNameD)) := by
      refine EvD.is (ed_cb (eh_cons (EvO.h (eo_lc (i := 1) (vs := [1]) (f := fun d => .bl (isNameD d)) (b := fun _ => true) st (es_row (ed_var st rfl) hr) (by decide) (by decide) (fun x hx B' n' σ' S' st' => ⟨et_yes, fun _ => ed_call (ds := [x]) (ea_cons (ed_var st' rfl) ea_nil) rfl (hes x hx)⟩) hz)) eh_nil) (by rw [all_map]; exact rc_all)) ?_
      rw [List.all_map]
      rfl
    refine s_seq (s_if st (et_or (EvT.is (et_not (et_B c1)) rfl) fun _ => et_not (et_B c2)) (fun hb S1 st1 => ?_) (fun hb S1 st1 => ?_))
    · refine s_ret st1 (EvD.is ed_bl ?_) k
      show D.bl false = D.bl (areNamesD d)
      have hb : (!es.all isNameD) = true := hb
      unfold areNamesD
      rw [hr]
      show D.bl false = D.bl (es.all isNameD && _)
      rw [show es.all isNameD = false by simpa using hb]
      rfl
    · have hb : (!es.all isNameD) = false := hb
      have hall : es.all isNameD = true := by simpa using hb
      have hstr : ∀ x ∈ es, x = D.str (keyS x) := fun x hx => by
        have q := List.all_eq_true.mp hall x hx
        cases x <;> first | rfl | cases q
      refine s_next ?_
      dsimp only
      refine s_ret st1 (EvD.is (ed_op (EvD.h (ed_len (EvD.h (EvOD.ed (eod_dc (i := 1) (vs := [1]) (kf := fun d => (.inr (keyS d) : Key)) (f := fun _ => .bl true) (b := fun _ => true) st1 (es_row (ed_var st1 rfl) hr) (by decide) (by decide) (fun x hx B' n' σ' S' st' => ⟨et_yes, fun _ => ⟨EvD.is (ed_var st' rfl) (hstr x hx), ed_bl⟩⟩) hz))) rl_D)) (EvD.h (ed_len (EvD.h (ed_var st1 rfl)) (rl_row hr (Nat.le_of_lt hz)))) rd_eqI) ?_) k
      show D.bl _ = D.bl (areNamesD d)
      unfold areNamesD
      rw [hr, names_len]
      show D.bl (decide (((uniq (es.map keyS)).length : Int) = (es.length : Int))) = D.bl (es.all isNameD && _)
      rw [hall, Bool.true_and]
      congr 1
      exact decide_eq_decide.mpr (by omega)
theorem ok_are_names {P : Program} {w : World} {K : PySem.W.Frag} [LT K] {mg : Str → Option Value} {base : Heap} (Z : Fs P w K mg) : FnOk P w K mg base CX0 2 Z.a_are_names Z.d_are_names ["value"] (sp_are_names K) :=
  Z.F_are_names.ok sc_are_names (fun _ _ _ _ h => by first | exact spP_len h | exact spN_len h | exact spPen_len h) (fun cdv A outer s H vs Q E hr h => ⟨t_are_names Z, ps_are_names Z hr, rd_are_names Z h⟩)
/-! ## names_in_order -/
abbrev N_names_in_order : List Str := ["taken", "many", "found", "line", "one", "letter"]
theorem sc_names_in_order : FnScope N_names_in_order ["taken", "many"] (defScope s_names_in_order) := ⟨rfl, rfl, rfl, by decide +kernel, rfl, by decide +kernel, by decide +kernel⟩
def keyK (k : Key) : Str := match k with
  | .inr s => s
  | .inl _ => Str.empty
def takenD (d : D) : List Str := match d with
  | .lst xs => xs.map keyS
  | .dic kds => kds.map fun kd => keyK kd.1
  | _ => []
def manyD (d : D) : Nat := match d with
  | .int i => i.toNat
  | _ => 0
def preOrd (ds : List D) : Prop := ∃ (ts : List Str) (many : Nat), (∀ t ∈ ts, t ∈ ten) ∧ ts.length ≤ 20 ∧ h1 ds = .int (many : Int) ∧ many ≤ 730 ∧ (h0 ds = .lst (ts.map D.str) ∨ ∃ kds : List (Key × D), h0 ds = .dic kds ∧ kds.map (·.1) = ts.map Sum.inr)
abbrev sp_names_in_order (K : PySem.W.Frag) [LT K] : Sp := spP K 2 preOrd (fun ds => .lst ((ordS (takenD (h0 ds)) (manyD (h1 ds))).map D.str))
def t_names_in_order {P : Program} {w : World} {K : PySem.W.Frag} [LT K] {mg : Str → Option Value} (Z : Fs P w K mg) : TS :=
  (tSeq (tPar 2 3 (tCons (tLst tNil) (tCons (tCB rListS (tCons (tC (.str "abcdefghijklmnopqrstuvwxyz")) tNil)) tNil)))
    (tSeq (tWhile (tTest (tOp (rI0 fun i j => .bl (decide (i < j))) (tCB (rLenA K) (tCons (tVar 2) tNil)) (tVar 1)))
    (tSeq (tAsg (tBM K "list" rPopAt (tVar 3) (tCons (tC (.int 0)) tNil)) (gName 4))
    (tSeq (tDrop (tBM K "list" rExtend (tVar 3) (tCons (tIf (tTest (tOp (rI0 fun i j => .bl (decide (i < j))) (tCB (rLenA K) (tCons (tVar 4) tNil)) (tC (.int 8)))) (tLc (iStr (tC (.str "abcdefghijklmnopqrstuvwxyz"))) (gName 5) tYes (tOp (rAddU K) (tVar 4) (tVar 5)) [5]) (tLst tNil)) tNil)))
    (tIfS (tAnd (tB (tCall (sp_is_name K) [] E0 (tCons (tVar 4) tNil))) (tTest (tOp (rNinV K) (tVar 4) (tVar 0))))
    (tDrop (tBM K "list" rAppend (tVar 2) (tCons (tVar 4) tNil)))
    tNext))))
    (tRet (tVar 2))))
theorem ps_names_in_order {P : Program} {w : World} {K : PySem.W.Frag} [LT K] {mg : Str → Option Value} {base : Heap} (Z : Fs P w K mg) {cdv : Value} {A : Around} {outer : List Env} {s : Shared} {H : Hp} {E : XK} (hr : Room 1 (A.deeper (PyProof.Rows.envOfC "names_in_order" (defScope s_names_in_order) s.heap.objs.size Z.a_names_in_order cdv))) :
    PSs (cxOf CX0 P w K mg base N_names_in_order "names_in_order" (defScope s_names_in_order) Z.a_names_in_order cdv A outer s H E).nox (defBody s_names_in_order) (t_names_in_order Z) := by
  have hu := hu_of hr
  have hu64 := hr.units
  have hu66 := hu66_of hr
  exact (pss_cons (ps_par (i := 2) (j := 3) rfl sc_names_in_order.nd rfl rfl (by decide) rfl rfl (pa_cons (pe_lst pa_nil) (pa_cons (pe_callTy (call_listS rfl) (by rfl) Z.z_list (by decide +kernel) (pa_cons (pe_gs rfl Z.g_LETTERS) pa_nil)) pa_nil)) rfl)
    (pss_cons (ps_while PassesOwn.never (pt_cmpR op_lt (pe_callB call_lenA (by rfl) Z.z_len (by decide +kernel) (pa_cons (pv 2) pa_nil)) (pv 1) (nomark _))
    (pss_cons (ps_set (i := 4) sc_names_in_order.nd rfl (Or.inr rfl) (pe_bm PySem.F.plainAttrs_list PySem.F.slot_list_pop PySem.F.type_list_pop mt_popAt (pv 3) (pa_cons pe_int pa_nil)))
    (pss_cons (ps_expr (pe_bm PySem.F.plainAttrs_list PySem.F.slot_list_extend PySem.F.type_list_extend mt_extend (pv 3) (pa_cons (pe_ifExp (pt_cmpR op_lt (pe_callB call_lenA (by rfl) Z.z_len (by decide +kernel) (pa_cons (pv 4) pa_nil)) (pe_gi rfl Z.g_MOST_SIGNS) (nomark _)) (pe_lc (own := [("letter", 5)]) rfl sc_names_in_order.nd (pi_str (pe_gs rfl Z.g_LETTERS)) (blkOk_by (own := [("letter", 5)]) (N := N_names_in_order) (sc := defScope s_names_in_order) (by decide +kernel)) (fun _ _ _ _ _ => (pg_name (i := 5) sc_names_in_order.nd rfl (Or.inl rfl))) (fun _ _ _ _ _ => pts_nil) (fun _ _ _ _ _ => (pe_op op_addU (pv 4) (pv 5)))) (pe_lst pa_nil)) pa_nil)))
    (pss_one (ps_if (PW.pt (pw_and (pt_val (pe_call (ok_is_name Z) (hr.mono (by decide)) rfl Z.m_is_name Z.F_is_name.kp Z.b_is_name .nil pass0 (pa_cons (pv 4) pa_nil))) (pw_and1 (pt_cmpR (op_ninV hu) (pv 4) (pv 0) rfl))))
    (pss_one (ps_expr (pe_bm PySem.F.plainAttrs_list PySem.F.slot_list_append PySem.F.type_list_append mt_append (pv 2) (pa_cons (pv 4) pa_nil))))
    pss_nil)))))
    (pss_one (ps_ret (pv 2)))))
theorem seq0 (n : Nat) : seqIndex? 0 (n + 1) = some 0 := by
  unfold seqIndex?
  simp
theorem line0 : ((Pq 0).drop 0).map D.str = signs letters := by
  unfold Pq signs
  show ([Str.empty].flatMap exts ++ ([] : List Str).flatMap exts).map D.str = lets.map _
  rw [List.flatMap_nil, List.append_nil, List.flatMap_cons, List.flatMap_nil, List.append_nil]
  unfold exts
  rw [List.map_map]
  exact List.map_congr_left fun c _ => rfl
theorem exts_eq (w : Str) : (exts w).map D.str = ((signs letters).filter fun _ => true).map fun d => D.str (w ++ keyS d) := by
  rw [filter_true]
  unfold exts signs
  rw [List.map_map, List.map_map]
  rfl
theorem taken_eq {d : D} {ts : List Str} (hd : d = .lst (ts.map D.str) ∨ ∃ kds : List (Key × D), d = .dic kds ∧ kds.map (·.1) = ts.map Sum.inr) : takenD d = ts := by
  rcases hd with rfl | ⟨kds, rfl, e⟩
  · show (ts.map D.str).map keyS = ts
    rw [List.map_map]
    exact List.map_id ts
  · show kds.map (fun kd => keyK kd.1) = ts
    have e2 : kds.map (fun kd => keyK kd.1) = (kds.map (·.1)).map keyK := by rw [List.map_map]; rfl
    rw [e2, e, List.map_map]
    exact List.map_id ts
theorem nin_taken {K : PySem.W.Frag} [LT K] {p : Option Addr} {d : D} {ts : List Str} {w : Str} (hd : d = .lst (ts.map D.str) ∨ ∃ kds : List (Key × D), d = .dic kds ∧ kds.map (·.1) = ts.map Sum.inr) : RD K p (rNinV K) (.str w) d (.bl (!ts.contains w)) := by
  rcases hd with rfl | ⟨kds, rfl, e⟩
  · have q := rd_ninL2 (K := K) (p := p) (d1 := .str w) (ds := ts.map D.str) rfl (flat_strs ts)
    rw [inD_strs] at q
    exact q
  · have q := rd_ninD2 (K := K) (p := p) (k := .inr w) (kds := kds)
    have e2 : ((kds.map (·.1)).any fun z => decide (z = (.inr w : Key))) = ts.contains w := by
      rw [e, List.any_map, List.contains_eq_any_beq]
      congr 1
      funext t
      show decide ((.inr t : Key) = .inr w) = (w == t)
      by_cases h : t = w
      · subst h; simp
      · have h2 : (w == t) = false := beq_eq_false_iff_ne.mpr fun z => h z.symm
        rw [h2]
        exact decide_eq_false fun z => h (Sum.inr.inj z)
    rw [e2] at q
    exact q
theorem rd_names_in_order {P : Program} {w : World} {K : PySem.W.Frag} [LT K] {mg : Str → Option Value} (Z : Fs P w K mg) {vs : List V} {H : Hp} {Q : VK} {E : XK} (h : sp_names_in_order K vs H Q E) : t_names_in_order Z { nx := fun _ H' => Q .non H', rt := Q } (L2.start N_names_in_order vs) H := by
  refine fnP2 h (by decide) fun S0 d e σ G hp st k => ?_
  obtain ⟨ts, many, hts, htl, hm, hmany, hd⟩ := hp
  cases (show e = .int (many : Int) from hm)
  have hd : d = .lst (ts.map D.str) ∨ ∃ kds : List (Key × D), d = .dic kds ∧ kds.map (·.1) = ts.map Sum.inr := hd
  have sz : 1000000 ≤ sizeLine := by rw [sizeLine_eq]; exact Nat.le_of_ble_eq_true rfl
  have hr : ordS (takenD d) many = ordS ts many := by rw [taken_eq hd]
  have p2 : EvO K none (tCB rListS (tCons (tC (.str "abcdefghijklmnopqrstuvwxyz")) tNil)) σ S0 (((Pq 0).drop 0).map D.str) := by
    rw [line0]
    exact eo_listS ed_str (Nat.le_trans (by decide +kernel) sz)
  refine s_seq (s_par st (EvO.x (ds := []) (eo_lst ea_nil (Nat.zero_le _))) p2.x (by decide) (by decide) (by decide) (Nat.le_refl _) fun t1 t2 σ1 S1 e1 e2 st1 => ?_)
  subst e1
  subst e2
  refine s_seq (s_while (α := Nat) (fun q => q ≤ W.length ∧ ((W.take q).filter (okIn ts)).length ≤ many) (fun q => [(2, .own (((W.take q).filter (okIn ts)).map D.str)), (3, .own (((Pq q).drop q).map D.str)), (0, .dat d), (1, .dat (.int (many : Int)))]) (fun q => W.length - q) (fun q => decide ((((W.take q).filter (okIn ts)).length : Int) < (many : Int))) 0 st1 ⟨Nat.zero_le _, Nat.zero_le _⟩ ⟨rfl, rfl, rfl, rfl, True.intro⟩ (fun q σ S iq st2 => ?_) (fun q σ S iq hb st2 D' hrt nx _ _ => ?_) (fun q σ S iq hb st2 => ?_))
  · refine EvT.is (et_test (ed_op (EvD.h (ed_len (eh_var st2 rfl) (rl_L (by rw [List.length_map]; omega)))) (EvD.h (ed_var st2 rfl)) rd_B0)) ?_
    rw [List.length_map]
  · have hlt : ((W.take q).filter (okIn ts)).length < many := by have := of_decide_eq_true hb; omega
    have hq : q < W.length := by
      refine Nat.lt_of_not_le fun z => ?_
      rw [List.take_of_length_le z] at hlt
      have := W_many hts
      omega
    obtain ⟨w, hw⟩ : ∃ w, W[q]? = some w := ⟨_, List.getElem?_eq_getElem hq⟩
    have hw3 := W_short (List.mem_of_getElem? hw)
    have hW := W_len
    have hPl := Pq_len q (Nat.le_of_lt hq)
    have eL : ((Pq q).drop q).map D.str = .str w :: ((Pq q).drop (q + 1)).map D.str := by rw [Pq_drop hw]; rfl
    refine s_seq (s_popAt (z := 0) (c := 0) (d := .str w) (i := 3) (j := 4) st2 rfl ed_int (by decide) (by rw [eL]; exact seq0 _) (by rw [eL]; rfl) (by decide) fun σ3 S3 st3 => ?_)
    have eE : (((Pq q).drop q).map D.str).eraseIdx 0 = ((Pq q).drop (q + 1)).map D.str := by rw [eL]; rfl
    rw [eE] at st3
    have ex : EvO K none (tIf (tTest (tOp (rI0 fun i j => .bl (decide (i < j))) (tCB (rLenA K) (tCons (tVar 4) tNil)) (tC (.int 8)))) (tLc (iStr (tC (.str "abcdefghijklmnopqrstuvwxyz"))) (gName 5) tYes (tOp (rAddU K) (tVar 4) (tVar 5)) [5]) (tLst tNil)) σ3 S3 ((exts w).map D.str) := by
      refine eo_if (b := true) (EvT.is (et_test (ed_op (EvD.h (ed_len (EvD.h (ed_var st3 rfl)) (rl_S (Nat.le_trans hw3 (Nat.le_trans (by decide) sz))))) (EvD.h ed_int) rd_B0)) (decide_eq_true (by omega))) (fun _ => ?_) (fun z => by cases z)
      rw [exts_eq]
      refine eo_lc (i := 5) (vs := [5]) (b := fun _ => true) (f := fun d => .str (w ++ keyS d)) st3 (es_str ed_str) (by decide) (by decide) (fun x hx B' n' σ' S' st' => ⟨et_yes, fun _ => ?_⟩) (Nat.lt_of_lt_of_le (by decide +kernel) sz)
      obtain ⟨c, rfl⟩ := signs_mem hx
      exact ed_op (EvD.h (ed_var st' rfl)) (EvD.h (ed_var st' rfl)) (rd_addS (by show w.length + 1 ≤ _; omega))
    refine s_seq (s_ext (i := 3) st3 rfl ex.q (by rw [List.length_map, List.length_map, List.length_drop, exts_len]; omega) fun S4 st4 => ?_)
    have eN : ((Pq q).drop (q + 1)).map D.str ++ (exts w).map D.str = ((Pq (q + 1)).drop (q + 1)).map D.str := by rw [← List.map_append, Pq_next hw]
    rw [eN] at st4
    have c1 : EvD K none (tCall (sp_is_name K) [] E0 (tCons (tVar 4) tNil)) σ3 S4 (.bl (isNameS w)) := ed_call (ds := [.str w]) (ea_cons (ed_var st4 rfl) ea_nil) rfl (show kns (.str w) from ⟨(by unfold kn; intro z; cases z), fun s e => by cases e; omega⟩)
    refine s_if st4 (EvT.is (et_and (et_B c1) fun _ => et_test (ed_op (EvD.h (ed_var st4 rfl)) (EvD.h (ed_var st4 rfl)) (nin_taken hd))) (b := okIn ts w) rfl) (fun hok S5 st5 => ?_) (fun hok S5 st5 => ?_)
    · refine s_app (i := 2) st5 rfl (ed_var st5 rfl) (by rw [List.length_map]; omega) fun S6 st6 => ?_
      have eF : ((W.take q).filter (okIn ts)).map D.str ++ [D.str w] = ((W.take (q + 1)).filter (okIn ts)).map D.str := by
        rw [found_step hw, if_pos hok, List.map_append]
        rfl
      rw [eF] at st6
      refine nx (q + 1) _ _ _ ⟨hq, ?_⟩ (by omega) st6 ⟨rfl, rfl, rfl, rfl, True.intro⟩
      rw [found_step hw, if_pos hok, List.length_append]
      exact hlt
    · refine s_next ?_
      have eF : ((W.take q).filter (okIn ts)) = ((W.take (q + 1)).filter (okIn ts)) := by
        rw [found_step hw, hok, if_neg Bool.false_ne_true]
      rw [eF] at st5 hlt
      exact nx (q + 1) _ _ _ ⟨hq, Nat.le_of_lt hlt⟩ (by omega) st5 ⟨rfl, rfl, rfl, rfl, True.intro⟩
  · have hge : ((W.take q).filter (okIn ts)).length = many := by
      have h1 := iq.2
      have h2 := of_decide_eq_false hb
      omega
    refine ed_own st2 rfl fun v S' _ g ht r => k v S' g ht ?_
    show Rp K S'.F v (.lst ((ordS (takenD d) many).map D.str))
    rw [hr, ← found_end hge]
    exact r
theorem ok_names_in_order {P : Program} {w : World} {K : PySem.W.Frag} [LT K] {mg : Str → Option Value} {base : Heap} (Z : Fs P w K mg) : FnOk P w K mg base CX0 2 Z.a_names_in_order Z.d_names_in_order ["taken", "many"] (sp_names_in_order K) :=
  Z.F_names_in_order.ok sc_names_in_order (fun _ _ _ _ h => by first | exact spP_len h | exact spN_len h | exact spPen_len h) (fun cdv A outer s H vs Q E hr h => ⟨t_names_in_order Z, ps_names_in_order Z hr, rd_names_in_order Z h⟩)
/-! ## fixed -/
abbrev N_fixed : List Str := ["value", "done", "line", "one", "parts"]
theorem sc_fixed : FnScope N_fixed ["value"] (defScope s_fixed) := ⟨rfl, rfl, rfl, by decide +kernel, rfl, by decide +kernel, by decide +kernel⟩
abbrev sp_fixed (K : PySem.W.Frag) [LT K] : Sp := spP K 1 (fun ds => ∃ s, h0 ds = .str s) (fun ds => h0 ds)
def t_fixed {P : Program} {w : World} {K : PySem.W.Frag} [LT K] {mg : Str → Option Value} (Z : Fs P w K mg) : TS :=
  (tSeq (tPar 1 2 (tCons (tC .non) (tCons (tLst (tCons (tTup (tCons (tVar 0) (tCons (tC .non) tNil))) tNil)) tNil)))
    (tSeq (tWhile (tTest (tOp (rNeU K) (tVar 2) (tLst tNil)))
    (tSeq (tAsg (tBM0 K "list" rPop (tVar 2)) (gTup K 2 (gCons (gName 3) (gCons (gName 4) gNil))))
    (tSeq (tIfS (tNot (tB (tCall (sp_is_row K) [] E0 (tCons (tVar 3) tNil))))
    (tAsg (tVar 3) (gName 1))
    (tIfS (tTest (tOp rIsN (tVar 4) (tC .non)))
    (tSeq (tDrop (tBM K "list" rAppend (tVar 2) (tCons (tTup (tCons (tVar 3) (tCons (tLst tNil) tNil))) tNil)))
    (tSeq (tAsg (tC .non) (gName 1))
    (tSeq (tIfS (tTest (tOp (rI0 fun i j => .bl (decide (j < i))) (tCB (rLenA K) (tCons (tVar 3) tNil)) (tC (.int 0))))
    (tSeq (tDrop (tBM K "list" rAppend (tVar 2) (tCons (tTup (tCons (tOp (rIx K) (tVar 3) (tC (.int 0))) (tCons (tC .non) tNil))) tNil)))
    tCont)
    tNext)
    (tSeq (tDrop (tBM0 K "list" rPop (tVar 2)))
    (tAsg (tTup tNil) (gName 1))))))
    (tSeq (tDrop (tBM K "list" rAppend (tVar 4) (tCons (tVar 1) tNil)))
    (tSeq (tIfS (tTest (tOp (rI0 fun i j => .bl (decide (i < j))) (tCB (rLenA K) (tCons (tVar 4) tNil)) (tCB (rLenA K) (tCons (tVar 3) tNil))))
    (tSeq (tDrop (tBM K "list" rAppend (tVar 2) (tCons (tTup (tCons (tVar 3) (tCons (tVar 4) tNil))) tNil)))
    (tSeq (tDrop (tBM K "list" rAppend (tVar 2) (tCons (tTup (tCons (tOp (rIx K) (tVar 3) (tCB (rLenA K) (tCons (tVar 4) tNil))) (tCons (tC .non) tNil))) tNil)))
    tCont))
    tNext)
    (tAsg (tCB (rTuple K) (tCons (tVar 4) tNil)) (gName 1))))))
    (tIfS (tTest (tOp (rEqU K) (tVar 2) (tLst tNil)))
    (tRet (tVar 1))
    tNext))))
    (tRet (tVar 1))))
theorem ps_fixed {P : Program} {w : World} {K : PySem.W.Frag} [LT K] {mg : Str → Option Value} {base : Heap} (Z : Fs P w K mg) {cdv : Value} {A : Around} {outer : List Env} {s : Shared} {H : Hp} {E : XK} (hr : Room 1 (A.deeper (PyProof.Rows.envOfC "fixed" (defScope s_fixed) s.heap.objs.size Z.a_fixed cdv))) :
    PSs (cxOf CX0 P w K mg base N_fixed "fixed" (defScope s_fixed) Z.a_fixed cdv A outer s H E).nox (defBody s_fixed) (t_fixed Z) := by
  have hu := hu_of hr
  have hu64 := hr.units
  have hu66 := hu66_of hr
  exact (pss_cons (ps_par (i := 1) (j := 2) rfl sc_fixed.nd rfl rfl (by decide) rfl rfl (pa_cons pe_non (pa_cons (pe_lst (pa_cons (pe_tup (pa_cons (pv 0) (pa_cons pe_non pa_nil))) pa_nil)) pa_nil)) rfl)
    (pss_cons (ps_while PassesOwn.never (pt_cmpR (op_neU hu64) (pv 2) (pe_lst pa_nil) (nomark _))
    (pss_cons (ps_asg (pe_bm0 PySem.F.plainAttrs_list PySem.F.slot_list_pop PySem.F.type_list_pop mt_pop (pv 2)) (pg_tup rfl (pgs_cons (pg_name (i := 3) sc_fixed.nd rfl (Or.inl rfl)) (pgs_cons (pg_name (i := 4) sc_fixed.nd rfl (Or.inl rfl)) pgs_nil))))
    (pss_cons (ps_if (pt_not (pt_val (pe_call (ok_is_row Z) (hr.mono (by decide)) rfl Z.m_is_row Z.F_is_row.kp Z.b_is_row .nil pass0 (pa_cons (pv 3) pa_nil))))
    (pss_one (ps_set (i := 1) sc_fixed.nd rfl (Or.inl rfl) (pv 3)))
    (pss_one (ps_if (pt_cmpR op_isN (pv 4) pe_non (nomark _))
    (pss_cons (ps_expr (pe_bm PySem.F.plainAttrs_list PySem.F.slot_list_append PySem.F.type_list_append mt_append (pv 2) (pa_cons (pe_tup (pa_cons (pv 3) (pa_cons (pe_lst pa_nil) pa_nil))) pa_nil)))
    (pss_cons (ps_set (i := 1) sc_fixed.nd rfl (Or.inl rfl) pe_non)
    (pss_cons (ps_if (pt_cmpR op_gt (pe_callB call_lenA (by rfl) Z.z_len (by decide +kernel) (pa_cons (pv 3) pa_nil)) pe_int (nomark _))
    (pss_cons (ps_expr (pe_bm PySem.F.plainAttrs_list PySem.F.slot_list_append PySem.F.type_list_append mt_append (pv 2) (pa_cons (pe_tup (pa_cons (pe_ix ix_seq (pv 3) pe_int (fun _ _ => rfl)) (pa_cons pe_non pa_nil))) pa_nil)))
    (pss_one ps_continue))
    pss_nil)
    (pss_cons (ps_expr (pe_bm0 PySem.F.plainAttrs_list PySem.F.slot_list_pop PySem.F.type_list_pop mt_pop (pv 2)))
    (pss_one (ps_set (i := 1) sc_fixed.nd rfl (Or.inl rfl) (pe_tup pa_nil)))))))
    (pss_cons (ps_expr (pe_bm PySem.F.plainAttrs_list PySem.F.slot_list_append PySem.F.type_list_append mt_append (pv 4) (pa_cons (pv 1) pa_nil)))
    (pss_cons (ps_if (pt_cmpR op_lt (pe_callB call_lenA (by rfl) Z.z_len (by decide +kernel) (pa_cons (pv 4) pa_nil)) (pe_callB call_lenA (by rfl) Z.z_len (by decide +kernel) (pa_cons (pv 3) pa_nil)) (nomark _))
    (pss_cons (ps_expr (pe_bm PySem.F.plainAttrs_list PySem.F.slot_list_append PySem.F.type_list_append mt_append (pv 2) (pa_cons (pe_tup (pa_cons (pv 3) (pa_cons (pv 4) pa_nil))) pa_nil)))
    (pss_cons (ps_expr (pe_bm PySem.F.plainAttrs_list PySem.F.slot_list_append PySem.F.type_list_append mt_append (pv 2) (pa_cons (pe_tup (pa_cons (pe_ix ix_seq (pv 3) (pe_callB call_lenA (by rfl) Z.z_len (by decide +kernel) (pa_cons (pv 4) pa_nil)) (fun _ _ => rfl)) (pa_cons pe_non pa_nil))) pa_nil)))
    (pss_one ps_continue)))
    pss_nil)
    (pss_one (ps_set (i := 1) sc_fixed.nd rfl (Or.inl rfl) (pe_callTy call_tuple_of (by rfl) Z.z_tuple (by decide +kernel) (pa_cons (pv 4) pa_nil)))))))))
    (pss_one (ps_if (pt_cmpR (op_eqU hu64) (pv 2) (pe_lst pa_nil) (nomark _))
    (pss_one (ps_ret (pv 1)))
    pss_nil)))))
    (pss_one (ps_ret (pv 1)))))
theorem rd_fixed {P : Program} {w : World} {K : PySem.W.Frag} [LT K] {mg : Str → Option Value} (Z : Fs P w K mg) {vs : List V} {H : Hp} {Q : VK} {E : XK} (h : sp_fixed K vs H Q E) : t_fixed Z { nx := fun _ H' => Q .non H', rt := Q } (L2.start N_fixed vs) H := by
  refine fnP1 h (by decide) fun S0 d σ G hp st k => ?_
  obtain ⟨s, hs⟩ := hp
  cases (show d = .str s from hs)
  have par1 : EvO K none (tLst (tCons (tTup (tCons (tVar 0) (tCons (tC .non) tNil))) tNil)) σ S0 [.tup [.str s, .non]] := eo_lst (ea_cons (ed_tup (ea_cons (ed_var st rfl) (ea_cons ed_non ea_nil)) (by rw [sizeLine_eq]; exact Nat.le_of_ble_eq_true rfl)) ea_nil) (by rw [sizeLine_eq]; exact Nat.le_of_ble_eq_true rfl)
  refine s_seq (s_par st ed_non.x par1.x (by decide) (by decide) (by decide) (Nat.le_refl _) fun t1 t2 σ1 S1 e1 e2 st1 => ?_)
  subst e1
  subst e2
  refine s_seq (s_while (α := Unit) (fun _ => True) (fun _ => [(2, .own [.tup [.str s, .non]])]) (fun _ => 0) (fun _ => true) () st1 True.intro ⟨rfl, True.intro⟩ (fun _ σ S _ st2 => ?_) (fun _ σ S _ _ st2 D' hrt _ _ _ => ?_) (fun _ σ S _ hf _ => by cases hf))
  · exact et_test (ed_op (eh_var st2 rfl) (EvO.h (eo_lst ea_nil (Nat.zero_le _))) rd_neNil)
  · refine s_seq (s_popPair (ds := []) st2 rfl (by decide) (by decide) fun σ3 S3 st3 => ?_)
    have c1 : EvD K none (tCall (sp_is_row K) [] E0 (tCons (tVar 3) tNil)) σ3 S3 (.bl (isRowD (.str s))) := ed_call (ds := [.str s]) (ea_cons (ed_var st3 rfl) ea_nil) rfl (show kn (.str s) from by unfold kn; intro z; cases z)
    refine s_seq (s_if st3 (EvT.is (et_not (et_B c1)) rfl) (fun _ S4 st4 => ?_) (fun hb S4 st4 => by cases hb))
    refine s_dat st4 (ed_var st4 rfl) (by decide) fun σ5 S5 st5 => ?_
    refine s_if st5 (et_test (ed_op (eh_var st5 rfl) (EvO.h (eo_lst ea_nil (Nat.zero_le _))) rd_eqNil)) (fun _ S6 st6 => ?_) (fun hb S6 st6 => by cases hb)
    refine s_ret st6 (ed_var st6 rfl) (fun v S' g ht r => ?_)
    show D'.rt v S'.H
    rw [hrt]
    exact k v S' g ht r
theorem ok_fixed {P : Program} {w : World} {K : PySem.W.Frag} [LT K] {mg : Str → Option Value} {base : Heap} (Z : Fs P w K mg) : FnOk P w K mg base CX0 2 Z.a_fixed Z.d_fixed ["value"] (sp_fixed K) :=
  Z.F_fixed.ok sc_fixed (fun _ _ _ _ h => by first | exact spP_len h | exact spN_len h | exact spPen_len h) (fun cdv A outer s H vs Q E hr h => ⟨t_fixed Z, ps_fixed Z hr, rd_fixed Z h⟩)
/-! ## statement_in -/
abbrev N_statement_in : List Str := ["value", "line", "many", "one"]
theorem sc_statement_in : FnScope N_statement_in ["value"] (defScope s_statement_in) := ⟨rfl, rfl, rfl, by decide +kernel, rfl, by decide +kernel, by decide +kernel⟩
def isStmt (s : Str) : Bool := (["nothing", "any", "no"] : List Str).contains s || isNameS s
abbrev sp_statement_in (K : PySem.W.Frag) [LT K] : Sp := spP K 1 (fun ds => ∃ s : Str, h0 ds = .str s ∧ s.length ≤ 1000000) (fun ds => if isStmt (keyS (h0 ds)) = true then h0 ds else .non)
def t_statement_in {P : Program} {w : World} {K : PySem.W.Frag} [LT K] {mg : Str → Option Value} (Z : Fs P w K mg) : TS :=
  (tSeq (tPar 1 2 (tCons (tLst (tCons (tVar 0) tNil)) (tCons (tC (.int 0)) tNil)))
    (tSeq (tWhile (tTest (tOp (rNeU K) (tVar 1) (tLst tNil)))
    (tSeq (tPar 3 2 (tCons (tBM0 K "list" rPop (tVar 1)) (tCons (tOp (rAddU K) (tVar 2) (tC (.int 1))) tNil)))
    (tSeq (tIfS (tTest (tOp (rI0 fun i j => .bl (decide (j < i))) (tVar 2) (tC (.int 24))))
    (tRet (tC .non))
    tNext)
    (tIfS (tB (tCB (rIsi K) (tCons (tVar 3) (tCons (tC (.ty "str")) tNil))))
    (tIfS (tAnd (tTest (tOp (rNinV K) (tVar 3) (tC (.ref Z.a_BARE)))) (tNot (tB (tCall (sp_is_name K) [] E0 (tCons (tVar 3) tNil)))))
    (tRet (tC .non))
    tNext)
    (tIfS (tAnd (tB (tCB (rIsiT K) (tCons (tVar 3) (tCons (tTup (tCons (tC (.ty "list")) (tCons (tC (.ty "tuple")) tNil))) tNil)))) (tAnd (tTest (tOp (rEqU K) (tCB (rLenA K) (tCons (tVar 3) tNil)) (tC (.int 3)))) (tAnd (tB (tCB (rIsi K) (tCons (tOp (rIx K) (tVar 3) (tC (.int 0))) (tCons (tC (.ty "str")) tNil)))) (tTest (tOp (rInV K) (tOp (rIx K) (tVar 3) (tC (.int 0))) (tC (.ref Z.a_JOINS)))))))
    (tDrop (tBM K "list" rExtend (tVar 1) (tCons (tLst (tCons (tOp (rIx K) (tVar 3) (tC (.int 2))) (tCons (tOp (rIx K) (tVar 3) (tC (.int 1))) tNil))) tNil)))
    (tRet (tC .non)))))))
    (tRet (tCall (sp_fixed K) [] E0 (tCons (tVar 0) tNil)))))
theorem ps_statement_in {P : Program} {w : World} {K : PySem.W.Frag} [LT K] {mg : Str → Option Value} {base : Heap} (Z : Fs P w K mg) {cdv : Value} {A : Around} {outer : List Env} {s : Shared} {H : Hp} {E : XK} (hr : Room 2 (A.deeper (PyProof.Rows.envOfC "statement_in" (defScope s_statement_in) s.heap.objs.size Z.a_statement_in cdv))) :
    PSs (cxOf CX0 P w K mg base N_statement_in "statement_in" (defScope s_statement_in) Z.a_statement_in cdv A outer s H E).nox (defBody s_statement_in) (t_statement_in Z) := by
  have hu := hu_of hr
  have hu64 := hr.units
  have hu66 := hu66_of hr
  exact (pss_cons (ps_par (i := 1) (j := 2) rfl sc_statement_in.nd rfl rfl (by decide) rfl rfl (pa_cons (pe_lst (pa_cons (pv 0) pa_nil)) (pa_cons pe_int pa_nil)) rfl)
    (pss_cons (ps_while PassesOwn.never (pt_cmpR (op_neU hu64) (pv 1) (pe_lst pa_nil) (nomark _))
    (pss_cons (ps_par (i := 3) (j := 2) rfl sc_statement_in.nd rfl rfl (by decide) rfl rfl (pa_cons (pe_bm0 PySem.F.plainAttrs_list PySem.F.slot_list_pop PySem.F.type_list_pop mt_pop (pv 1)) (pa_cons (pe_op op_addU (pv 2) pe_int) pa_nil)) rfl)
    (pss_cons (ps_if (pt_cmpR op_gt (pv 2) (pe_gi rfl Z.g_MOST_PARTS) (nomark _))
    (pss_one (ps_ret pe_non))
    pss_nil)
    (pss_one (ps_if (pt_val (pe_callB call_isi (by rfl) Z.z_isinstance (by decide +kernel) (pa_cons (pv 3) (pa_cons (pe_bltn rfl Z.z_str (by decide +kernel) rfl) pa_nil))))
    (pss_one (ps_if (PW.pt (pw_and (pt_cmpR (op_ninV hu) (pv 3) (pe_gr rfl Z.g_BARE) rfl) (pw_and1 (pt_not (pt_val (pe_call (ok_is_name Z) (hr.mono (by decide)) rfl Z.m_is_name Z.F_is_name.kp Z.b_is_name .nil pass0 (pa_cons (pv 3) pa_nil)))))))
    (pss_one (ps_ret pe_non))
    pss_nil))
    (pss_one (ps_if (PW.pt (pw_and (pt_val (pe_callB call_isiT (by rfl) Z.z_isinstance (by decide +kernel) (pa_cons (pv 3) (pa_cons (pe_tup (pa_cons (pe_bltn rfl Z.z_list (by decide +kernel) rfl) (pa_cons (pe_bltn rfl Z.z_tuple (by decide +kernel) rfl) pa_nil))) pa_nil)))) (pw_and (pt_cmpR (op_eqU hu64) (pe_callB call_lenA (by rfl) Z.z_len (by decide +kernel) (pa_cons (pv 3) pa_nil)) pe_int (nomark _)) (pw_and (pt_val (pe_callB call_isi (by rfl) Z.z_isinstance (by decide +kernel) (pa_cons (pe_ix ix_seq (pv 3) pe_int (fun _ _ => rfl)) (pa_cons (pe_bltn rfl Z.z_str (by decide +kernel) rfl) pa_nil)))) (pw_and1 (pt_cmpR (op_inV hu) (pe_ix ix_seq (pv 3) pe_int (fun _ _ => rfl)) (pe_gr rfl Z.g_JOINS) rfl))))))
    (pss_one (ps_expr (pe_bm PySem.F.plainAttrs_list PySem.F.slot_list_extend PySem.F.type_list_extend mt_extend (pv 1) (pa_cons (pe_lst (pa_cons (pe_ix ix_seq (pv 3) pe_int (fun _ _ => rfl)) (pa_cons (pe_ix ix_seq (pv 3) pe_int (fun _ _ => rfl)) pa_nil))) pa_nil))))
    (pss_one (ps_ret pe_non)))))))))
    (pss_one (ps_ret (pe_call (ok_fixed Z) (hr.mono (by decide)) rfl Z.m_fixed Z.F_fixed.kp Z.b_fixed .nil pass0 (pa_cons (pv 0) pa_nil))))))
theorem rd_statement_in {P : Program} {w : World} {K : PySem.W.Frag} [LT K] {mg : Str → Option Value} (Z : Fs P w K mg) {vs : List V} {H : Hp} {Q : VK} {E : XK} (h : sp_statement_in K vs H Q E) : t_statement_in Z { nx := fun _ H' => Q .non H', rt := Q } (L2.start N_statement_in vs) H := by
  refine fnP1 h (by decide) fun S0 d σ G hp st k => ?_
  obtain ⟨s, hs, hz⟩ := hp
  cases (show d = .str s from hs)
  have hk : kn (.str s) := by unfold kn; intro z; cases z
  have ret0 : isStmt s = false → ∀ (σ : St) (S : Wd) (l : En) (G' : Ends), G'.rt = G.rt → Sta K none S0 S0.F N_statement_in.length 0 0 σ S l → tRet (tC .non) G' σ S.H := fun e σ S l G' hg st' => by
    refine s_ret st' ed_non (fun v S' g ht r => ?_)
    rw [hg]
    refine k v S' g ht ?_
    show Rp K S'.F v (if isStmt s = true then _ else _)
    rw [e, if_neg Bool.false_ne_true]
    exact r
  have par1 : EvO K none (tLst (tCons (tVar 0) tNil)) σ S0 [.str s] := eo_lst (ea_cons (ed_var st rfl) ea_nil) (by rw [sizeLine_eq]; exact Nat.le_of_ble_eq_true rfl)
  refine s_seq (s_par st par1.x ed_int.x (by decide) (by decide) (by decide) (Nat.le_refl _) fun t1 t2 σ1 S1 e1 e2 st1 => ?_)
  subst e1
  subst e2
  refine s_seq (s_while (α := Bool) (fun a => a = false → isStmt s = true) (fun a => if a = true then [(1, .own [.str s]), (2, .dat (.int 0)), (0, .dat (.str s))] else [(1, .own []), (2, .dat (.int 1)), (0, .dat (.str s))]) (fun a => if a = true then 1 else 0) (fun a => a) true st1 (fun z => by cases z) ⟨rfl, rfl, rfl, True.intro⟩ (fun a σ S _ st2 => ?_) (fun a σ S _ ha st2 D' hrt nx _ _ => ?_) (fun a σ S ia hf st2 => ?_))
  · cases a
    · exact et_test (ed_op (eh_var st2 rfl) (EvO.h (eo_lst ea_nil (Nat.zero_le _))) rd_neNil)
    · exact et_test (ed_op (eh_var st2 rfl) (EvO.h (eo_lst ea_nil (Nat.zero_le _))) rd_neNil)
  · have ha : a = true := ha
    subst ha
    refine s_seq (s_popPar (c := 1) (ds := []) (d := .str s) (d2 := .int (0 + 1)) st2 rfl (by decide) (by decide) (by decide) (fun S' st' => ed_op (EvD.h (ed_var st' rfl)) (EvD.h ed_int) rd_add) fun σ3 S3 st3 => ?_)
    refine s_seq (s_if (b := false) st3 (et_test (EvD.is (ed_op (EvD.h (ed_var st3 rfl)) (EvD.h ed_int) rd_B0) rfl)) (fun hb S4 st4 => by cases hb) (fun _ S4 st4 => ?_))
    refine s_next ?_
    dsimp only
    refine s_if st4 (et_B (ed_isi (EvD.h (ed_var st4 rfl)) (kn_str hk))) (fun _ S5 st5 => ?_) (fun hb S5 st5 => by cases hb)
    have hb1 : EvD K none (tC (.ref Z.a_BARE)) σ3 S5 (.tup ((["nothing", "any", "no"] : List Str).map D.str)) := ed_c Z.t_BARE.rp
    have hb2 : EvD K none (tCall (sp_is_name K) [] E0 (tCons (tVar 3) tNil)) σ3 S5 (.bl (isNameS s)) := ed_call (ds := [.str s]) (ea_cons (ed_var st5 rfl) ea_nil) rfl (show kns (.str s) from ⟨hk, fun s' e => by cases e; exact hz⟩)
    refine s_if st5 (EvT.is (et_and (et_test (ed_op (EvD.h (ed_var st5 rfl)) hb1.h (rd_ninT2 rfl (flat_strs _)))) fun _ => et_not (et_B hb2)) (b := !isStmt s) ?_) (fun hb S6 st6 => ?_) (fun hb S6 st6 => ?_)
    · rw [inD_strs]
      unfold isStmt
      rw [Bool.not_or]
    · exact ret0 (by simpa using hb) _ _ _ _ hrt st6
    · refine s_next ?_
      exact nx false _ S6 _ (fun _ => by simpa using hb) (by decide) st6 ⟨rfl, rfl, rfl, True.intro⟩
  · have hf : a = false := hf
    subst hf
    refine s_ret st2 (EvD.is (ed_call (ds := [.str s]) (ea_cons (ed_var st2 rfl) ea_nil) rfl ⟨s, rfl⟩) ?_) k
    show D.str s = if isStmt s = true then _ else _
    rw [ia rfl, if_pos rfl]
    rfl
theorem ok_statement_in {P : Program} {w : World} {K : PySem.W.Frag} [LT K] {mg : Str → Option Value} {base : Heap} (Z : Fs P w K mg) : FnOk P w K mg base CX0 3 Z.a_statement_in Z.d_statement_in ["value"] (sp_statement_in K) :=
  Z.F_statement_in.ok sc_statement_in (fun _ _ _ _ h => by first | exact spP_len h | exact spN_len h | exact spPen_len h) (fun cdv A outer s H vs Q E hr h => ⟨t_statement_in Z, ps_statement_in Z hr, rd_statement_in Z h⟩)
/-! ## is_statement -/
abbrev N_is_statement : List Str := ["value"]
theorem sc_is_statement : FnScope N_is_statement ["value"] (defScope s_is_statement) := ⟨rfl, rfl, rfl, by decide +kernel, rfl, by decide +kernel, by decide +kernel⟩
abbrev sp_is_statement (K : PySem.W.Frag) [LT K] : Sp := spP K 1 (fun ds => ∃ s : Str, h0 ds = .str s ∧ s.length ≤ 1000000) (fun ds => .bl (isStmt (keyS (h0 ds))))
def t_is_statement {P : Program} {w : World} {K : PySem.W.Frag} [LT K] {mg : Str → Option Value} (Z : Fs P w K mg) : TS :=
  (tRet (tOp rNotN (tCall (sp_statement_in K) [] E0 (tCons (tVar 0) tNil)) (tC .non)))
theorem ps_is_statement {P : Program} {w : World} {K : PySem.W.Frag} [LT K] {mg : Str → Option Value} {base : Heap} (Z : Fs P w K mg) {cdv : Value} {A : Around} {outer : List Env} {s : Shared} {H : Hp} {E : XK} (hr : Room 3 (A.deeper (PyProof.Rows.envOfC "is_statement" (defScope s_is_statement) s.heap.objs.size Z.a_is_statement cdv))) :
    PSs (cxOf CX0 P w K mg base N_is_statement "is_statement" (defScope s_is_statement) Z.a_is_statement cdv A outer s H E).nox (defBody s_is_statement) (t_is_statement Z) := by
  have hu := hu_of hr
  have hu64 := hr.units
  have hu66 := hu66_of hr
  exact (pss_one (ps_ret (pe_cmpR op_notN (pe_call (ok_statement_in Z) (hr.mono (by decide)) rfl Z.m_statement_in Z.F_statement_in.kp Z.b_statement_in .nil pass0 (pa_cons (pv 0) pa_nil)) pe_non (nomark _))))
theorem rd_is_statement {P : Program} {w : World} {K : PySem.W.Frag} [LT K] {mg : Str → Option Value} (Z : Fs P w K mg) {vs : List V} {H : Hp} {Q : VK} {E : XK} (h : sp_is_statement K vs H Q E) : t_is_statement Z { nx := fun _ H' => Q .non H', rt := Q } (L2.start N_is_statement vs) H := by
  refine fnP1 h (by decide) fun S0 d σ G hp st k => ?_
  obtain ⟨s, hs, hz⟩ := hp
  cases (show d = .str s from hs)
  have c1 : EvD K none (tCall (sp_statement_in K) [] E0 (tCons (tVar 0) tNil)) σ S0 (if isStmt s = true then .str s else .non) := ed_call (ds := [.str s]) (ea_cons (ed_var st rfl) ea_nil) rfl ⟨s, rfl, hz⟩
  refine s_ret st (EvD.is (ed_op c1.h (EvD.h ed_non) (rd_notN (b := !isStmt s) ?_)) ?_) k
  · cases isStmt s <;> rfl
  · show D.bl (!!isStmt s) = D.bl (isStmt s)
    rw [Bool.not_not]
theorem ok_is_statement {P : Program} {w : World} {K : PySem.W.Frag} [LT K] {mg : Str → Option Value} {base : Heap} (Z : Fs P w K mg) : FnOk P w K mg base CX0 4 Z.a_is_statement Z.d_is_statement ["value"] (sp_is_statement K) :=
  Z.F_is_statement.ok sc_is_statement (fun _ _ _ _ h => by first | exact spP_len h | exact spN_len h | exact spPen_len h) (fun cdv A outer s H vs Q E hr h => ⟨t_is_statement Z, ps_is_statement Z hr, rd_is_statement Z h⟩)
/-! ## _law_pen -/
abbrev N__law_pen : List Str := ["script", "cell"]
theorem sc__law_pen : FnScope N__law_pen ["script"] (defScope s__law_pen) := ⟨rfl, rfl, rfl, by decide +kernel, rfl, by decide +kernel, by decide +kernel⟩
abbrev sp__law_pen (K : PySem.W.Frag) [LT K] : Sp := spPen K
def t__law_pen {P : Program} {w : World} {K : PySem.W.Frag} [LT K] {mg : Str → Option Value} (Z : Fs P w K mg) : TS :=
  (tRet (tLst (tCons (tLc (iList K (tSl (rSlL K) (tVar 0) tNoPart (tPart (tC (.int 63))))) (gName 1) tYes (tCB rInt1 (tCons (tVar 1) tNil)) [1]) (tCons (tC (.int 0)) (tCons (tC (.int 0)) tNil)))))
theorem ps__law_pen {P : Program} {w : World} {K : PySem.W.Frag} [LT K] {mg : Str → Option Value} {base : Heap} (Z : Fs P w K mg) {cdv : Value} {A : Around} {outer : List Env} {s : Shared} {H : Hp} {E : XK} (hr : Room 0 (A.deeper (PyProof.Rows.envOfC "_law_pen" (defScope s__law_pen) s.heap.objs.size Z.a__law_pen cdv))) :
    PSs (cxOf CX0 P w K mg base N__law_pen "_law_pen" (defScope s__law_pen) Z.a__law_pen cdv A outer s H E).nox (defBody s__law_pen) (t__law_pen Z) := by
  have hu := hu_of hr
  have hu64 := hr.units
  have hu66 := hu66_of hr
  exact (pss_one (ps_ret (pe_lst (pa_cons (pe_lc (own := [("cell", 1)]) rfl sc__law_pen.nd (pi_list (pe_slice sl_list (pv 0) po_none (po_some pe_int))) (blkOk_by (own := [("cell", 1)]) (N := N__law_pen) (sc := defScope s__law_pen) (by decide +kernel)) (fun _ _ _ _ _ => (pg_name (i := 1) sc__law_pen.nd rfl (Or.inl rfl))) (fun _ _ _ _ _ => pts_nil) (fun _ _ _ _ _ => (pe_callTy call_int1 (by rfl) Z.z_int (by decide +kernel) (pa_cons (pv 1) pa_nil)))) (pa_cons pe_int (pa_cons pe_int pa_nil))))))
theorem rd__law_pen {P : Program} {w : World} {K : PySem.W.Frag} [LT K] {mg : Str → Option Value} (Z : Fs P w K mg) {vs : List V} {H : Hp} {Q : VK} {E : XK} (h : sp__law_pen K vs H Q E) : t__law_pen Z { nx := fun _ H' => Q .non H', rt := Q } (L2.start N__law_pen vs) H := by
  show penT K _ _ _
  exact pen_run h rfl
theorem ok__law_pen {P : Program} {w : World} {K : PySem.W.Frag} [LT K] {mg : Str → Option Value} {base : Heap} (Z : Fs P w K mg) : FnOk P w K mg base CX0 1 Z.a__law_pen Z.d__law_pen ["script"] (sp__law_pen K) :=
  Z.F__law_pen.ok sc__law_pen (fun _ _ _ _ h => by first | exact spP_len h | exact spN_len h | exact spPen_len h) (fun cdv A outer s H vs Q E hr h => ⟨t__law_pen Z, ps__law_pen Z hr, rd__law_pen Z h⟩)
/-! ## _law_draw -/
abbrev N__law_draw : List Str := ["pen", "many", "rest", "turn", "cell", "mixed"]
theorem sc__law_draw : FnScope N__law_draw ["pen", "many"] (defScope s__law_draw) := ⟨rfl, rfl, rfl, by decide +kernel, rfl, by decide +kernel, by decide +kernel⟩
abbrev sp__law_draw (K : PySem.W.Frag) [LT K] : Sp := spDraw K
def t__law_draw {P : Program} {w : World} {K : PySem.W.Frag} [LT K] {mg : Str → Option Value} (Z : Fs P w K mg) : TS :=
  (tSeq (tIfS (tTest (tOp (rI0 fun i j => .bl (decide (j < i))) (tOp (rIx K) (tVar 0) (tC (.int 2))) (tC (.int 0))))
    (tSeq (tAsg (tCB rInt1 (tCons (tOp (rIx K) (tVar 0) (tC (.int 2))) tNil)) (gName 2))
    (tSeq (tAsg (tOp (rI CDiv fun i j => .int (i / j)) (tVar 2) (tVar 1)) (gSub (tVar 0) (tC (.int 2)) rSetL))
    (tRet (tOp (rI (fun _ j => 0 < j) fun i j => .int (i % j)) (tCB rInt1 (tCons (tVar 2) tNil)) (tVar 1)))))
    tNext)
    (tSeq (tAsg (tOp (rIx K) (tVar 0) (tC (.int 1))) (gName 3))
    (tSeq (tAsg (tOp (rAddU K) (tVar 3) (tC (.int 1))) (gSub (tVar 0) (tC (.int 1)) rSetL))
    (tSeq (tAsg (tOp (rAddU K) (tOp rMulU (tC (.int 52711)) (tVar 3)) (tC (.int 9241))) (gName 4))
    (tSeq (tIfS (tTest (tOp (rNeU K) (tOp (rIx K) (tVar 0) (tC (.int 0))) (tLst tNil)))
    (tAsg (tOp (rIx K) (tOp (rIx K) (tVar 0) (tC (.int 0))) (tOp (rI (fun _ j => 0 < j) fun i j => .int (i % j)) (tCB rInt1 (tCons (tVar 3) tNil)) (tCB (rLenA K) (tCons (tOp (rIx K) (tVar 0) (tC (.int 0))) tNil)))) (gName 4))
    tNext)
    (tSeq (tIfS (tAnd (tTest (tOp (rI0 fun i j => .bl (decide (i < j))) (tVar 3) (tCB (rLenA K) (tCons (tOp (rIx K) (tVar 0) (tC (.int 0))) tNil)))) (tTest (tOp (rI0 fun i j => .bl (decide (j ≤ i))) (tCB rAbs (tCons (tVar 4) tNil)) (tOp (rI CPowI fun i j => .int (i ^ j.toNat)) (tC (.int 10)) (tC (.int 18))))))
    (tSeq (tAsg (tOp (rAddU K) (tOp rMulU (tC (.int 2)) (tOp (rI0 fun i j => .int (i - j)) (tCB rAbs (tCons (tVar 4) tNil)) (tOp (rI CPowI fun i j => .int (i ^ j.toNat)) (tC (.int 10)) (tC (.int 18))))) (tCB rInt1 (tCons (tOp (rI0 fun i j => .bl (decide (i < j))) (tVar 4) (tC (.int 0))) tNil))) (gName 2))
    (tSeq (tAsg (tOp (rI CDiv fun i j => .int (i / j)) (tCB rInt1 (tCons (tVar 2) tNil)) (tVar 1)) (gSub (tVar 0) (tC (.int 2)) rSetL))
    (tRet (tOp (rI (fun _ j => 0 < j) fun i j => .int (i % j)) (tCB rInt1 (tCons (tVar 2) tNil)) (tVar 1)))))
    tNext)
    (tSeq (tAsg (tOp (rI (fun _ j => 0 < j) fun i j => .int (i % j)) (tCB rInt1 (tCons (tOp (rI CPowI fun i j => .int (i ^ j.toNat)) (tOp (rAddU K) (tOp (rAddU K) (tOp (rI (fun _ j => 0 < j) fun i j => .int (i % j)) (tCB rInt1 (tCons (tVar 4) tNil)) (tC (.int 2147483549))) (tOp rMulU (tC (.int 52711)) (tVar 3))) (tC (.int 9241))) (tC (.int 5))) tNil)) (tC (.int 2147483629))) (gName 5))
    (tSeq (tAsg (tOp (rI (fun _ j => 0 < j) fun i j => .int (i % j)) (tCB rInt1 (tCons (tOp (rI CPowI fun i j => .int (i ^ j.toNat)) (tOp (rAddU K) (tOp (rAddU K) (tOp rMulU (tVar 5) (tOp (rAddU K) (tOp rMulU (tC (.int 2)) (tVar 3)) (tC (.int 6007)))) (tOp rMulU (tOp rMulU (tC (.int 41011)) (tVar 3)) (tVar 3))) (tC (.int 52711))) (tC (.int 3))) tNil)) (tC (.int 2147483587))) (gName 5))
    (tRet (tOp (rI (fun _ j => 0 < j) fun i j => .int (i % j)) (tCB rInt1 (tCons (tOp (rI CDiv fun i j => .int (i / j)) (tVar 5) (tC (.int 64))) tNil)) (tVar 1)))))))))))
theorem ps__law_draw {P : Program} {w : World} {K : PySem.W.Frag} [LT K] {mg : Str → Option Value} {base : Heap} (Z : Fs P w K mg) {cdv : Value} {A : Around} {outer : List Env} {s : Shared} {H : Hp} {E : XK} (hr : Room 0 (A.deeper (PyProof.Rows.envOfC "_law_draw" (defScope s__law_draw) s.heap.objs.size Z.a__law_draw cdv))) :
    PSs (cxOf CX0 P w K mg base N__law_draw "_law_draw" (defScope s__law_draw) Z.a__law_draw cdv A outer s H E).nox (defBody s__law_draw) (t__law_draw Z) := by
  have hu := hu_of hr
  have hu64 := hr.units
  have hu66 := hu66_of hr
  exact (pss_cons (ps_if (pt_cmpR op_gt (pe_ix ix_seq (pv 0) pe_int (fun _ _ => rfl)) pe_int (nomark _))
    (pss_cons (ps_set (i := 2) sc__law_draw.nd rfl (Or.inl rfl) (pe_callTy call_int1 (by rfl) Z.z_int (by decide +kernel) (pa_cons (pe_ix ix_seq (pv 0) pe_int (fun _ _ => rfl)) pa_nil)))
    (pss_cons (ps_asg (pe_op op_fdiv (pv 2) (pv 1)) (pg_sub (pv 0) pe_int set_list))
    (pss_one (ps_ret (pe_op op_mod (pe_callTy call_int1 (by rfl) Z.z_int (by decide +kernel) (pa_cons (pv 2) pa_nil)) (pv 1))))))
    pss_nil)
    (pss_cons (ps_set (i := 3) sc__law_draw.nd rfl (Or.inl rfl) (pe_ix ix_seq (pv 0) pe_int (fun _ _ => rfl)))
    (pss_cons (ps_asg (pe_op op_addU (pv 3) pe_int) (pg_sub (pv 0) pe_int set_list))
    (pss_cons (ps_set (i := 4) sc__law_draw.nd rfl (Or.inl rfl) (pe_op op_addU (pe_op op_mulU pe_int (pv 3)) pe_int))
    (pss_cons (ps_if (pt_cmpR (op_neU hu64) (pe_ix ix_seq (pv 0) pe_int (fun _ _ => rfl)) (pe_lst pa_nil) (nomark _))
    (pss_one (ps_set (i := 4) sc__law_draw.nd rfl (Or.inl rfl) (pe_ix ix_seq (pe_ix ix_seq (pv 0) pe_int (fun _ _ => rfl)) (pe_op op_mod (pe_callTy call_int1 (by rfl) Z.z_int (by decide +kernel) (pa_cons (pv 3) pa_nil)) (pe_callB call_lenA (by rfl) Z.z_len (by decide +kernel) (pa_cons (pe_ix ix_seq (pv 0) pe_int (fun _ _ => rfl)) pa_nil))) (fun _ _ => rfl))))
    pss_nil)
    (pss_cons (ps_if (PW.pt (pw_and (pt_cmpR op_lt (pv 3) (pe_callB call_lenA (by rfl) Z.z_len (by decide +kernel) (pa_cons (pe_ix ix_seq (pv 0) pe_int (fun _ _ => rfl)) pa_nil)) (nomark _)) (pw_and1 (pt_cmpR op_ge (pe_callB call_abs (by rfl) Z.z_abs (by decide +kernel) (pa_cons (pv 4) pa_nil)) (pe_op op_powI pe_int pe_int) (nomark _)))))
    (pss_cons (ps_set (i := 2) sc__law_draw.nd rfl (Or.inl rfl) (pe_op op_addU (pe_op op_mulU pe_int (pe_op op_sub (pe_callB call_abs (by rfl) Z.z_abs (by decide +kernel) (pa_cons (pv 4) pa_nil)) (pe_op op_powI pe_int pe_int))) (pe_callTy call_int1 (by rfl) Z.z_int (by decide +kernel) (pa_cons (pe_cmpR op_lt (pv 4) pe_int (nomark _)) pa_nil))))
    (pss_cons (ps_asg (pe_op op_fdiv (pe_callTy call_int1 (by rfl) Z.z_int (by decide +kernel) (pa_cons (pv 2) pa_nil)) (pv 1)) (pg_sub (pv 0) pe_int set_list))
    (pss_one (ps_ret (pe_op op_mod (pe_callTy call_int1 (by rfl) Z.z_int (by decide +kernel) (pa_cons (pv 2) pa_nil)) (pv 1))))))
    pss_nil)
    (pss_cons (ps_set (i := 5) sc__law_draw.nd rfl (Or.inl rfl) (pe_op op_mod (pe_callTy call_int1 (by rfl) Z.z_int (by decide +kernel) (pa_cons (pe_op op_powI (pe_op op_addU (pe_op op_addU (pe_op op_mod (pe_callTy call_int1 (by rfl) Z.z_int (by decide +kernel) (pa_cons (pv 4) pa_nil)) pe_int) (pe_op op_mulU pe_int (pv 3))) pe_int) pe_int) pa_nil)) pe_int))
    (pss_cons (ps_set (i := 5) sc__law_draw.nd rfl (Or.inl rfl) (pe_op op_mod (pe_callTy call_int1 (by rfl) Z.z_int (by decide +kernel) (pa_cons (pe_op op_powI (pe_op op_addU (pe_op op_addU (pe_op op_mulU (pv 5) (pe_op op_addU (pe_op op_mulU pe_int (pv 3)) pe_int)) (pe_op op_mulU (pe_op op_mulU pe_int (pv 3)) (pv 3))) pe_int) pe_int) pa_nil)) pe_int))
    (pss_one (ps_ret (pe_op op_mod (pe_callTy call_int1 (by rfl) Z.z_int (by decide +kernel) (pa_cons (pe_op op_fdiv (pv 5) pe_int) pa_nil)) (pv 1))))))))))))
theorem rd__law_draw {P : Program} {w : World} {K : PySem.W.Frag} [LT K] {mg : Str → Option Value} (Z : Fs P w K mg) {vs : List V} {H : Hp} {Q : VK} {E : XK} (h : sp__law_draw K vs H Q E) : t__law_draw Z { nx := fun _ H' => Q .non H', rt := Q } (L2.start N__law_draw vs) H := by
  show drawT K 52711 9241 52711 9241 6007 41011 52711 _ _ _
  exact draw_run h rfl (by decide) (by decide) (by decide) (by decide) (by decide) (by decide) (by decide)
theorem ok__law_draw {P : Program} {w : World} {K : PySem.W.Frag} [LT K] {mg : Str → Option Value} {base : Heap} (Z : Fs P w K mg) : FnOk P w K mg base CX0 1 Z.a__law_draw Z.d__law_draw ["pen", "many"] (sp__law_draw K) :=
  Z.F__law_draw.ok sc__law_draw (fun _ _ _ _ h => by first | exact spP_len h | exact spN_len h | exact spPen_len h) (fun cdv A outer s H vs Q E hr h => ⟨t__law_draw Z, ps__law_draw Z hr, rd__law_draw Z h⟩)
/-! ## _law_pick -/
abbrev N__law_pick : List Str := ["pen", "some"]
theorem sc__law_pick : FnScope N__law_pick ["pen", "some"] (defScope s__law_pick) := ⟨rfl, rfl, rfl, by decide +kernel, rfl, by decide +kernel, by decide +kernel⟩
abbrev sp__law_pick (K : PySem.W.Frag) [LT K] : Sp := spPick K
def t__law_pick {P : Program} {w : World} {K : PySem.W.Frag} [LT K] {mg : Str → Option Value} (Z : Fs P w K mg) : TS :=
  (tRet (tOp (rIx K) (tVar 1) (tCall (sp__law_draw K) [] E0 (tCons (tVar 0) (tCons (tCB (rLenA K) (tCons (tVar 1) tNil)) tNil)))))
theorem ps__law_pick {P : Program} {w : World} {K : PySem.W.Frag} [LT K] {mg : Str → Option Value} {base : Heap} (Z : Fs P w K mg) {cdv : Value} {A : Around} {outer : List Env} {s : Shared} {H : Hp} {E : XK} (hr : Room 1 (A.deeper (PyProof.Rows.envOfC "_law_pick" (defScope s__law_pick) s.heap.objs.size Z.a__law_pick cdv))) :
    PSs (cxOf CX0 P w K mg base N__law_pick "_law_pick" (defScope s__law_pick) Z.a__law_pick cdv A outer s H E).nox (defBody s__law_pick) (t__law_pick Z) := by
  have hu := hu_of hr
  have hu64 := hr.units
  have hu66 := hu66_of hr
  exact (pss_one (ps_ret (pe_ix ix_seq (pv 1) (pe_call (ok__law_draw Z) (hr.mono (by decide)) rfl Z.m__law_draw Z.F__law_draw.kp Z.b__law_draw .nil pass0 (pa_cons (pv 0) (pa_cons (pe_callB call_lenA (by rfl) Z.z_len (by decide +kernel) (pa_cons (pv 1) pa_nil)) pa_nil))) (fun _ _ => rfl))))
theorem rd__law_pick {P : Program} {w : World} {K : PySem.W.Frag} [LT K] {mg : Str → Option Value} (Z : Fs P w K mg) {vs : List V} {H : Hp} {Q : VK} {E : XK} (h : sp__law_pick K vs H Q E) : t__law_pick Z { nx := fun _ H' => Q .non H', rt := Q } (L2.start N__law_pick vs) H := by
  show pickT K _ _ _
  exact pick_run h rfl
theorem ok__law_pick {P : Program} {w : World} {K : PySem.W.Frag} [LT K] {mg : Str → Option Value} {base : Heap} (Z : Fs P w K mg) : FnOk P w K mg base CX0 2 Z.a__law_pick Z.d__law_pick ["pen", "some"] (sp__law_pick K) :=
  Z.F__law_pick.ok sc__law_pick (fun _ _ _ _ h => by first | exact spP_len h | exact spN_len h | exact spPen_len h) (fun cdv A outer s H vs Q E hr h => ⟨t__law_pick Z, ps__law_pick Z hr, rd__law_pick Z h⟩)
/-! ## _law_words -/
abbrev N__law_words : List Str := []
theorem sc__law_words : FnScope N__law_words [] (defScope s__law_words) := ⟨rfl, rfl, rfl, by decide +kernel, rfl, by decide +kernel, by decide +kernel⟩
abbrev sp__law_words (K : PySem.W.Frag) [LT K] : Sp := spP K 0 (fun _ => True) (fun _ => .lst (words.map D.str))
def t__law_words {P : Program} {w : World} {K : PySem.W.Frag} [LT K] {mg : Str → Option Value} (Z : Fs P w K mg) : TS :=
  (tRet (tM1 rSplit (tC (.str "both gives pick or nothing any no split call take open use never give box pair fun offer left right unit rest first second")) (tC (.str " "))))
theorem ps__law_words {P : Program} {w : World} {K : PySem.W.Frag} [LT K] {mg : Str → Option Value} {base : Heap} (Z : Fs P w K mg) {cdv : Value} {A : Around} {outer : List Env} {s : Shared} {H : Hp} {E : XK} (hr : Room 0 (A.deeper (PyProof.Rows.envOfC "_law_words" (defScope s__law_words) s.heap.objs.size Z.a__law_words cdv))) :
    PSs (cxOf CX0 P w K mg base N__law_words "_law_words" (defScope s__law_words) Z.a__law_words cdv A outer s H E).nox (defBody s__law_words) (t__law_words Z) := by
  have hu := hu_of hr
  have hu64 := hr.units
  have hu66 := hu66_of hr
  exact (pss_one (ps_ret (pe_split pe_str pe_str)))
theorem rd__law_words {P : Program} {w : World} {K : PySem.W.Frag} [LT K] {mg : Str → Option Value} (Z : Fs P w K mg) {vs : List V} {H : Hp} {Q : VK} {E : XK} (h : sp__law_words K vs H Q E) : t__law_words Z { nx := fun _ H' => Q .non H', rt := Q } (L2.start N__law_words vs) H := by
  refine fnP h (by decide) fun S0 ds σ G hn hp st k => ?_
  refine s_ret st (EvD.is (EvO.ed (eo_split ed_str ed_str rfl (by rw [sizeLine_eq]; decide))) ?_) k
  show D.lst _ = D.lst (words.map D.str)
  congr 2
  decide +kernel
theorem ok__law_words {P : Program} {w : World} {K : PySem.W.Frag} [LT K] {mg : Str → Option Value} {base : Heap} (Z : Fs P w K mg) : FnOk P w K mg base CX0 1 Z.a__law_words Z.d__law_words [] (sp__law_words K) :=
  Z.F__law_words.ok sc__law_words (fun _ _ _ _ h => by first | exact spP_len h | exact spN_len h | exact spPen_len h) (fun cdv A outer s H vs Q E hr h => ⟨t__law_words Z, ps__law_words Z hr, rd__law_words Z h⟩)
/-! ## _law_is_name -/
abbrev N__law_is_name : List Str := ["value", "sign"]
theorem sc__law_is_name : FnScope N__law_is_name ["value"] (defScope s__law_is_name) := ⟨rfl, rfl, rfl, by decide +kernel, rfl, by decide +kernel, by decide +kernel⟩
abbrev sp__law_is_name (K : PySem.W.Frag) [LT K] : Sp := spP K 1 (fun ds => kns (h0 ds)) (fun ds => .bl (isNameD (h0 ds)))
def t__law_is_name {P : Program} {w : World} {K : PySem.W.Frag} [LT K] {mg : Str → Option Value} (Z : Fs P w K mg) : TS :=
  (tSeq (tIfS (tOr (tNot (tB (tCB (rIsi K) (tCons (tVar 0) (tCons (tC (.ty "str")) tNil))))) (tOr (tTest (tOp (rInV K) (tVar 0) (tCall (sp__law_words K) [] E0 tNil))) (tNot (tTest (tChain (rI0 fun i j => .bl (decide (i ≤ j))) (rI0 fun i j => .bl (decide (i ≤ j))) (tC (.int 1)) (tCB (rLenA K) (tCons (tVar 0) tNil)) (tC (.int 8)))))))
    (tRet (tC (.bl false)))
    tNext)
    (tRet (tOp (rEqU K) (tLc (iStr (tVar 0)) (gName 1) (tTest (tOp (rNinV K) (tVar 1) (tC (.str "abcdefghijklmnopqrstuvwxyz")))) (tVar 1) [1]) (tLst tNil))))
theorem ps__law_is_name {P : Program} {w : World} {K : PySem.W.Frag} [LT K] {mg : Str → Option Value} {base : Heap} (Z : Fs P w K mg) {cdv : Value} {A : Around} {outer : List Env} {s : Shared} {H : Hp} {E : XK} (hr : Room 1 (A.deeper (PyProof.Rows.envOfC "_law_is_name" (defScope s__law_is_name) s.heap.objs.size Z.a__law_is_name cdv))) :
    PSs (cxOf CX0 P w K mg base N__law_is_name "_law_is_name" (defScope s__law_is_name) Z.a__law_is_name cdv A outer s H E).nox (defBody s__law_is_name) (t__law_is_name Z) := by
  have hu := hu_of hr
  have hu64 := hr.units
  have hu66 := hu66_of hr
  exact (pss_cons (ps_if (PW.pt (pw_or (pt_not (pt_val (pe_callB call_isi (by rfl) Z.z_isinstance (by decide +kernel) (pa_cons (pv 0) (pa_cons (pe_bltn rfl Z.z_str (by decide +kernel) rfl) pa_nil))))) (pw_or (pt_cmpR (op_inV hu) (pv 0) (pe_call0 (ok__law_words Z) (hr.mono (by decide)) rfl Z.m__law_words Z.F__law_words.kp Z.b__law_words .nil pass0) rfl) (pw_or1 (pt_not (pt_chain op_le op_le pe_int (pe_callB call_lenA (by rfl) Z.z_len (by decide +kernel) (pa_cons (pv 0) pa_nil)) pe_int))))))
    (pss_one (ps_ret pe_bl))
    pss_nil)
    (pss_one (ps_ret (pe_cmpR (op_eqU hu64) (pe_lc (own := [("sign", 1)]) rfl sc__law_is_name.nd (pi_str (pv 0)) (blkOk_by (own := [("sign", 1)]) (N := N__law_is_name) (sc := defScope s__law_is_name) (by decide +kernel)) (fun _ _ _ _ _ => (pg_name (i := 1) sc__law_is_name.nd rfl (Or.inl rfl))) (fun _ _ _ _ _ => (pts_one (pt_cmpR (op_ninV hu) (pv 1) pe_str rfl))) (fun _ _ _ _ _ => (pv 1))) (pe_lst pa_nil) (nomark _)))))
theorem no_odd (s : Str) : ((signs s).filter fun d => !isLetD d).isEmpty = s.cps.toList.all isLet := by
  unfold signs
  generalize s.cps.toList = l
  induction l with
  | nil => rfl
  | cons c r ih =>
    rw [List.map_cons, List.filter_cons, List.all_cons]
    have e : isLetD (.str ⟨#[c]⟩) = isLet c := by
      show [c].all isLet = isLet c
      rw [List.all_cons, List.all_nil, Bool.and_true]
    rw [e]
    cases isLet c with
    | true => simpa using ih
    | false => rfl
theorem rd__law_is_name {P : Program} {w : World} {K : PySem.W.Frag} [LT K] {mg : Str → Option Value} (Z : Fs P w K mg) {vs : List V} {H : Hp} {Q : VK} {E : XK} (h : sp__law_is_name K vs H Q E) : t__law_is_name Z { nx := fun _ H' => Q .non H', rt := Q } (L2.start N__law_is_name vs) H := by
  refine fnP1 h (by decide) fun S0 d σ G hp st k => ?_
  obtain ⟨hk, hl⟩ := hp
  have hk : kn d := hk
  have e1 := kn_str hk
  by_cases hs : ∃ s, d = .str s
  · obtain ⟨s, rfl⟩ := hs
    have hz := hl s rfl
    have hw : EvD K none (tCall (sp__law_words K) [] E0 tNil) σ S0 (.lst (words.map D.str)) := ed_call (ds := []) ea_nil rfl True.intro
    refine s_seq (s_if st (et_or (a := false) (EvT.is (et_not (et_B (ed_isi (by k_extra "eh") e1))) rfl) fun _ =>
      et_or (et_test (ed_op (by k_extra "eh") hw.h (rd_inL2 rfl (flat_strs words)))) fun _ => et_not (et_test (ed_chain (by k_extra "eh") (EvD.h (ed_cb (eh_cons (by k_extra "eh") eh_nil) (rl_S (le_line hz)))) rd_B0 (fun _ => by k_extra "eh") rd_B0))) (fun hb S1 st1 => ?_) (fun hb S1 st1 => ?_))
    · refine s_ret st1 (EvD.is ed_bl ?_) k
      show D.bl false = D.bl (isNameS s)
      rw [name_no]
      unfold nameTest
      rw [Bool.false_or, Bool.or_comm]
      exact hb
    · have hb' : nameTest s = false := by
        unfold nameTest
        rw [Bool.false_or, Bool.or_comm]
        exact hb
      refine s_next ?_
      dsimp only
      refine (s_ret st1 (EvD.is (ed_op (EvO.h (eo_lc (i := 1) (vs := [1]) (f := fun d => d) (b := fun d => !isLetD d) st1 (es_str (ed_var st1 rfl)) (by decide) (by decide) (fun d hd B' n' σ' S' st' => ⟨?_, fun _ => ed_var st' rfl⟩) (signs_len (lt_line hz)))) (EvO.h (eo_lst ea_nil (Nat.zero_le _))) rd_eqNil) ?_) k)
      · obtain ⟨c, rfl⟩ := signs_mem hd
        refine EvT.is (et_test (ed_op (EvD.h (ed_var st' rfl)) (by k_extra "eh") rd_ninS2)) ?_
        show (!_) = (!([c].all isLet))
        rw [List.all_cons, List.all_nil, Bool.and_true]
        rfl
      · show D.bl _ = D.bl (isNameS s)
        rw [name_yes hb', List.map_id']
        congr 1
        exact no_odd s
  · have e2 : isiD "str" d = some false := by
      rw [e1]
      cases d <;> first | rfl | exact absurd ⟨_, rfl⟩ hs
    refine s_seq (s_if st (et_orT (EvT.is (et_not (et_B (ed_isi (by k_extra "eh") e2))) rfl)) (fun hb S1 st1 => ?_) (fun hb S1 st1 => by cases hb))
    refine s_ret st1 (EvD.is ed_bl ?_) k
    show D.bl false = D.bl (isNameD d)
    cases d <;> first | rfl | exact absurd ⟨_, rfl⟩ hs
theorem ok__law_is_name {P : Program} {w : World} {K : PySem.W.Frag} [LT K] {mg : Str → Option Value} {base : Heap} (Z : Fs P w K mg) : FnOk P w K mg base CX0 2 Z.a__law_is_name Z.d__law_is_name ["value"] (sp__law_is_name K) :=
  Z.F__law_is_name.ok sc__law_is_name (fun _ _ _ _ h => by first | exact spP_len h | exact spN_len h | exact spPen_len h) (fun cdv A outer s H vs Q E hr h => ⟨t__law_is_name Z, ps__law_is_name Z hr, rd__law_is_name Z h⟩)
/-! ## _law_text_drawn -/
abbrev N__law_text_drawn : List Str := ["pen", "signs", "turn"]
theorem sc__law_text_drawn : FnScope N__law_text_drawn ["pen"] (defScope s__law_text_drawn) := ⟨rfl, rfl, rfl, by decide +kernel, rfl, by decide +kernel, by decide +kernel⟩
abbrev sp__law_text_drawn (K : PySem.W.Frag) [LT K] : Sp := spN K 0 12 (fun _ => True) (fun _ d => ∃ s : Str, d = .str s ∧ s.length ≤ 10)
def t__law_text_drawn {P : Program} {w : World} {K : PySem.W.Frag} [LT K] {mg : Str → Option Value} (Z : Fs P w K mg) : TS :=
  (tSeq (tAsg (tCall (sp__law_pick K) [] E0 (tCons (tVar 0) (tCons (tLst (tCons (tC (.str "abcdefghijklmnopqrstuvwxyz")) (tCons (tC (.str "az")) (tCons (tC (.str "abC")) (tCons (tC (.str "a b")) (tCons (tC (.str "a_1")) (tCons (tC (.str "a~")) (tCons (tC (.str "a{")) (tCons (tC (.str "a-")) tNil))))))))) tNil))) (gName 1))
    (tRet (tM1 (rJoin K) (tC (.str "")) (tLc (iRng1 (tCons (tCall (sp__law_draw K) [] E0 (tCons (tVar 0) (tCons (tC (.int 11)) tNil))) tNil)) (gName 2) tYes (tCall (sp__law_pick K) [] E0 (tCons (tVar 0) (tCons (tVar 1) tNil))) [2]))))
theorem ps__law_text_drawn {P : Program} {w : World} {K : PySem.W.Frag} [LT K] {mg : Str → Option Value} {base : Heap} (Z : Fs P w K mg) {cdv : Value} {A : Around} {outer : List Env} {s : Shared} {H : Hp} {E : XK} (hr : Room 2 (A.deeper (PyProof.Rows.envOfC "_law_text_drawn" (defScope s__law_text_drawn) s.heap.objs.size Z.a__law_text_drawn cdv))) :
    PSs (cxOf CX0 P w K mg base N__law_text_drawn "_law_text_drawn" (defScope s__law_text_drawn) Z.a__law_text_drawn cdv A outer s H E).nox (defBody s__law_text_drawn) (t__law_text_drawn Z) := by
  have hu := hu_of hr
  have hu64 := hr.units
  have hu66 := hu66_of hr
  exact (pss_cons (ps_set (i := 1) sc__law_text_drawn.nd rfl (Or.inr rfl) (pe_call (ok__law_pick Z) (hr.mono (by decide)) rfl Z.m__law_pick Z.F__law_pick.kp Z.b__law_pick .nil pass0 (pa_cons (pv 0) (pa_cons (pe_lst (pa_cons pe_str (pa_cons pe_str (pa_cons pe_str (pa_cons pe_str (pa_cons pe_str (pa_cons pe_str (pa_cons pe_str (pa_cons pe_str pa_nil))))))))) pa_nil))))
    (pss_one (ps_ret (pe_join pe_str (pe_lc (own := [("turn", 2)]) rfl sc__law_text_drawn.nd (pi_range1 rfl Z.z_range (pa_cons (pe_call (ok__law_draw Z) (hr.mono (by decide)) rfl Z.m__law_draw Z.F__law_draw.kp Z.b__law_draw .nil pass0 (pa_cons (pv 0) (pa_cons pe_int pa_nil))) pa_nil)) (blkOk_by (own := [("turn", 2)]) (N := N__law_text_drawn) (sc := defScope s__law_text_drawn) (by decide +kernel)) (fun _ _ _ _ _ => (pg_name (i := 2) sc__law_text_drawn.nd rfl (Or.inl rfl))) (fun _ _ _ _ _ => pts_nil) (fun _ _ _ _ _ => (pe_call (ok__law_pick Z) (hr.mono (by decide)) rfl Z.m__law_pick Z.F__law_pick.kp Z.b__law_pick .nil pass0 (pa_cons (pv 0) (pa_cons (pv 1) pa_nil)))))))))
theorem signs_length (s : Str) : (signs s).length = s.length := by unfold signs; rw [List.length_map]; rfl
def txt26 : D → Bool
  | .str s => decide (1 ≤ s.length) && decide (s.length ≤ 26)
  | _ => false
theorem txt26_of {d : D} (h : txt26 d = true) : ∃ s, d = .str s ∧ 1 ≤ s.length ∧ s.length ≤ 26 := by
  cases d with
  | str s =>
    have h2 := Bool.and_eq_true_iff.mp h
    exact ⟨s, rfl, of_decide_eq_true h2.1, of_decide_eq_true h2.2⟩
  | _ => cases h
theorem map_str_inj : ∀ {a b : List Str}, a.map D.str = b.map D.str → a = b
  | [], [], _ => rfl
  | [], _ :: _, h => by cases h
  | _ :: _, [], h => by cases h
  | x :: a, y :: b, h => by
    rw [List.map_cons, List.map_cons] at h
    have h1 := (List.cons.inj h).1
    cases h1
    rw [map_str_inj (List.cons.inj h).2]
theorem rd__law_text_drawn {P : Program} {w : World} {K : PySem.W.Frag} [LT K] {mg : Str → Option Value} (Z : Fs P w K mg) {vs : List V} {H : Hp} {Q : VK} {E : XK} (h : sp__law_text_drawn K vs H Q E) : t__law_text_drawn Z { nx := fun _ H' => Q .non H', rt := Q } (L2.start N__law_text_drawn vs) H := by
  refine fnN h (by decide) fun S0 a ds σ G hn hp st k => ?_
  cases ds with
  | cons _ _ => cases hn
  | nil =>
  refine s_seq (s_N st (en_call (n := 1) (N := 1) (ds := [.lst _]) (ev_var st rfl) (ea_cons (EvO.ed (eo_lst (by k_extra "ea") (by rw [sizeLine_eq]; exact Nat.le_of_ble_eq_true rfl))) ea_nil) rfl ⟨_, rfl, (by intro z; cases z), Nat.le_of_ble_eq_true rfl⟩) (by decide) (by decide) fun d σ1 S1 hd st1 => ?_)
  obtain ⟨es, he, hd⟩ := hd
  cases he
  have hs : txt26 d = true := List.all_eq_true.mp (by decide +kernel) d hd
  obtain ⟨s, rfl, hs1, hs2⟩ := txt26_of hs
  have rg : EvSN K (some a) (iRng1 (tCons (tCall (sp__law_draw K) [] E0 (tCons (tVar 0) (tCons (tC (.int 11)) tNil))) tNil)) σ1 S1 1 (fun ds => ∃ z : Int, ds = rng 0 z.toNat ∧ 0 ≤ z ∧ z ≤ 10) := by
    have e := es_rng1N (P := fun d => ∃ z : Int, d = .int z ∧ z ≤ 10) (EvN.le (en_call (n := 1) (N := 1) (ds := [.int 11]) (ev_var st1 rfl) (ea_cons ed_int ea_nil) rfl ⟨11, rfl, by decide, by decide⟩ : EvN K (some a) (tCall (sp__law_draw K) [] E0 (tCons (tVar 0) (tCons (tC (.int 11)) tNil))) σ1 S1 1 _) (Nat.le_refl 1) (by
      rintro d ⟨r, m, rfl, hm, h1, h2⟩
      cases hm
      exact ⟨r, rfl, h1, by omega, r, rfl, by omega⟩))
    intro S2 g2 hb R q
    refine e S2 g2 hb R fun J ds S3 g3 t3 hds src => q J ds S3 g3 t3 ?_ src
    obtain ⟨z, e1, e2, z', e3, e4⟩ := hds
    cases e3
    exact ⟨z, e1, e2, e4⟩
  have lc := en_lcN (i := 2) (vs := [2]) (w := 1) (L := 10) (R := fun _ e => ∃ s : Str, e = .str s ∧ s.length ≤ 1) (te := tCall (sp__law_pick K) [] E0 (tCons (tVar 0) (tCons (tVar 1) tNil))) st1 rg (by decide) (by decide) (fun ds hds => by
      obtain ⟨z, rfl, _, h2⟩ := hds
      rw [rng_len]
      omega) (by rw [sizeLine_eq]; exact Nat.le_of_ble_eq_true rfl) (fun ds hds d hd B' n' σ' S' st' => by
    refine EvN.le (en_call (n := 1) (N := 1) (ds := [.str s]) (ev_var st' rfl) (ea_cons (ed_var st' rfl) ea_nil) rfl ⟨signs s, rfl, ?_, ?_⟩) (Nat.le_refl _) ?_
    · intro z
      have := congrArg List.length z
      rw [signs_length] at this
      rw [this] at hs1
      cases hs1
    · rw [signs_length]; omega
    · rintro e ⟨es, he, hd⟩
      cases he
      obtain ⟨c, rfl⟩ := signs_mem hd
      exact ⟨_, rfl, Nat.le_refl 1⟩)
  refine s_retN st1 (en_join ed_str lc ?_) (by decide) (fun v d S' hd g ht r => k v d S' ?_ g ht r)
  · rintro es ⟨ds, ⟨z, rfl, _, h2⟩, hl, hall⟩
    obtain ⟨ys, rfl, hys⟩ := strs_of (P := fun s => s.length ≤ 1) fun e he => (lc_all hl hall e he).choose_spec.2
    refine ⟨ys, rfl, ?_⟩
    rw [List.length_map, rng_len] at hl
    have q := sum_le hys
    show _ + ys.length * 0 ≤ _
    omega
  · obtain ⟨ys, ⟨ds, ⟨z, rfl, _, h2⟩, hl, hall⟩, rfl⟩ := hd
    obtain ⟨ys', e', hys⟩ := strs_of (P := fun s => s.length ≤ 1) fun e he => (lc_all hl hall e he).choose_spec.2
    have e2 : ys = ys' := map_str_inj e'
    subst e2
    rw [List.length_map, rng_len] at hl
    refine ⟨_, rfl, ?_⟩
    rw [TL.join_eq]
    have q := sum_le hys
    have q2 := join_len "" ys
    have q3 : ("" : Str).length = 0 := rfl
    rw [q3] at q2
    omega
theorem ok__law_text_drawn {P : Program} {w : World} {K : PySem.W.Frag} [LT K] {mg : Str → Option Value} {base : Heap} (Z : Fs P w K mg) : FnOk P w K mg base CX0 3 Z.a__law_text_drawn Z.d__law_text_drawn ["pen"] (sp__law_text_drawn K) :=
  Z.F__law_text_drawn.ok sc__law_text_drawn (fun _ _ _ _ h => by first | exact spP_len h | exact spN_len h | exact spPen_len h) (fun cdv A outer s H vs Q E hr h => ⟨t__law_text_drawn Z, ps__law_text_drawn Z hr, rd__law_text_drawn Z h⟩)
/-! ## _law_order -/
abbrev N__law_order : List Str := ["taken", "many", "found", "size", "letters", "line", "turn", "sign", "one"]
theorem sc__law_order : FnScope N__law_order ["taken", "many"] (defScope s__law_order) := ⟨rfl, rfl, rfl, by decide +kernel, rfl, by decide +kernel, by decide +kernel⟩
abbrev sp__law_order (K : PySem.W.Frag) [LT K] : Sp := spP K 2 preOrd (fun ds => .lst ((ordS (takenD (h0 ds)) (manyD (h1 ds))).map D.str))
def t__law_order {P : Program} {w : World} {K : PySem.W.Frag} [LT K] {mg : Str → Option Value} (Z : Fs P w K mg) : TS :=
  (tSeq (tPar 2 3 (tCons (tLst tNil) (tCons (tC (.int 1)) tNil)))
    (tSeq (tAsg (tC (.str "abcdefghijklmnopqrstuvwxyz")) (gName 4))
    (tSeq (tWhile (tTest (tOp (rI0 fun i j => .bl (decide (i < j))) (tCB (rLenA K) (tCons (tVar 2) tNil)) (tVar 1)))
    (tSeq (tAsg (tLst (tCons (tC (.str "")) tNil)) (gName 5))
    (tSeq (tFor (iRng1 (tCons (tVar 3) tNil)) (gName 6)
    (tAsg (tCB (rSumL K) (tCons (tLc (iList K (tVar 5)) (gName 8) tYes (tLc (iStr (tVar 4)) (gName 7) tYes (tOp (rAddU K) (tVar 8) (tVar 7)) [7]) [8]) (tCons (tLst tNil) tNil))) (gName 5)))
    (tSeq (tAsg (tOp (rAddU K) (tVar 2) (tLc (iList K (tVar 5)) (gName 8) (tAnd (tTest (tOp (rNinV K) (tVar 8) (tVar 0))) (tTest (tOp (rNinV K) (tVar 8) (tCall (sp__law_words K) [] E0 tNil)))) (tVar 8) [8])) (gName 2))
    (tAsg (tOp (rAddU K) (tVar 3) (tC (.int 1))) (gName 3))))))
    (tRet (tSl (rSlL K) (tVar 2) tNoPart (tPart (tVar 1)))))))
theorem ps__law_order {P : Program} {w : World} {K : PySem.W.Frag} [LT K] {mg : Str → Option Value} {base : Heap} (Z : Fs P w K mg) {cdv : Value} {A : Around} {outer : List Env} {s : Shared} {H : Hp} {E : XK} (hr : Room 1 (A.deeper (PyProof.Rows.envOfC "_law_order" (defScope s__law_order) s.heap.objs.size Z.a__law_order cdv))) :
    PSs (cxOf CX0 P w K mg base N__law_order "_law_order" (defScope s__law_order) Z.a__law_order cdv A outer s H E).nox (defBody s__law_order) (t__law_order Z) := by
  have hu := hu_of hr
  have hu64 := hr.units
  have hu66 := hu66_of hr
  exact (pss_cons (ps_par (i := 2) (j := 3) rfl sc__law_order.nd rfl rfl (by decide) rfl rfl (pa_cons (pe_lst pa_nil) (pa_cons pe_int pa_nil)) rfl)
    (pss_cons (ps_set (i := 4) sc__law_order.nd rfl (Or.inr rfl) pe_str)
    (pss_cons (ps_while PassesOwn.never (pt_cmpR op_lt (pe_callB call_lenA (by rfl) Z.z_len (by decide +kernel) (pa_cons (pv 2) pa_nil)) (pv 1) (nomark _))
    (pss_cons (ps_set (i := 5) sc__law_order.nd rfl (Or.inl rfl) (pe_lst (pa_cons pe_str pa_nil)))
    (pss_cons (ps_for PassesOwn.never rfl (pi_range1 rfl Z.z_range (pa_cons (pv 3) pa_nil)) (pg_name (i := 6) sc__law_order.nd rfl (Or.inl rfl))
    (pss_one (ps_set (i := 5) sc__law_order.nd rfl (Or.inl rfl) (pe_callB (call_sumL rfl) (by rfl) Z.z_sum (by decide +kernel) (pa_cons (pe_lc (own := [("one", 8)]) rfl sc__law_order.nd (pi_list (pv 5)) (blkOk_by (own := [("one", 8)]) (N := N__law_order) (sc := defScope s__law_order) (by decide +kernel)) (fun _ _ _ _ _ => (pg_name (i := 8) sc__law_order.nd rfl (Or.inr rfl))) (fun _ _ _ _ _ => pts_nil) (fun _ _ _ _ _ => (pe_lc (own := [("sign", 7)]) rfl sc__law_order.nd (pi_str (pv 4)) (blkOk_by (own := [("sign", 7)]) (by rfl)) (fun _ _ _ _ _ => (pg_name (i := 7) sc__law_order.nd rfl (Or.inl rfl))) (fun _ _ _ _ _ => pts_nil) (fun _ _ _ _ _ => (pe_op op_addU (pv 8) (pv 7)))))) (pa_cons (pe_lst pa_nil) pa_nil))))))
    (pss_cons (ps_set (i := 2) sc__law_order.nd rfl (Or.inl rfl) (pe_op op_addU (pv 2) (pe_lc (own := [("one", 8)]) rfl sc__law_order.nd (pi_list (pv 5)) (blkOk_by (own := [("one", 8)]) (N := N__law_order) (sc := defScope s__law_order) (by decide +kernel)) (fun _ _ _ _ _ => (pg_name (i := 8) sc__law_order.nd rfl (Or.inl rfl))) (fun _ _ _ _ _ => (pts_one (PW.pt (pw_and (pt_cmpR (op_ninV hu) (pv 8) (pv 0) rfl) (pw_and1 (pt_cmpR (op_ninV hu) (pv 8) (pe_call0 (ok__law_words Z) (hr.mono (by decide)) rfl Z.m__law_words Z.F__law_words.kp Z.b__law_words .nil pass0) rfl)))))) (fun _ _ _ _ _ => (pv 8)))))
    (pss_one (ps_set (i := 3) sc__law_order.nd rfl (Or.inl rfl) (pe_op op_addU (pv 3) pe_int)))))))
    (pss_one (ps_ret (pe_slice sl_list (pv 2) po_none (po_some (pv 1))))))))
theorem Es_len : ∀ q, q ≤ 3 → (Es q).length ≤ 18278
  | 0, _ => Nat.zero_le _
  | 1, _ => by
    show ([] ++ lev 1).length ≤ _
    rw [List.nil_append, lev_L, List.length_map, levL_len]
    decide
  | 2, _ => by
    show ([] ++ lev 1 ++ lev 2).length ≤ _
    rw [List.nil_append, List.length_append, lev_L, lev_L, List.length_map, List.length_map, levL_len, levL_len]
    decide
  | 3, _ => by rw [Es3, W_len]; exact Nat.le_refl _
theorem lev_let : ∀ n, ∀ w ∈ lev n, w.cps.toList.all isLet = true
  | 0, w, h => by rw [List.mem_singleton.mp h]; rfl
  | n + 1, w, h => by
    obtain ⟨v, hv, hw⟩ := List.mem_flatMap.mp h
    obtain ⟨c, hc, rfl⟩ := List.mem_map.mp hw
    have e : (v ++ (⟨#[c]⟩ : Str)).cps.toList = v.cps.toList ++ [c] := by
      show (v.cps ++ #[c]).toList = _
      simp
    rw [e, List.all_append, lev_let n v hv, List.all_cons, List.all_nil, Bool.and_true, Bool.true_and]
    exact decide_eq_true hc
theorem ok_lev {ts : List Str} {n : Nat} {w : Str} (h1 : 1 ≤ n) (h2 : n ≤ 3) (hw : w ∈ lev n) : okIn ts w = (!ts.contains w && !words.contains w) := by
  have e := lev_len n w hw
  unfold okIn isNameS
  rw [lev_let n w hw, e, decide_eq_true h1, decide_eq_true (show n ≤ 8 by omega), Bool.true_and, Bool.true_and, Bool.and_true, Bool.and_comm]
theorem cut_take {xs : List D} {n : Nat} : cutL xs none (some (n : Int)) = xs.take n := by
  unfold cutL
  rw [HT.sIx_nat]
  show (xs.drop 0).take (min n xs.length - 0) = xs.take n
  rw [List.drop_zero, Nat.sub_zero]
  by_cases h : n ≤ xs.length
  · rw [Nat.min_eq_left h]
  · rw [Nat.min_eq_right (by omega), List.take_length, List.take_of_length_le (by omega)]
theorem rd__law_order {P : Program} {w : World} {K : PySem.W.Frag} [LT K] {mg : Str → Option Value} (Z : Fs P w K mg) {vs : List V} {H : Hp} {Q : VK} {E : XK} (h : sp__law_order K vs H Q E) : t__law_order Z { nx := fun _ H' => Q .non H', rt := Q } (L2.start N__law_order vs) H := by
  refine fnP2 h (by decide) fun S0 d e σ G hp st k => ?_
  obtain ⟨ts, many, hts, htl, hm, hmany, hd⟩ := hp
  cases (show e = .int (many : Int) from hm)
  have hd : d = .lst (ts.map D.str) ∨ ∃ kds : List (Key × D), d = .dic kds ∧ kds.map (·.1) = ts.map Sum.inr := hd
  have sz : 1000000 ≤ sizeLine := by rw [sizeLine_eq]; exact Nat.le_of_ble_eq_true rfl
  have hr : ordS (takenD d) many = ordS ts many := by rw [taken_eq hd]
  refine s_seq (s_par st (EvO.x (ds := []) (eo_lst ea_nil (Nat.zero_le _))) ed_int.x (by decide) (by decide) (by decide) (Nat.le_refl _) fun t1 t2 σ1 S1 e1 e2 st1 => ?_)
  subst e1
  subst e2
  dsimp only
  refine s_seq (s_dat st1 ed_str (by decide) fun σ2 S2 st2 => ?_)
  have eLen : ∀ q, q ≤ 3 → ((Es q).filter (okIn ts)).length ≤ 18278 := fun q hq => Nat.le_trans (List.length_filter_le _ _) (Es_len q hq)
  refine s_seq (s_while (α := Nat) (fun q => q ≤ 3) (fun q => [(2, .own (((Es q).filter (okIn ts)).map D.str)), (3, .dat (.int ((q + 1 : Nat) : Int))), (4, .dat (.str letters)), (0, .dat d), (1, .dat (.int (many : Int)))]) (fun q => 3 - q) (fun q => decide ((((Es q).filter (okIn ts)).length : Int) < (many : Int))) 0 st2 (Nat.zero_le _) ⟨rfl, rfl, rfl, rfl, rfl, True.intro⟩ (fun q σ S iq st3 => ?_) (fun q σ S iq hb st3 D' hrt nx _ _ => ?_) (fun q σ S iq hb st3 => ?_))
  · refine EvT.is (et_test (ed_op (EvD.h (ed_len (eh_var st3 rfl) (rl_L (by rw [List.length_map]; have := eLen q iq; omega)))) (EvD.h (ed_var st3 rfl)) rd_B0)) ?_
    rw [List.length_map]
  · have hlt : ((Es q).filter (okIn ts)).length < many := by have := of_decide_eq_true hb; omega
    have hq : q < 3 := by
      rcases Nat.lt_or_ge q 3 with z | z
      · exact z
      · have e : q = 3 := Nat.le_antisymm iq z
        subst e
        rw [Es3] at hlt
        have := W_many hts
        omega
    refine s_seq (s_dat (d := .lst ((lev 0).map D.str)) st3 (EvO.ed (eo_lst (ea_cons ed_str ea_nil) (by rw [sizeLine_eq]; exact Nat.le_of_ble_eq_true rfl))) (by decide) fun σ4 S4 st4 => ?_)
    refine s_seq (s_for (w := 0) (α := Nat) (i := 6) (fun c a => a = c) (fun a => [(5, .dat (.lst ((lev a).map D.str))), (2, .own (((Es q).filter (okIn ts)).map D.str)), (3, .dat (.int ((q + 1 : Nat) : Int))), (4, .dat (.str letters)), (0, .dat d), (1, .dat (.int (many : Int)))]) 0 st4 (es_rng1 (z := ((q + 1 : Nat) : Int)) (eh_cons (EvD.h (ed_var st4 rfl)) eh_nil) ⟨by omega, by omega⟩) (by decide) rfl ⟨rfl, rfl, rfl, rfl, rfl, rfl, True.intro⟩ (fun B' c a x σ5 S5 hx ia st5 D2 hrt2 nx2 _ _ => ?_) (fun a σ5 S5 ia st5 => ?_))
    · subst ia
      have ha : a < q + 1 := by
        have := (List.getElem?_eq_some_iff.mp hx).1
        rw [rng_len] at this
        omega
      have hl3 : (lev a).length ≤ 676 := by
        rw [lev_L, List.length_map, levL_len]
        exact Nat.le_trans (Nat.pow_le_pow_right (by decide) (show a ≤ 2 by omega)) (by decide)
      have inner : EvD K none (tLc (iList K (tVar 5)) (gName 8) tYes (tLc (iStr (tVar 4)) (gName 7) tYes (tOp (rAddU K) (tVar 8) (tVar 7)) [7]) [8]) σ5 S5 (.lst ((((lev a).map fun w => (exts w).map D.str)).map D.lst)) := by
        refine EvD.is (EvO.ed (eo_lc (i := 8) (vs := [8]) (b := fun _ => true) (f := fun d => .lst ((exts (keyS d)).map D.str)) st5 (es_list (ed_var st5 rfl)) (by decide) (by decide) (fun y hy B'' n' σ' S' st' => ⟨et_yes, fun _ => ?_⟩) (by rw [List.length_map]; omega))) ?_
        · obtain ⟨w, hw, rfl⟩ := List.mem_map.mp hy
          have hwl := lev_len a w hw
          refine EvD.is (EvO.ed (eo_lc (i := 7) (vs := [7]) (b := fun _ => true) (f := fun d => .str (w ++ keyS d)) st' (es_str (ed_var st' rfl)) (by decide) (by decide) (fun z hz B3 n3 σ3 S3 st3' => ⟨et_yes, fun _ => ?_⟩) (Nat.lt_of_lt_of_le (by decide +kernel) sz))) ?_
          · obtain ⟨c, rfl⟩ := signs_mem hz
            exact ed_op (EvD.h (ed_var st3' rfl)) (EvD.h (ed_var st3' rfl)) (rd_addS (by show w.length + 1 ≤ _; omega))
          · exact congrArg D.lst (exts_eq w).symm
        · rw [filter_true, List.map_map, List.map_map]
          rfl
      have fl : ((lev a).map fun w => (exts w).map D.str).flatten = (lev (a + 1)).map D.str := by
        show _ = ((lev a).flatMap exts).map D.str
        rw [List.map_flatMap]
        rfl
      have hl4 : ((lev a).map fun w => (exts w).map D.str).flatten.length ≤ sizeLine := by
        rw [fl, List.length_map, lev_L, List.length_map, levL_len]
        exact Nat.le_trans (Nat.pow_le_pow_right (by decide) (show a + 1 ≤ 3 by omega)) (Nat.le_trans (by decide) sz)
      have hpos : 0 < ((lev a).map fun w => (exts w).map D.str).length := by
        rw [List.length_map, lev_L, List.length_map, levL_len]
        exact Nat.pos_of_ne_zero (Nat.ne_of_gt (Nat.pow_pos (by decide)))
      refine s_dat st5 (EvD.is (EvO.ed (eo_sum inner hpos hl4)) (by rw [fl])) (by decide) fun σ6 S6 st6 => ?_
      exact nx2 (a + 1) _ _ _ rfl (st6.more (by omega)) ⟨rfl, rfl, rfl, rfl, rfl, rfl, True.intro⟩
    · rw [rng_len] at ia
      have ia2 : a = q + 1 := by rw [ia]; omega
      subst ia2
      have lcw : EvO K none (tLc (iList K (tVar 5)) (gName 8) (tAnd (tTest (tOp (rNinV K) (tVar 8) (tVar 0))) (tTest (tOp (rNinV K) (tVar 8) (tCall (sp__law_words K) [] E0 tNil)))) (tVar 8) [8]) σ5 S5 (((lev (q + 1)).filter (okIn ts)).map D.str) := by
        have e : ((lev (q + 1)).filter (okIn ts)).map D.str = (((lev (q + 1)).map D.str).filter fun d => okIn ts (keyS d)).map fun d => d := by
          rw [List.map_id', List.filter_map]
          rfl
        rw [e]
        refine eo_lc (i := 8) (vs := [8]) (b := fun d => okIn ts (keyS d)) (f := fun d => d) st5 (es_list (ed_var st5 rfl)) (by decide) (by decide) (fun y hy B'' n' σ' S' st' => ⟨?_, fun _ => ed_var st' rfl⟩) ?_
        · obtain ⟨w, hw, rfl⟩ := List.mem_map.mp hy
          have cw : EvD K none (tCall (sp__law_words K) [] E0 tNil) σ' S' (.lst (words.map D.str)) := ed_call (ds := []) ea_nil rfl True.intro
          refine EvT.is (et_and (et_test (ed_op (EvD.h (ed_var st' rfl)) (EvD.h (ed_var st' rfl)) (nin_taken hd))) fun _ => et_test (ed_op (EvD.h (ed_var st' rfl)) cw.h (rd_ninL2 rfl (flat_strs words)))) ?_
          show (!ts.contains w && !inD (.str w) (words.map D.str)) = okIn ts w
          rw [inD_strs, ok_lev (by omega) (by omega) hw]
        · rw [List.length_map, lev_L, List.length_map, levL_len]
          exact Nat.lt_of_le_of_lt (Nat.pow_le_pow_right (by decide) (show q + 1 ≤ 3 by omega)) (Nat.lt_of_lt_of_le (by decide) sz)
      have eF : ((Es q).filter (okIn ts)).map D.str ++ ((lev (q + 1)).filter (okIn ts)).map D.str = ((Es (q + 1)).filter (okIn ts)).map D.str := by
        rw [← List.map_append, ← List.filter_append]
        rfl
      refine s_seq (s_own st5 (eo_catU (eq_var st5 rfl) lcw.q ?_) (by decide) fun σ6 S6 st6 => ?_)
      · rw [← List.length_append, eF, List.length_map]
        have := eLen (q + 1) hq
        omega
      · rw [eF] at st6
        refine s_dat st6 (ed_op (EvD.h (ed_var st6 rfl)) (EvD.h ed_int) rd_add) (by decide) fun σ7 S7 st7 => ?_
        exact nx (q + 1) _ _ _ hq (by omega) (st7.more (by omega)) ⟨rfl, rfl, rfl, rfl, rfl, True.intro⟩
  · have hge : many ≤ ((Es q).filter (okIn ts)).length := by
      have h2 := of_decide_eq_false hb
      omega
    refine s_ret st3 (EvD.is (EvO.ed (eo_sl (eq_var st3 rfl) eb_no (eb_int (ed_var st3 rfl)))) ?_) k
    show D.lst _ = D.lst ((ordS (takenD d) many).map D.str)
    rw [hr, ← Es_end iq hge, cut_take, List.map_take]
theorem ok__law_order {P : Program} {w : World} {K : PySem.W.Frag} [LT K] {mg : Str → Option Value} {base : Heap} (Z : Fs P w K mg) : FnOk P w K mg base CX0 2 Z.a__law_order Z.d__law_order ["taken", "many"] (sp__law_order K) :=
  Z.F__law_order.ok sc__law_order (fun _ _ _ _ h => by first | exact spP_len h | exact spN_len h | exact spPen_len h) (fun cdv A outer s H vs Q E hr h => ⟨t__law_order Z, ps__law_order Z hr, rd__law_order Z h⟩)
/-! ## _law_kinds_right -/
abbrev N__law_kinds_right : List Str := ["pen", "value", "whole", "low", "high", "due"]
theorem sc__law_kinds_right : FnScope N__law_kinds_right ["pen"] (defScope s__law_kinds_right) := ⟨rfl, rfl, rfl, by decide +kernel, rfl, by decide +kernel, by decide +kernel⟩
abbrev sp__law_kinds_right (K : PySem.W.Frag) [LT K] : Sp := spN K 0 4 (fun _ => True) (fun _ d => d = .bl true)
def t__law_kinds_right {P : Program} {w : World} {K : PySem.W.Frag} [LT K] {mg : Str → Option Value} (Z : Fs P w K mg) : TS :=
  (tSeq (tAsg (tCall (sp__law_pick K) [] E0 (tCons (tVar 0) (tCons (tLst (tCons (tC .non) (tCons (tC (.bl true)) (tCons (tC (.bl false)) (tCons (tC (.int 0)) (tCons (tC (.int 1)) (tCons (tUn (rU fun i => .int (-i)) (tC (.int 1))) (tCons (tC (.int 5)) (tCons (tOp (rI CPowI fun i j => .int (i ^ j.toNat)) (tC (.int 10)) (tC (.int 30))) (tCons (tUn (rU fun i => .int (-i)) (tOp (rI CPowI fun i j => .int (i ^ j.toNat)) (tC (.int 10)) (tC (.int 30)))) (tCons (tC (.str "")) (tCons (tC (.str "1")) (tCons (tTup tNil) (tCons (tLst tNil) (tCons tDNewK (tCons (tTup (tCons (tC (.int 1)) tNil)) (tCons (tLst (tCons (tC (.str "a")) tNil)) (tCons (tLst (tCons (tLst (tCons (tC (.str "a")) tNil)) tNil)) tNil)))))))))))))))))) tNil))) (gName 1))
    (tSeq (tAsg (tAndV (tCB (rIsi K) (tCons (tVar 1) (tCons (tC (.ty "int")) tNil))) (tNotV (tCB (rIsi K) (tCons (tVar 1) (tCons (tC (.ty "bool")) tNil))))) (gName 2))
    (tSeq (tPar 3 4 (tCons (tOp (rI0 fun i j => .int (i - j)) (tCall (sp__law_draw K) [] E0 (tCons (tVar 0) (tCons (tC (.int 7)) tNil))) (tC (.int 3))) (tCons (tCall (sp__law_pick K) [] E0 (tCons (tVar 0) (tCons (tLst (tCons (tC .non) (tCons (tOp (rI0 fun i j => .int (i - j)) (tCall (sp__law_draw K) [] E0 (tCons (tVar 0) (tCons (tC (.int 9)) tNil))) (tC (.int 3))) (tCons (tOp (rI CPowI fun i j => .int (i ^ j.toNat)) (tC (.int 10)) (tC (.int 30))) tNil)))) tNil))) tNil)))
    (tSeq (tAsg (tLst (tCons (tVar 2) (tCons (tAndV (tVar 2) (tAndV (tOp (rI0 fun i j => .bl (decide (i ≤ j))) (tVar 3) (tVar 1)) (tOrV (tOp rIsN (tVar 4) (tC .non)) (tOp (rI0 fun i j => .bl (decide (i ≤ j))) (tVar 1) (tVar 4))))) (tCons (tCB (rIsiT K) (tCons (tVar 1) (tCons (tTup (tCons (tC (.ty "list")) (tCons (tC (.ty "tuple")) tNil))) tNil))) tNil)))) (gName 5))
    (tRet (tChain (rEqU K) (rEqU K) (tCB (rRepr K) (tCons (tLst (tCons (tCall (sp_is_integer K) [] E0 (tCons (tVar 1) tNil)) (tCons (tCall (sp_is_within K) [] E0 (tCons (tVar 1) (tCons (tVar 3) (tCons (tVar 4) tNil)))) (tCons (tCall (sp_is_row K) [] E0 (tCons (tVar 1) tNil)) tNil)))) tNil)) (tCB (rRepr K) (tCons (tVar 5) tNil)) (tCB (rRepr K) (tCons (tLst (tCons (tCallK (sp_is_integer K) (gv_is_integer_value) E0 tNil (tCons (tVar 1) tNil)) (tCons (tCallK (sp_is_within K) (gv_is_within_most_least_value) E0 tNil (tCons (tVar 4) (tCons (tVar 3) (tCons (tVar 1) tNil)))) (tCons (tCallK (sp_is_row K) (gv_is_row_value) E0 tNil (tCons (tVar 1) tNil)) tNil)))) tNil))))))))
theorem ps__law_kinds_right {P : Program} {w : World} {K : PySem.W.Frag} [LT K] {mg : Str → Option Value} {base : Heap} (Z : Fs P w K mg) {cdv : Value} {A : Around} {outer : List Env} {s : Shared} {H : Hp} {E : XK} (hG : A.guards = some []) (hr : Room 2 (A.deeper (PyProof.Rows.envOfC "_law_kinds_right" (defScope s__law_kinds_right) s.heap.objs.size Z.a__law_kinds_right cdv))) :
    PSs (cxOf CX0 P w K mg base N__law_kinds_right "_law_kinds_right" (defScope s__law_kinds_right) Z.a__law_kinds_right cdv A outer s H E).nox (defBody s__law_kinds_right) (t__law_kinds_right Z) := by
  have hu := hu_of hr
  have hu64 := hr.units
  have hu66 := hu66_of hr
  exact (pss_cons (ps_set (i := 1) sc__law_kinds_right.nd rfl (Or.inl rfl) (pe_call (ok__law_pick Z) (hr.mono (by decide)) rfl Z.m__law_pick Z.F__law_pick.kp Z.b__law_pick .nil pass0 (pa_cons (pv 0) (pa_cons (pe_lst (pa_cons pe_non (pa_cons pe_bl (pa_cons pe_bl (pa_cons pe_int (pa_cons pe_int (pa_cons (pe_un un_neg pe_int) (pa_cons pe_int (pa_cons (pe_op op_powI pe_int pe_int) (pa_cons (pe_un un_neg (pe_op op_powI pe_int pe_int)) (pa_cons pe_str (pa_cons pe_str (pa_cons (pe_tup pa_nil) (pa_cons (pe_lst pa_nil) (pa_cons pe_dnewK (pa_cons (pe_tup (pa_cons pe_int pa_nil)) (pa_cons (pe_lst (pa_cons pe_str pa_nil)) (pa_cons (pe_lst (pa_cons (pe_lst (pa_cons pe_str pa_nil)) pa_nil)) pa_nil)))))))))))))))))) pa_nil))))
    (pss_cons (ps_set (i := 2) sc__law_kinds_right.nd rfl (Or.inl rfl) (pe_and (pe_callB call_isi (by rfl) Z.z_isinstance (by decide +kernel) (pa_cons (pv 1) (pa_cons (pe_bltn rfl Z.z_int (by decide +kernel) rfl) pa_nil))) (pe_one (pe_not (pe_callB call_isi (by rfl) Z.z_isinstance (by decide +kernel) (pa_cons (pv 1) (pa_cons (pe_bltn rfl Z.z_bool (by decide +kernel) rfl) pa_nil)))))))
    (pss_cons (ps_par (i := 3) (j := 4) rfl sc__law_kinds_right.nd rfl rfl (by decide) rfl rfl (pa_cons (pe_op op_sub (pe_call (ok__law_draw Z) (hr.mono (by decide)) rfl Z.m__law_draw Z.F__law_draw.kp Z.b__law_draw .nil pass0 (pa_cons (pv 0) (pa_cons pe_int pa_nil))) pe_int) (pa_cons (pe_call (ok__law_pick Z) (hr.mono (by decide)) rfl Z.m__law_pick Z.F__law_pick.kp Z.b__law_pick .nil pass0 (pa_cons (pv 0) (pa_cons (pe_lst (pa_cons pe_non (pa_cons (pe_op op_sub (pe_call (ok__law_draw Z) (hr.mono (by decide)) rfl Z.m__law_draw Z.F__law_draw.kp Z.b__law_draw .nil pass0 (pa_cons (pv 0) (pa_cons pe_int pa_nil))) pe_int) (pa_cons (pe_op op_powI pe_int pe_int) pa_nil)))) pa_nil))) pa_nil)) rfl)
    (pss_cons (ps_set (i := 5) sc__law_kinds_right.nd rfl (Or.inl rfl) (pe_lst (pa_cons (pv 2) (pa_cons (pe_and (pv 2) (pe_and (pe_cmpR op_le (pv 3) (pv 1) (nomark _)) (pe_one (pe_or (pe_cmpR op_isN (pv 4) pe_non (nomark _)) (pe_one (pe_cmpR op_le (pv 1) (pv 4) (nomark _))))))) (pa_cons (pe_callB call_isiT (by rfl) Z.z_isinstance (by decide +kernel) (pa_cons (pv 1) (pa_cons (pe_tup (pa_cons (pe_bltn rfl Z.z_list (by decide +kernel) rfl) (pa_cons (pe_bltn rfl Z.z_tuple (by decide +kernel) rfl) pa_nil))) pa_nil))) pa_nil)))))
    (pss_one (ps_ret (pe_chain (op_eqU hu64) (op_eqU hu64) (pe_callB (call_repr hG hu66) (by rfl) Z.z_repr (by decide +kernel) (pa_cons (pe_lst (pa_cons (pe_call (ok_is_integer Z) (hr.mono (by decide)) rfl Z.m_is_integer Z.F_is_integer.kp Z.b_is_integer .nil pass0 (pa_cons (pv 1) pa_nil)) (pa_cons (pe_call (ok_is_within Z) (hr.mono (by decide)) rfl Z.m_is_within Z.F_is_within.kp Z.b_is_within .nil pass0 (pa_cons (pv 1) (pa_cons (pv 3) (pa_cons (pv 4) pa_nil)))) (pa_cons (pe_call (ok_is_row Z) (hr.mono (by decide)) rfl Z.m_is_row Z.F_is_row.kp Z.b_is_row .nil pass0 (pa_cons (pv 1) pa_nil)) pa_nil)))) pa_nil)) (pe_callB (call_repr hG hu66) (by rfl) Z.z_repr (by decide +kernel) (pa_cons (pv 5) pa_nil)) (pe_callB (call_repr hG hu66) (by rfl) Z.z_repr (by decide +kernel) (pa_cons (pe_lst (pa_cons (pe_callK0 (ok_is_integer Z) (hr.mono (by decide)) rfl Z.m_is_integer Z.F_is_integer.kp (Z.k_is_integer_value) pass0 (pk_cons (pv 1) pk_nil)) (pa_cons (pe_callK0 (ok_is_within Z) (hr.mono (by decide)) rfl Z.m_is_within Z.F_is_within.kp (Z.k_is_within_most_least_value) pass0 (pk_cons (pv 4) (pk_cons (pv 3) (pk_cons (pv 1) pk_nil)))) (pa_cons (pe_callK0 (ok_is_row Z) (hr.mono (by decide)) rfl Z.m_is_row Z.F_is_row.kp (Z.k_is_row_value) pass0 (pk_cons (pv 1) pk_nil)) pa_nil)))) pa_nil)))))))))
theorem rd__law_kinds_right {P : Program} {w : World} {K : PySem.W.Frag} [LT K] {mg : Str → Option Value} (Z : Fs P w K mg) {vs : List V} {H : Hp} {Q : VK} {E : XK} (h : sp__law_kinds_right K vs H Q E) : t__law_kinds_right Z { nx := fun _ H' => Q .non H', rt := Q } (L2.start N__law_kinds_right vs) H := by
  refine fnN h (by decide) fun S0 a ds σ G hn hp st k => ?_
  cases ds with
  | cons _ _ => cases hn
  | nil =>
  have hz : ∀ n, Nat.ble n 1000 = true → n ≤ sizeLine := fun n e => Nat.le_trans (Nat.le_of_ble_eq_true e) (by rw [sizeLine_eq]; exact Nat.le_of_ble_eq_true rfl)
  have hpow : ∀ (σ : St) (S : Wd), EvD K (some a) (tOp (rI CPowI fun i j => .int (i ^ j.toNat)) (tC (.int 10)) (tC (.int 30))) σ S (.int (10 ^ 30)) := fun σ S => ed_pow (k := 0) ed_int ed_int (pow_ok (k := 4) (by decide) (by decide) (by decide) (by decide))
  have lsa : ∀ (σ : St) (S : Wd), EvD K (some a) (tLst (tCons (tC (.str "a")) tNil)) σ S (.lst [.str "a"]) := fun σ S => EvO.ed (eo_lst (ea_cons ed_str ea_nil) (hz _ rfl))
  refine s_seq (s_N st (en_call (n := 1) (N := 1) (ds := [.lst [.non, .bl true, .bl false, .int 0, .int 1, .int (-1), .int 5, .int (10 ^ 30), .int (-(10 ^ 30)), .str "", .str "1", .tup [], .lst [], .dic [], .tup [.int 1], .lst [.str "a"], .lst [.lst [.str "a"]]]]) (ev_var st rfl)
    (ea_cons (EvO.ed (eo_lst (ea_cons ed_non (ea_cons ed_bl (ea_cons ed_bl (ea_cons ed_int (ea_cons ed_int (ea_cons (ed_neg ed_int) (ea_cons ed_int (ea_cons (hpow _ _) (ea_cons (ed_neg (hpow _ _)) (ea_cons ed_str (ea_cons ed_str (ea_cons (ed_tup ea_nil (hz _ rfl)) (ea_cons (EvO.ed (eo_lst ea_nil (hz _ rfl))) (ea_cons (EvOD.ed eod_new) (ea_cons (ed_tup (ea_cons ed_int ea_nil) (hz _ rfl)) (ea_cons (lsa _ _) (ea_cons (EvO.ed (eo_lst (ea_cons (lsa _ _) ea_nil) (hz _ rfl))) ea_nil))))))))))))))))) (hz _ rfl))) ea_nil) rfl ⟨_, rfl, (by intro z; cases z), Nat.le_of_ble_eq_true rfl⟩) (by decide) (by decide) fun d σ1 S1 hd st1 => ?_)
  have hk : kn d := by
    obtain ⟨es, he, hd⟩ := hd
    cases he
    have q : (tyD d).isSome = true := (List.all_eq_true (p := fun d => (tyD d).isSome)).mp (by decide +kernel) d hd
    unfold kn
    intro z
    rw [z] at q
    cases q
  obtain ⟨b, e1, e2, e3⟩ := kn_int hk
  refine s_seq (s_dat (d := .bl (isIntD d)) st1 (EvD.is (ed_and (ed_isi (EvD.h (ed_var st1 rfl)) e1) fun _ => ed_not (ed_isi (EvD.h (ed_var st1 rfl)) e2)) ?_) (by decide) fun σ2 S2 st2 => ?_)
  · show D.bl _ = D.bl (isIntD d)
    cases b <;> cases q : isIntD d <;> simp_all
  have lowE : EvN K (some a) (tOp (rI0 fun i j => .int (i - j)) (tCall (sp__law_draw K) [] E0 (tCons (tVar 0) (tCons (tC (.int 7)) tNil))) (tC (.int 3))) σ2 S2 1 (fun d => ∃ z : Int, d = .int z) :=
    en_op1 (en_call (n := 1) (N := 1) (ds := [.int 7]) (ev_var st2 rfl) (ea_cons ed_int ea_nil) rfl ⟨7, rfl, by decide, by decide⟩) ed_int (fun d hd => by
      obtain ⟨r, m, rfl, _⟩ := hd
      exact ⟨_, ⟨_, rfl⟩, rd_I0 (f := fun i j => i - j)⟩)
  have hiE : EvN K (some a) (tCall (sp__law_pick K) [] E0 (tCons (tVar 0) (tCons (tLst (tCons (tC .non) (tCons (tOp (rI0 fun i j => .int (i - j)) (tCall (sp__law_draw K) [] E0 (tCons (tVar 0) (tCons (tC (.int 9)) tNil))) (tC (.int 3))) (tCons (tOp (rI CPowI fun i j => .int (i ^ j.toNat)) (tC (.int 10)) (tC (.int 30))) tNil)))) tNil))) σ2 S2 2 (fun d => d = .non ∨ ∃ z : Int, d = .int z) := by
    have inn : EvN K (some a) (tOp (rI0 fun i j => .int (i - j)) (tCall (sp__law_draw K) [] E0 (tCons (tVar 0) (tCons (tC (.int 9)) tNil))) (tC (.int 3))) σ2 S2 1 (fun d => ∃ z : Int, d = .int z) :=
      en_op1 (en_call (n := 1) (N := 1) (ds := [.int 9]) (ev_var st2 rfl) (ea_cons ed_int ea_nil) rfl ⟨9, rfl, by decide, by decide⟩) ed_int (fun d hd => by
        obtain ⟨r, m, rfl, _⟩ := hd
        exact ⟨_, ⟨_, rfl⟩, rd_I0 (f := fun i j => i - j)⟩)
    have args := ean_cons (en_lst (ean_cons (EvD.toN (ed_non (K := K) (p := some a) (σ := σ2) (S := S2))) (ean_cons inn (ean_cons (EvD.toN (hpow σ2 S2)) ean_nil))) (fun ds hds => by
      obtain ⟨_, _, rfl, _, _, _, rfl, _, _, _, rfl, _, rfl⟩ := hds
      exact hz _ rfl)) ean_nil
    refine EvN.le (en_callA (nn := 1) (N := 1) (ev_var st2 rfl) args (fun ds hds => ?_)) (Nat.le_of_ble_eq_true rfl) (fun e he => ?_)
    · obtain ⟨_, _, rfl, ⟨_, rfl, _, _, rfl, rfl, _, _, rfl, ⟨z, rfl⟩, _, _, rfl, rfl, rfl⟩, rfl⟩ := hds
      exact ⟨rfl, _, rfl, (by intro z; cases z), Nat.le_of_ble_eq_true rfl⟩
    · obtain ⟨ds, ⟨_, _, rfl, ⟨_, rfl, _, _, rfl, rfl, _, _, rfl, ⟨z, rfl⟩, _, _, rfl, rfl, rfl⟩, rfl⟩, es, he, hd⟩ := he
      cases he
      rcases List.mem_cons.mp hd with rfl | hd
      · exact .inl rfl
      · rcases List.mem_cons.mp hd with rfl | hd
        · exact .inr ⟨_, rfl⟩
        · rcases List.mem_cons.mp hd with rfl | hd
          · exact .inr ⟨_, rfl⟩
          · cases hd
  refine s_seq (s_par st2 lowE.x hiE.x (by decide) (by decide) (by decide) (by decide) fun t1 t2 σ3 S3 p1 p2 st3 => ?_)
  obtain ⟨_, rfl, i, rfl⟩ := p1
  obtain ⟨hi, rfl, hhi⟩ := p2
  dsimp only
  have within : EvD K (some a) (tAndV (tVar 2) (tAndV (tOp (rI0 fun i j => .bl (decide (i ≤ j))) (tVar 3) (tVar 1)) (tOrV (tOp rIsN (tVar 4) (tC .non)) (tOp (rI0 fun i j => .bl (decide (i ≤ j))) (tVar 1) (tVar 4))))) σ3 S3 (.bl (isWithin d (.int i) hi)) := by
    by_cases hv : isIntD d = true
    · obtain ⟨j, rfl⟩ : ∃ j, d = .int j := by cases d <;> first | exact ⟨_, rfl⟩ | cases hv
      rcases hhi with rfl | ⟨u, rfl⟩
      · refine EvD.is (ed_and (ed_var st3 rfl) fun _ => ed_and (ed_op (EvD.h (ed_var st3 rfl)) (EvD.h (ed_var st3 rfl)) rd_B0) fun _ => ed_orT (ed_op (EvD.h (ed_var st3 rfl)) (EvD.h ed_non) (rd_isN rfl))) ?_
        show D.bl (true && (decide (i ≤ j) && true)) = D.bl (decide (i ≤ j))
        rw [Bool.and_true, Bool.true_and]
      · refine EvD.is (ed_and (ed_var st3 rfl) fun _ => ed_and (ed_op (EvD.h (ed_var st3 rfl)) (EvD.h (ed_var st3 rfl)) rd_B0) fun _ => ed_or (a := false) (ed_op (EvD.h (ed_var st3 rfl)) (EvD.h ed_non) (rd_isN rfl)) fun _ => ed_op (EvD.h (ed_var st3 rfl)) (EvD.h (ed_var st3 rfl)) rd_B0) ?_
        rfl
    · have hf : isIntD d = false := by simpa using hv
      refine EvD.is (ed_andF (EvD.is (ed_var st3 rfl) (by rw [hf]))) ?_
      cases d <;> first | rfl | exact absurd rfl hv
  have due : EvD K (some a) (tLst (tCons (tVar 2) (tCons (tAndV (tVar 2) (tAndV (tOp (rI0 fun i j => .bl (decide (i ≤ j))) (tVar 3) (tVar 1)) (tOrV (tOp rIsN (tVar 4) (tC .non)) (tOp (rI0 fun i j => .bl (decide (i ≤ j))) (tVar 1) (tVar 4))))) (tCons (tCB (rIsiT K) (tCons (tVar 1) (tCons (tTup (tCons (tC (.ty "list")) (tCons (tC (.ty "tuple")) tNil))) tNil))) tNil)))) σ3 S3 (.lst [.bl (isIntD d), .bl (isWithin d (.int i) hi), .bl (isRowD d)]) :=
    EvO.ed (eo_lst (ea_cons (ed_var st3 rfl) (ea_cons within (ea_cons (ed_isi2 (EvD.h (ed_var st3 rfl)) (kn_row hk)) ea_nil))) (hz _ rfl))
  refine s_seq (s_dat st3 due (by decide) fun σ4 S4 st4 => ?_)
  have hw : ∀ x : D, (x = .non ∨ ∃ z : Int, x = .int z) → kn d ∧ (∃ q, D.int i = .int q) ∧ (x = .non ∨ ∃ q, x = .int q) := fun x hx => ⟨hk, ⟨i, rfl⟩, hx⟩
  have v1 : EvD K (some a) (tVar 1) σ4 S4 d := ed_var st4 rfl
  have v3 : EvD K (some a) (tVar 3) σ4 S4 (.int i) := ed_var st4 rfl
  have v4 : EvD K (some a) (tVar 4) σ4 S4 hi := ed_var st4 rfl
  refine s_ret st4 (EvD.is (ed_chain (EvD.h (ed_cb (eh_cons (EvO.h (eo_lst (ea_cons (ed_call (ds := [d]) (ea_cons v1 ea_nil) rfl hk) (ea_cons (ed_call (ds := [d, .int i, hi]) (ea_cons v1 (ea_cons v3 (ea_cons v4 ea_nil))) rfl (hw _ hhi)) (ea_cons (ed_call (ds := [d]) (ea_cons v1 ea_nil) rfl hk) ea_nil))) (hz _ rfl))) eh_nil) (rep3 _ _ _)))
    (EvD.h (ed_cb (eh_cons (EvD.h (ed_var st4 rfl)) eh_nil) (rep3 _ _ _))) rd_eqUs
    (fun _ => EvD.h (ed_cb (eh_cons (EvO.h (eo_lst (ea_cons (ed_callK (gD := gv_is_integer_value []) (ds := [d]) (ea_cons v1 ea_nil) (fun F vs r => by
        cases r with
        | cons r1 r => cases r; exact .cons r1 .nil) rfl hk) (ea_cons (ed_callK (gD := gv_is_within_most_least_value []) (ds := [hi, .int i, d]) (ea_cons v4 (ea_cons v3 (ea_cons v1 ea_nil))) (fun F vs r => by
        cases r with
        | cons r1 r => cases r with
          | cons r2 r => cases r with
            | cons r3 r => cases r; exact .cons r3 (.cons r2 (.cons r1 .nil))) rfl (hw _ hhi)) (ea_cons (ed_callK (gD := gv_is_row_value []) (ds := [d]) (ea_cons v1 ea_nil) (fun F vs r => by
        cases r with
        | cons r1 r => cases r; exact .cons r1 .nil) rfl hk) ea_nil))) (hz _ rfl))) eh_nil) (rep3 _ _ _))) rd_eqUs) ?_) (fun v S' g ht r => k v (.bl true) S' rfl g (Nat.le_trans ht (by omega)) r)
  exact congrArg D.bl (by rw [Bool.and_eq_true]; exact ⟨decide_eq_true rfl, decide_eq_true rfl⟩)
theorem ok__law_kinds_right {P : Program} {w : World} {K : PySem.W.Frag} [LT K] {mg : Str → Option Value} {base : Heap} (Z : Fs P w K mg) : GnOk P w K mg base CX0 3 Z.a__law_kinds_right Z.d__law_kinds_right ["pen"] (sp__law_kinds_right K) :=
  gn_ok Z.F__law_kinds_right sc__law_kinds_right (fun _ _ _ _ h => by first | exact spP_len h | exact spN_len h | exact spPen_len h) (fun cdv A outer s H vs Q E hG hr h => ⟨t__law_kinds_right Z, ps__law_kinds_right Z hG hr, rd__law_kinds_right Z h⟩)
/-! ## law -/
abbrev N_law : List Str := ["script", "pen", "turn", "text", "some", "lap", "due", "one", "odd", "taken", "many"]
theorem sc_law : FnScope N_law ["script"] (defScope s_law) := ⟨rfl, rfl, rfl, by decide +kernel, rfl, by decide +kernel, by decide +kernel⟩
abbrev sp_law (K : PySem.W.Frag) [LT K] : Sp := fun vs H Q _ => ∃ (a : Addr) (ns : List Int) (F : Hp), vs = [.ref a] ∧ SqL K H a (ns.map V.int) ∧ ns.length ≤ 63 ∧ Ok K none ⟨F, H, 0⟩ ∧ ∀ H', Q (.bl true) H'
theorem ln_law {K : PySem.W.Frag} [LT K] {vs : List V} {H : Hp} {Q : VK} {E : XK} (h : sp_law K vs H Q E) : vs.length = 1 := by
  obtain ⟨a, ns, F, rfl, _⟩ := h
  rfl
def t_law {P : Program} {w : World} {K : PySem.W.Frag} [LT K] {mg : Str → Option Value} (Z : Fs P w K mg) : TS :=
  (tSeq (tAsg (tCall (sp__law_pen K) [] E0 (tCons (tVar 0) tNil)) (gName 1))
    (tSeq (tFor (iRng1 (tCons (tC (.int 12)) tNil)) (gName 2)
    (tSeq (tIfS (tNot (tB (tCall (sp__law_kinds_right K) [] E0 (tCons (tVar 1) tNil))))
    (tRet (tC (.bl false)))
    tNext)
    (tSeq (tAsg (tCall (sp__law_pick K) [] E0 (tCons (tVar 1) (tCons (tLst (tCons (tCall (sp__law_text_drawn K) [] E0 (tCons (tVar 1) tNil)) (tCons (tCall (sp__law_text_drawn K) [] E0 (tCons (tVar 1) tNil)) (tCons (tCall (sp__law_pick K) [] E0 (tCons (tVar 1) (tCons (tCall (sp__law_words K) [] E0 tNil) tNil))) (tCons (tOp (rAddU K) (tCall (sp__law_pick K) [] E0 (tCons (tVar 1) (tCons (tCall (sp__law_words K) [] E0 tNil) tNil))) (tC (.str "s"))) tNil))))) tNil))) (gName 3))
    (tSeq (tIfS (tTest (tOp (rNeU K) (tCB (rRepr K) (tCons (tLst (tCons (tCall (sp_is_name K) [] E0 (tCons (tVar 3) tNil)) (tCons (tCallK (sp_is_name K) (gv_is_name_value) E0 tNil (tCons (tVar 3) tNil)) (tCons (tCall (sp_is_statement K) [] E0 (tCons (tVar 3) tNil)) tNil)))) tNil)) (tCB (rRepr K) (tCons (tOp (rAddU K) (tOp rMulU (tLst (tCons (tCall (sp__law_is_name K) [] E0 (tCons (tVar 3) tNil)) tNil)) (tC (.int 2))) (tLst (tCons (tOrV (tCall (sp__law_is_name K) [] E0 (tCons (tVar 3) tNil)) (tOp (rInV K) (tVar 3) (tTup (tCons (tC (.str "nothing")) (tCons (tC (.str "any")) (tCons (tC (.str "no")) tNil)))))) tNil))) tNil))))
    (tRet (tC (.bl false)))
    tNext)
    (tSeq (tAsg (tLc (iRng1 (tCons (tCall (sp__law_draw K) [] E0 (tCons (tVar 1) (tCons (tC (.int 5)) tNil))) tNil)) (gName 5) tYes (tCall (sp__law_pick K) [] E0 (tCons (tVar 1) (tCons (tLst (tCons (tC (.str "a")) (tCons (tC (.str "b")) (tCons (tC (.str "zz")) (tCons (tC (.str "abcdefgh")) (tCons (tVar 3) (tCons (tC (.str "any")) tNil))))))) tNil))) [5]) (gName 4))
    (tSeq (tAsg (tAndV (tOp (rEqU K) (tLc (iList K (tVar 4)) (gName 7) (tNot (tB (tCall (sp__law_is_name K) [] E0 (tCons (tVar 7) tNil)))) (tVar 7) [7]) (tLst tNil)) (tOp (rEqU K) (tLenSetT P w K (tVar 4)) (tCB (rLenA K) (tCons (tVar 4) tNil)))) (gName 6))
    (tIfS (tTest (tOp (rNeU K) (tCB (rRepr K) (tCons (tLst (tCons (tCall (sp_are_names K) [] E0 (tCons (tVar 4) tNil)) (tCons (tCall (sp_are_names K) [] E0 (tCons (tCB (rTuple K) (tCons (tVar 4) tNil)) tNil)) (tCons (tCallK (sp_are_names K) (gv_are_names_value) E0 tNil (tCons (tVar 4) tNil)) tNil)))) tNil)) (tCB (rRepr K) (tCons (tOp rMulU (tLst (tCons (tVar 6) tNil)) (tC (.int 3))) tNil))))
    (tRet (tC (.bl false)))
    tNext)))))))
    (tSeq (tAsg (tCall (sp__law_pick K) [] E0 (tCons (tVar 1) (tCons (tLst (tCons (tC .non) (tCons (tC (.int 5)) (tCons (tC (.bl true)) (tCons (tC (.str "a")) (tCons (tDisp [((tC (.str "a")), (tC (.int 1)))]) (tCons (tLst (tCons (tC (.int 1)) tNil)) (tCons (tLst (tCons (tC .non) tNil)) (tCons (tLst (tCons (tLst (tCons (tC (.str "a")) tNil)) tNil)) (tCons (tLst (tCons (tC (.bl true)) tNil)) tNil)))))))))) tNil))) (gName 8))
    (tSeq (tIfS (tOr (tTest (tOp rNotB (tCall (sp_are_names K) [] E0 (tCons (tVar 8) tNil)) (tC (.bl false)))) (tOr (tTest (tOp (rNeU K) (tLc (iTup K (tTup (tCons (tC .non) (tCons (tC (.int 5)) (tCons (tC (.bl true)) (tCons (tLst (tCons (tC (.str "a")) tNil)) (tCons (tTup (tCons (tC (.str "a")) tNil)) (tCons tDNewK tNil)))))))) (gName 7) (tTest (tOp rNotB (tCall (sp_is_name K) [] E0 (tCons (tVar 7) tNil)) (tC (.bl false)))) (tVar 7) [7]) (tLst tNil))) (tTest (tOp rNotB (tCall (sp_are_names K) [] E0 (tCons (tTup tNil) tNil)) (tC (.bl true))))))
    (tRet (tC (.bl false)))
    tNext)
    (tSeq (tPar 9 10 (tCons (tLc (iRng1 (tCons (tCall (sp__law_draw K) [] E0 (tCons (tVar 1) (tCons (tC (.int 12)) tNil))) tNil)) (gName 5) tYes (tCall (sp__law_pick K) [] E0 (tCons (tVar 1) (tCons (tLst (tCons (tC (.str "a")) (tCons (tC (.str "b")) (tCons (tC (.str "c")) (tCons (tC (.str "z")) (tCons (tC (.str "aa")) (tCons (tC (.str "ab")) (tCons (tC (.str "zz")) (tCons (tC (.str "no")) (tCons (tC (.str "or")) (tCons (tC (.str "x")) tNil))))))))))) tNil))) [5]) (tCons (tCall (sp__law_pick K) [] E0 (tCons (tVar 1) (tCons (tLst (tCons (tC (.int 0)) (tCons (tC (.int 1)) (tCons (tC (.int 5)) (tCons (tC (.int 26)) (tCons (tC (.int 30)) (tCons (tC (.int 700)) (tCons (tC (.int 730)) tNil)))))))) tNil))) tNil)))
    (tSeq (tAsg (tCall (sp__law_order K) [] E0 (tCons (tVar 9) (tCons (tVar 10) tNil))) (gName 6))
    (tRet (tAndV (tOp (rEqU K) (tCall (sp_names_in_order K) [] E0 (tCons (tVar 9) (tCons (tVar 10) tNil))) (tVar 6)) (tOp (rEqU K) (tCallK (sp_names_in_order K) (gv_names_in_order_many_taken) E0 tNil (tCons (tVar 10) (tCons (tCB (rDictP K) (tCons (tLc (iList K (tVar 9)) (gName 7) tYes (tTup (tCons (tVar 7) (tCons (tC (.bl true)) tNil))) [7]) tNil)) tNil))) (tVar 6))))))))))
theorem ps_law {P : Program} {w : World} {K : PySem.W.Frag} [LT K] {mg : Str → Option Value} {base : Heap} (Z : Fs P w K mg) {cdv : Value} {A : Around} {outer : List Env} {s : Shared} {H : Hp} {E : XK} (hG : A.guards = some []) (hr : Room 4 (A.deeper (PyProof.Rows.envOfC "law" (defScope s_law) s.heap.objs.size Z.a_law cdv))) :
    PSs (cxOf CX0 P w K mg base N_law "law" (defScope s_law) Z.a_law cdv A outer s H E).nox (defBody s_law) (t_law Z) := by
  have hu := hu_of hr
  have hu64 := hr.units
  have hu66 := hu66_of hr
  exact (pss_cons (ps_set (i := 1) sc_law.nd rfl (Or.inr rfl) (pe_call (ok__law_pen Z) (hr.mono (by decide)) rfl Z.m__law_pen Z.F__law_pen.kp Z.b__law_pen .nil pass0 (pa_cons (pv 0) pa_nil)))
    (pss_cons (ps_for PassesOwn.never rfl (pi_range1 rfl Z.z_range (pa_cons pe_int pa_nil)) (pg_name (i := 2) sc_law.nd rfl (Or.inl rfl))
    (pss_cons (ps_if (pt_not (pt_val (pe_callG (ok__law_kinds_right Z) hG (hr.mono (by decide)) rfl Z.m__law_kinds_right Z.F__law_kinds_right.kp Z.b__law_kinds_right pass0 (pa_cons (pv 1) pa_nil))))
    (pss_one (ps_ret pe_bl))
    pss_nil)
    (pss_cons (ps_set (i := 3) sc_law.nd rfl (Or.inr rfl) (pe_call (ok__law_pick Z) (hr.mono (by decide)) rfl Z.m__law_pick Z.F__law_pick.kp Z.b__law_pick .nil pass0 (pa_cons (pv 1) (pa_cons (pe_lst (pa_cons (pe_call (ok__law_text_drawn Z) (hr.mono (by decide)) rfl Z.m__law_text_drawn Z.F__law_text_drawn.kp Z.b__law_text_drawn .nil pass0 (pa_cons (pv 1) pa_nil)) (pa_cons (pe_call (ok__law_text_drawn Z) (hr.mono (by decide)) rfl Z.m__law_text_drawn Z.F__law_text_drawn.kp Z.b__law_text_drawn .nil pass0 (pa_cons (pv 1) pa_nil)) (pa_cons (pe_call (ok__law_pick Z) (hr.mono (by decide)) rfl Z.m__law_pick Z.F__law_pick.kp Z.b__law_pick .nil pass0 (pa_cons (pv 1) (pa_cons (pe_call0 (ok__law_words Z) (hr.mono (by decide)) rfl Z.m__law_words Z.F__law_words.kp Z.b__law_words .nil pass0) pa_nil))) (pa_cons (pe_op op_addU (pe_call (ok__law_pick Z) (hr.mono (by decide)) rfl Z.m__law_pick Z.F__law_pick.kp Z.b__law_pick .nil pass0 (pa_cons (pv 1) (pa_cons (pe_call0 (ok__law_words Z) (hr.mono (by decide)) rfl Z.m__law_words Z.F__law_words.kp Z.b__law_words .nil pass0) pa_nil))) pe_str) pa_nil))))) pa_nil))))
    (pss_cons (ps_if (pt_cmpR (op_neU hu64) (pe_callB (call_repr hG hu66) (by rfl) Z.z_repr (by decide +kernel) (pa_cons (pe_lst (pa_cons (pe_call (ok_is_name Z) (hr.mono (by decide)) rfl Z.m_is_name Z.F_is_name.kp Z.b_is_name .nil pass0 (pa_cons (pv 3) pa_nil)) (pa_cons (pe_callK0 (ok_is_name Z) (hr.mono (by decide)) rfl Z.m_is_name Z.F_is_name.kp (Z.k_is_name_value) pass0 (pk_cons (pv 3) pk_nil)) (pa_cons (pe_call (ok_is_statement Z) (hr.mono (by decide)) rfl Z.m_is_statement Z.F_is_statement.kp Z.b_is_statement .nil pass0 (pa_cons (pv 3) pa_nil)) pa_nil)))) pa_nil)) (pe_callB (call_repr hG hu66) (by rfl) Z.z_repr (by decide +kernel) (pa_cons (pe_op op_addU (pe_op op_mulU (pe_lst (pa_cons (pe_call (ok__law_is_name Z) (hr.mono (by decide)) rfl Z.m__law_is_name Z.F__law_is_name.kp Z.b__law_is_name .nil pass0 (pa_cons (pv 3) pa_nil)) pa_nil)) pe_int) (pe_lst (pa_cons (pe_or (pe_call (ok__law_is_name Z) (hr.mono (by decide)) rfl Z.m__law_is_name Z.F__law_is_name.kp Z.b__law_is_name .nil pass0 (pa_cons (pv 3) pa_nil)) (pe_one (pe_cmpR (op_inV hu) (pv 3) (pe_tup (pa_cons pe_str (pa_cons pe_str (pa_cons pe_str pa_nil)))) rfl))) pa_nil))) pa_nil)) (nomark _))
    (pss_one (ps_ret pe_bl))
    pss_nil)
    (pss_cons (ps_setLc (i := 4) (own := [("lap", 5)]) rfl sc_law.nd rfl rfl (sw_true rfl rfl rfl (by decide +kernel)) (pi_range1 rfl Z.z_range (pa_cons (pe_call (ok__law_draw Z) (hr.mono (by decide)) rfl Z.m__law_draw Z.F__law_draw.kp Z.b__law_draw .nil pass0 (pa_cons (pv 1) (pa_cons pe_int pa_nil))) pa_nil)) (blkOk_by (own := [("lap", 5)]) (N := N_law) (sc := defScope s_law) (by decide +kernel)) (fun _ _ _ _ _ => (pg_name (i := 5) sc_law.nd rfl (Or.inl rfl))) (fun _ _ _ _ _ => pts_nil) (fun _ _ _ _ _ => (pe_call (ok__law_pick Z) (hr.mono (by decide)) rfl Z.m__law_pick Z.F__law_pick.kp Z.b__law_pick .nil pass0 (pa_cons (pv 1) (pa_cons (pe_lst (pa_cons pe_str (pa_cons pe_str (pa_cons pe_str (pa_cons pe_str (pa_cons (pv 3) (pa_cons pe_str pa_nil))))))) pa_nil)))))
    (pss_cons (ps_set (i := 6) sc_law.nd rfl (Or.inl rfl) (pe_and (pe_cmpR (op_eqU hu64) (pe_lc (own := [("one", 7)]) rfl sc_law.nd (pi_list (pv 4)) (blkOk_by (own := [("one", 7)]) (N := N_law) (sc := defScope s_law) (by decide +kernel)) (fun _ _ _ _ _ => (pg_name (i := 7) sc_law.nd rfl (Or.inl rfl))) (fun _ _ _ _ _ => (pts_one (pt_not (pt_val (pe_call (ok__law_is_name Z) (hr.mono (by decide)) rfl Z.m__law_is_name Z.F__law_is_name.kp Z.b__law_is_name .nil pass0 (pa_cons (pv 7) pa_nil)))))) (fun _ _ _ _ _ => (pv 7))) (pe_lst pa_nil) (nomark _)) (pe_one (pe_cmpR (op_eqU hu64) (pe_lenSetT rfl rfl Z.z_len rfl Z.z_set (pv 4)) (pe_callB call_lenA (by rfl) Z.z_len (by decide +kernel) (pa_cons (pv 4) pa_nil)) (nomark _)))))
    (pss_one (ps_if (pt_cmpR (op_neU hu64) (pe_callB (call_repr hG hu66) (by rfl) Z.z_repr (by decide +kernel) (pa_cons (pe_lst (pa_cons (pe_call (ok_are_names Z) (hr.mono (by decide)) rfl Z.m_are_names Z.F_are_names.kp Z.b_are_names .nil pass0 (pa_cons (pv 4) pa_nil)) (pa_cons (pe_call (ok_are_names Z) (hr.mono (by decide)) rfl Z.m_are_names Z.F_are_names.kp Z.b_are_names .nil pass0 (pa_cons (pe_callTy call_tuple_of (by rfl) Z.z_tuple (by decide +kernel) (pa_cons (pv 4) pa_nil)) pa_nil)) (pa_cons (pe_callK0 (ok_are_names Z) (hr.mono (by decide)) rfl Z.m_are_names Z.F_are_names.kp (Z.k_are_names_value) pass0 (pk_cons (pv 4) pk_nil)) pa_nil)))) pa_nil)) (pe_callB (call_repr hG hu66) (by rfl) Z.z_repr (by decide +kernel) (pa_cons (pe_op op_mulU (pe_lst (pa_cons (pv 6) pa_nil)) pe_int) pa_nil)) (nomark _))
    (pss_one (ps_ret pe_bl))
    pss_nil))))))))
    (pss_cons (ps_set (i := 8) sc_law.nd rfl (Or.inl rfl) (pe_call (ok__law_pick Z) (hr.mono (by decide)) rfl Z.m__law_pick Z.F__law_pick.kp Z.b__law_pick .nil pass0 (pa_cons (pv 1) (pa_cons (pe_lst (pa_cons pe_non (pa_cons pe_int (pa_cons pe_bl (pa_cons pe_str (pa_cons (pe_disp (pps_cons pe_str pe_int pps_nil) (by rfl) (by rfl) (fun z => by cases z) (by decide)) (pa_cons (pe_lst (pa_cons pe_int pa_nil)) (pa_cons (pe_lst (pa_cons pe_non pa_nil)) (pa_cons (pe_lst (pa_cons (pe_lst (pa_cons pe_str pa_nil)) pa_nil)) (pa_cons (pe_lst (pa_cons pe_bl pa_nil)) pa_nil)))))))))) pa_nil))))
    (pss_cons (ps_if (PW.pt (pw_or (pt_cmpR op_notBl (pe_call (ok_are_names Z) (hr.mono (by decide)) rfl Z.m_are_names Z.F_are_names.kp Z.b_are_names .nil pass0 (pa_cons (pv 8) pa_nil)) pe_bl (nomark _)) (pw_or (pt_cmpR (op_neU hu64) (pe_lc (own := [("one", 7)]) rfl sc_law.nd (pi_tup (pe_tup (pa_cons pe_non (pa_cons pe_int (pa_cons pe_bl (pa_cons (pe_lst (pa_cons pe_str pa_nil)) (pa_cons (pe_tup (pa_cons pe_str pa_nil)) (pa_cons pe_dnewK pa_nil)))))))) (blkOk_by (own := [("one", 7)]) (N := N_law) (sc := defScope s_law) (by decide +kernel)) (fun _ _ _ _ _ => (pg_name (i := 7) sc_law.nd rfl (Or.inl rfl))) (fun _ _ _ _ _ => (pts_one (pt_cmpR op_notBl (pe_call (ok_is_name Z) (hr.mono (by decide)) rfl Z.m_is_name Z.F_is_name.kp Z.b_is_name .nil pass0 (pa_cons (pv 7) pa_nil)) pe_bl (nomark _)))) (fun _ _ _ _ _ => (pv 7))) (pe_lst pa_nil) (nomark _)) (pw_or1 (pt_cmpR op_notBl (pe_call (ok_are_names Z) (hr.mono (by decide)) rfl Z.m_are_names Z.F_are_names.kp Z.b_are_names .nil pass0 (pa_cons (pe_tup pa_nil) pa_nil)) pe_bl (nomark _))))))
    (pss_one (ps_ret pe_bl))
    pss_nil)
    (pss_cons (ps_par (i := 9) (j := 10) rfl sc_law.nd rfl rfl (by decide) rfl rfl (pa_cons (pe_lc (own := [("lap", 5)]) rfl sc_law.nd (pi_range1 rfl Z.z_range (pa_cons (pe_call (ok__law_draw Z) (hr.mono (by decide)) rfl Z.m__law_draw Z.F__law_draw.kp Z.b__law_draw .nil pass0 (pa_cons (pv 1) (pa_cons pe_int pa_nil))) pa_nil)) (blkOk_by (own := [("lap", 5)]) (N := N_law) (sc := defScope s_law) (by decide +kernel)) (fun _ _ _ _ _ => (pg_name (i := 5) sc_law.nd rfl (Or.inl rfl))) (fun _ _ _ _ _ => pts_nil) (fun _ _ _ _ _ => (pe_call (ok__law_pick Z) (hr.mono (by decide)) rfl Z.m__law_pick Z.F__law_pick.kp Z.b__law_pick .nil pass0 (pa_cons (pv 1) (pa_cons (pe_lst (pa_cons pe_str (pa_cons pe_str (pa_cons pe_str (pa_cons pe_str (pa_cons pe_str (pa_cons pe_str (pa_cons pe_str (pa_cons pe_str (pa_cons pe_str (pa_cons pe_str pa_nil))))))))))) pa_nil))))) (pa_cons (pe_call (ok__law_pick Z) (hr.mono (by decide)) rfl Z.m__law_pick Z.F__law_pick.kp Z.b__law_pick .nil pass0 (pa_cons (pv 1) (pa_cons (pe_lst (pa_cons pe_int (pa_cons pe_int (pa_cons pe_int (pa_cons pe_int (pa_cons pe_int (pa_cons pe_int (pa_cons pe_int pa_nil)))))))) pa_nil))) pa_nil)) rfl)
    (pss_cons (ps_set (i := 6) sc_law.nd rfl (Or.inl rfl) (pe_call (ok__law_order Z) (hr.mono (by decide)) rfl Z.m__law_order Z.F__law_order.kp Z.b__law_order .nil pass0 (pa_cons (pv 9) (pa_cons (pv 10) pa_nil))))
    (pss_one (ps_ret (pe_and (pe_cmpR (op_eqU hu64) (pe_call (ok_names_in_order Z) (hr.mono (by decide)) rfl Z.m_names_in_order Z.F_names_in_order.kp Z.b_names_in_order .nil pass0 (pa_cons (pv 9) (pa_cons (pv 10) pa_nil))) (pv 6) (nomark _)) (pe_one (pe_cmpR (op_eqU hu64) (pe_callK0 (ok_names_in_order Z) (hr.mono (by decide)) rfl Z.m_names_in_order Z.F_names_in_order.kp (Z.k_names_in_order_many_taken) pass0 (pk_cons (pv 10) (pk_cons (pe_callTy (call_dictP rfl) (by rfl) Z.z_dict (by decide +kernel) (pa_cons (pe_lc (own := [("one", 7)]) rfl sc_law.nd (pi_list (pv 9)) (blkOk_by (own := [("one", 7)]) (N := N_law) (sc := defScope s_law) (by decide +kernel)) (fun _ _ _ _ _ => (pg_name (i := 7) sc_law.nd rfl (Or.inl rfl))) (fun _ _ _ _ _ => pts_nil) (fun _ _ _ _ _ => (pe_tup (pa_cons (pv 7) (pa_cons pe_bl pa_nil))))) pa_nil)) pk_nil))) (pv 6) (nomark _))))))))))))
def odds : List D := [.non, .int 5, .bl true, .str "a", .dic [(.inr "a", .int 1)], .lst [.int 1], .lst [.non], .lst [.lst [.str "a"]], .lst [.bl true]]
def shortB : D → Bool
  | .str s => decide (s.length ≤ 1000)
  | _ => true
def knsB (e : D) : Bool := (tyD e).isSome && shortB e
theorem knsB_of {e : D} (h : knsB e = true) : kns e := by
  unfold knsB at h
  obtain ⟨h1, h2⟩ := Bool.and_eq_true_iff.mp h
  refine ⟨?_, fun s es => ?_⟩
  · unfold kn
    intro z
    rw [z] at h1
    cases h1
  · subst es
    have := of_decide_eq_true h2
    omega
def oddOk (d : D) : Bool := (tyD d).isSome && (match rowD d with
  | some es => decide (es.length ≤ 1000) && es.all knsB
  | none => true) && !areNamesD d
theorem odds_ok : odds.all oddOk = true := by decide +kernel
theorem oddOk_of {d : D} (h : oddOk d = true) : (kn d ∧ ∀ es, rowD d = some es → es.length ≤ 1000 ∧ ∀ e ∈ es, kns e) ∧ areNamesD d = false := by
  unfold oddOk at h
  obtain ⟨h12, h3⟩ := Bool.and_eq_true_iff.mp h
  obtain ⟨h1, h2⟩ := Bool.and_eq_true_iff.mp h12
  refine ⟨⟨?_, fun es e => ?_⟩, by simpa using h3⟩
  · unfold kn
    intro z
    rw [z] at h1
    cases h1
  · rw [e] at h2
    obtain ⟨h4, h5⟩ := Bool.and_eq_true_iff.mp h2
    exact ⟨of_decide_eq_true h4, fun x hx => knsB_of (List.all_eq_true.mp h5 x hx)⟩
def sixs : List D := [.non, .int 5, .bl true, .lst [.str "a"], .tup [.str "a"], .dic []]
theorem sixs_kns (x : D) (h : x ∈ sixs) : kns x := knsB_of ((List.all_eq_true (p := knsB)).mp (by decide +kernel) x h)
theorem ord_uniq (ts : List Str) (m : Nat) : ordS (uniq ts) m = ordS ts m := by
  have e : okIn (uniq ts) = okIn ts := by
    funext w
    unfold okIn
    have e2 : (uniq ts).contains w = ts.contains w := by
      refine Bool.eq_iff_iff.mpr ?_
      rw [List.contains_iff_mem, List.contains_iff_mem]
      exact mem_uniq
    rw [e2]
  unfold ordS
  rw [e]
theorem strOk_let {w : Str} (h : w.cps.toList.all isLet = true) : PyData.strOk w = true := by
  unfold PyData.strOk
  rw [← Array.all_toList]
  refine List.all_eq_true.mpr fun c hc => ?_
  have h1 : c ∈ lets := of_decide_eq_true (List.all_eq_true.mp h c hc)
  exact (List.all_eq_true (p := fun c => decide (c < 0x110000))).mp (by decide +kernel : lets.all (fun c => decide (c < 0x110000)) = true) c h1
theorem W_strOk {w : Str} (h : w ∈ W) : PyData.strOk w = true := by
  unfold W at h
  rcases List.mem_append.mp h with h | h
  · rcases List.mem_append.mp h with h | h
    · exact strOk_let (lev_let 1 w h)
    · exact strOk_let (lev_let 2 w h)
  · exact strOk_let (lev_let 3 w h)
theorem none_odd (l : List D) : (l.filter fun d => !isNameD d).isEmpty = l.all isNameD := by
  induction l with
  | nil => rfl
  | cons x r ih =>
    rw [List.filter_cons, List.all_cons]
    cases isNameD x with
    | true => simpa using ih
    | false => rfl
theorem rng_draw {K : PySem.W.Frag} [LT K] {a : Addr} {σ : St} {S : Wd} {m : Int} {N : Nat} {tv : TE} (hv : EvV K (some a) tv σ S (.ref a)) (h1 : 1 ≤ m ∧ m ≤ 1000) (h2 : m ≤ (N : Int) + 1) : EvSN K (some a) (iRng1 (tCons (tCall (sp__law_draw K) [] E0 (tCons tv (tCons (tC (.int m)) tNil))) tNil)) σ S 1 (fun ds => ∃ z : Int, ds = rng 0 z.toNat ∧ 0 ≤ z ∧ z ≤ (N : Int)) := by
  have e := es_rng1N (P := fun d => ∃ z : Int, d = .int z ∧ z ≤ (N : Int)) (EvN.le (en_call (n := 1) (N := 1) (ds := [.int m]) hv (ea_cons ed_int ea_nil) rfl ⟨m, rfl, by omega, by omega⟩ : EvN K (some a) (tCall (sp__law_draw K) [] E0 (tCons tv (tCons (tC (.int m)) tNil))) σ S 1 _) (Nat.le_refl 1) (by
    rintro d ⟨r, m', rfl, hm, h1', h2'⟩
    cases hm
    exact ⟨r, rfl, h1', by omega, r, rfl, by omega⟩))
  intro S2 g2 hb R q
  refine e S2 g2 hb R fun J ds S3 g3 t3 hds src => q J ds S3 g3 t3 ?_ src
  obtain ⟨z, e1, e2, z', e3, e4⟩ := hds
  cases e3
  exact ⟨z, e1, e2, e4⟩
theorem rd_law {P : Program} {w : World} {K : PySem.W.Frag} [LT K] {mg : Str → Option Value} (Z : Fs P w K mg) {vs : List V} {H : Hp} {Q : VK} {E : XK} (h : sp_law K vs H Q E) : t_law Z { nx := fun _ H' => Q .non H', rt := Q } (L2.start N_law vs) H := by
  obtain ⟨sc, ns, F, rfl, hs, hl, ok, k⟩ := h
  have hz : ∀ n, Nat.ble n 1000 = true → n ≤ sizeLine := fun n e => Nat.le_trans (Nat.le_of_ble_eq_true e) (by rw [sizeLine_eq]; exact Nat.le_of_ble_eq_true rfl)
  refine ⟨_, rfl, sc, ns, F, rfl, hs, hl, ok, fun a c F' H' g hc ha hF hH => ?_⟩
  have okp : Ok K (some a) ⟨F', H', 0⟩ := ⟨g.ok.sub, fun b e => by
    cases e
    exact ⟨⟨c, 0, 0, ns, ha, hc, hl, Int.le_refl _, Int.le_refl _, Int.le_refl _⟩, hF⟩, g.ok.nt, g.ok.tb⟩
  have st : Sta K (some a) ⟨F', H', 0⟩ F' N_law.length 1000 0 ((L2.start N_law [V.ref sc]).set 1 (some (.ref a))) ⟨F', H', 0⟩ [(1, .val (.ref a))] := by
    refine ⟨okp, Gr.refl okp, fun _ _ q => q, rfl, by show 0 + 1000 ≤ 1000000000; decide, Nat.le_refl _, fun q hq => ?_, fun x hx b hb ne oa => ?_⟩
    · rw [List.mem_singleton.mp hq]
      exact ⟨.ref a, rfl, rfl⟩
    · rw [List.mem_singleton.mp hx] at oa
      cases oa
  show tSeq _ _ _ _ _
  refine s_seq (s_for (w := 36) (α := Unit) (fun _ _ => True) (fun _ => [(1, .val (.ref a))]) () st (es_rng1 (z := 12) (eh_cons (EvD.h ed_int) eh_nil) ⟨by decide, by decide⟩) (by decide) True.intro ⟨rfl, True.intro⟩ (fun B' c _ x σ1 S1 hx _ st1 D' hrt nx _ _ => ?_) (fun _ σ1 S1 _ st1 => ?_))
  · have hc : c < 12 := by
      have := (List.getElem?_eq_some_iff.mp hx).1
      rw [rng_len] at this
      exact this
    have hcw : 0 + c * 36 + 36 ≤ 1000 := by omega
    refine s_seq (s_ifN (k := 4) st1 (EvN.le (en_call (n := 0) (N := 4) (ds := []) (ev_var st1 rfl) ea_nil rfl True.intro) (Nat.le_refl _) fun d h => h) (by omega) fun S2 st2 => ?_)
    refine s_next ?_
    dsimp only
    have td : EvN K (some a) (tCall (sp__law_text_drawn K) [] E0 (tCons (tVar 1) tNil)) σ1 S2 12 (fun d => ∃ s : Str, d = .str s ∧ s.length ≤ 11) := EvN.le (en_call (n := 0) (N := 12) (ds := []) (ev_var st2 rfl) ea_nil rfl True.intro) (Nat.le_refl _) fun d ⟨s, e, h⟩ => ⟨s, e, by omega⟩
    have cw : EvD K (some a) (tCall (sp__law_words K) [] E0 tNil) σ1 S2 (.lst (words.map D.str)) := ed_call (ds := []) ea_nil rfl True.intro
    have pw : EvN K (some a) (tCall (sp__law_pick K) [] E0 (tCons (tVar 1) (tCons (tCall (sp__law_words K) [] E0 tNil) tNil))) σ1 S2 1 (fun d => ∃ s : Str, d = .str s ∧ s.length ≤ 10) := EvN.le (en_call (n := 1) (N := 1) (ds := [.lst (words.map D.str)]) (ev_var st2 rfl) (ea_cons cw ea_nil) rfl ⟨_, rfl, (by intro z; cases z), Nat.le_of_ble_eq_true rfl⟩) (Nat.le_refl _) fun d ⟨es, he, hd⟩ => by
      cases he
      obtain ⟨s, hs, rfl⟩ := List.mem_map.mp hd
      exact ⟨s, rfl, of_decide_eq_true ((List.all_eq_true (p := fun s : Str => decide (s.length ≤ 10))).mp (by decide +kernel) s hs)⟩
    have pws : EvN K (some a) (tOp (rAddU K) (tCall (sp__law_pick K) [] E0 (tCons (tVar 1) (tCons (tCall (sp__law_words K) [] E0 tNil) tNil))) (tC (.str "s"))) σ1 S2 1 (fun d => ∃ s : Str, d = .str s ∧ s.length ≤ 11) := en_op1 pw ed_str fun d ⟨s, e, h⟩ => by
      subst e
      refine ⟨.str (s ++ "s"), ⟨_, rfl, ?_⟩, rd_addS ?_⟩
      · rw [str_len_app]
        show s.length + 1 ≤ 11
        omega
      · show s.length + 1 ≤ sizeLine
        exact Nat.le_trans (by omega) (hz 11 rfl)
    have pick4 := ean_cons (en_lst (ean_cons td (ean_cons td (ean_cons pw (ean_cons pws ean_nil)))) (fun ds hds => by
      obtain ⟨_, _, rfl, _, _, _, rfl, _, _, _, rfl, _, _, _, rfl, _, rfl⟩ := hds
      exact hz _ rfl)) ean_nil
    refine s_seq (s_N (k := 27) (P := fun d => ∃ s : Str, d = .str s ∧ s.length ≤ 11) st2 (EvN.le (en_callA (nn := 1) (N := 1) (ev_var st2 rfl) pick4 (fun ds hds => ?_)) (Nat.le_of_ble_eq_true rfl) (fun e he => ?_)) (by decide) (by omega) fun d σ3 S3 hd st3 => ?_)
    · obtain ⟨_, _, rfl, ⟨_, rfl, _, _, rfl, _, _, _, rfl, _, _, _, rfl, _, _, _, rfl, _, rfl⟩, rfl⟩ := hds
      exact ⟨rfl, _, rfl, (by intro z; cases z), Nat.le_of_ble_eq_true rfl⟩
    · obtain ⟨ds, ⟨_, _, rfl, ⟨_, rfl, d1, _, rfl, h1, d2, _, rfl, h2, d3, _, rfl, h3, d4, _, rfl, h4, rfl⟩, rfl⟩, es, he, hd⟩ := he
      cases he
      rcases List.mem_cons.mp hd with rfl | hd
      · exact h1
      · rcases List.mem_cons.mp hd with rfl | hd
        · exact h2
        · rcases List.mem_cons.mp hd with rfl | hd
          · obtain ⟨s, e, h⟩ := h3
            exact ⟨s, e, by omega⟩
          · rcases List.mem_cons.mp hd with rfl | hd
            · exact h4
            · cases hd
    obtain ⟨s, rfl, hs11⟩ := hd
    have knS : kn (.str s) := by unfold kn; intro z; cases z
    have knsS : kns (.str s) := ⟨knS, fun t e => by cases e; omega⟩
    have stS : ∃ t : Str, D.str s = .str t ∧ t.length ≤ 1000000 := ⟨s, rfl, by omega⟩
    have v3 : EvD K (some a) (tVar 3) σ3 S3 (.str s) := ed_var st3 rfl
    have rep1 : EvD K (some a) (tCB (rRepr K) (tCons (tLst (tCons (tCall (sp_is_name K) [] E0 (tCons (tVar 3) tNil)) (tCons (tCallK (sp_is_name K) (gv_is_name_value) E0 tNil (tCons (tVar 3) tNil)) (tCons (tCall (sp_is_statement K) [] E0 (tCons (tVar 3) tNil)) tNil)))) tNil)) σ3 S3 (.str (D.lst [.bl (isNameS s), .bl (isNameS s), .bl (isStmt s)]).py.shown) :=
      ed_cb (eh_cons (EvO.h (eo_lst (ea_cons (ed_call (ds := [.str s]) (ea_cons v3 ea_nil) rfl knsS) (ea_cons (ed_callK (gD := gv_is_name_value []) (ds := [.str s]) (ea_cons v3 ea_nil) (fun F vs r => by
        cases r with
        | cons r1 r => cases r; exact .cons r1 .nil) rfl knsS) (ea_cons (ed_call (ds := [.str s]) (ea_cons v3 ea_nil) rfl stS) ea_nil))) (hz _ rfl))) eh_nil) (rep3 _ _ _)
    have ln1 : EvD K (some a) (tCall (sp__law_is_name K) [] E0 (tCons (tVar 3) tNil)) σ3 S3 (.bl (isNameS s)) := ed_call (ds := [.str s]) (ea_cons v3 ea_nil) rfl knsS
    have cat1 : EvO K (some a) (tOp (rAddU K) (tOp rMulU (tLst (tCons (tCall (sp__law_is_name K) [] E0 (tCons (tVar 3) tNil)) tNil)) (tC (.int 2))) (tLst (tCons (tOrV (tCall (sp__law_is_name K) [] E0 (tCons (tVar 3) tNil)) (tOp (rInV K) (tVar 3) (tTup (tCons (tC (.str "nothing")) (tCons (tC (.str "any")) (tCons (tC (.str "no")) tNil)))))) tNil))) σ3 S3 [.bl (isNameS s), .bl (isNameS s), .bl (isStmt s)] := by
      have e : ((List.replicate (2 : Int).toNat [D.bl (isNameS s)]).flatten ++ [D.bl (isNameS s || inD (.str s) [.str "nothing", .str "any", .str "no"])]) = [.bl (isNameS s), .bl (isNameS s), .bl (isStmt s)] := by
        have e2 : (isNameS s || inD (.str s) [.str "nothing", .str "any", .str "no"]) = isStmt s := by
          rw [Bool.or_comm]
          unfold isStmt
          exact congrArg (· || isNameS s) (inD_strs s ["nothing", "any", "no"])
        rw [e2]
        rfl
      rw [← e]
      exact eo_catU (EvO.q (eo_repU (EvO.q (eo_lst (ea_cons ln1 ea_nil) (hz _ rfl))) ed_int ⟨by decide, by decide⟩ (hz _ rfl))) (EvO.q (eo_lst (ea_cons (ed_or ln1 fun _ => ed_op v3.h (EvD.h (ed_tup (ea_cons ed_str (ea_cons ed_str (ea_cons ed_str ea_nil))) (hz _ rfl))) (rd_inT2 rfl rfl)) ea_nil) (hz _ rfl))) (hz _ rfl)
    refine s_seq (s_if (b := false) st3 (EvT.is (et_test (ed_op rep1.h (EvD.h (ed_cb (eh_cons cat1.h eh_nil) (rep3 _ _ _))) rd_neUs)) ?_) (fun hb S4 st4 => by cases hb) (fun _ S4 st4 => ?_))
    · rw [decide_eq_true rfl]
      rfl
    refine s_next ?_
    dsimp only
    have six : ∀ (σ : St) (S : Wd), EvD K (some a) (tVar 3) σ S (.str s) → EvV K (some a) (tVar 1) σ S (.ref a) → EvN K (some a) (tCall (sp__law_pick K) [] E0 (tCons (tVar 1) (tCons (tLst (tCons (tC (.str "a")) (tCons (tC (.str "b")) (tCons (tC (.str "zz")) (tCons (tC (.str "abcdefgh")) (tCons (tVar 3) (tCons (tC (.str "any")) tNil))))))) tNil))) σ S 1 (fun d => ∃ t : Str, d = .str t ∧ t.length ≤ 11) := fun σ S hv hp =>
      EvN.le (en_call (n := 1) (N := 1) (ds := [.lst ((["a", "b", "zz", "abcdefgh", s, "any"] : List Str).map D.str)]) hp (ea_cons (EvO.ed (eo_lst (ea_cons ed_str (ea_cons ed_str (ea_cons ed_str (ea_cons ed_str (ea_cons hv (ea_cons ed_str ea_nil)))))) (hz _ rfl))) ea_nil) rfl ⟨_, rfl, (by intro z; cases z), Nat.le_of_ble_eq_true rfl⟩) (Nat.le_refl _) fun d ⟨es, he, hd⟩ => by
        cases he
        obtain ⟨t, ht, rfl⟩ := List.mem_map.mp hd
        refine ⟨t, rfl, ?_⟩
        rcases List.mem_cons.mp ht with rfl | ht
        · exact Nat.le_of_ble_eq_true rfl
        rcases List.mem_cons.mp ht with rfl | ht
        · exact Nat.le_of_ble_eq_true rfl
        rcases List.mem_cons.mp ht with rfl | ht
        · exact Nat.le_of_ble_eq_true rfl
        rcases List.mem_cons.mp ht with rfl | ht
        · exact Nat.le_of_ble_eq_true rfl
        rcases List.mem_cons.mp ht with rfl | ht
        · exact hs11
        rcases List.mem_cons.mp ht with rfl | ht
        · exact Nat.le_of_ble_eq_true rfl
        cases ht
    have lc := en_lcN (i := 5) (vs := [5]) (w := 1) (L := 4) (R := fun _ e => ∃ t : Str, e = .str t ∧ t.length ≤ 11) (te := tCall (sp__law_pick K) [] E0 (tCons (tVar 1) (tCons (tLst (tCons (tC (.str "a")) (tCons (tC (.str "b")) (tCons (tC (.str "zz")) (tCons (tC (.str "abcdefgh")) (tCons (tVar 3) (tCons (tC (.str "any")) tNil))))))) tNil))) st4 (rng_draw (tv := tVar 1) (m := 5) (N := 4) (ev_var st4 rfl) (by decide) (by decide)) (by decide) (by decide) (fun ds hds => by
        obtain ⟨z, rfl, _, h2⟩ := hds
        rw [rng_len]
        omega) (Nat.lt_of_lt_of_le (by decide) (hz 5 rfl)) (fun ds hds d hd B' n' σ' S' st' => six σ' S' (ed_var st' rfl) (ev_var st' rfl))
    refine s_seq (s_N (k := 5) (P := fun d => ∃ ys : List Str, d = .lst (ys.map D.str) ∧ ys.length ≤ 4 ∧ ∀ y ∈ ys, y.length ≤ 11) st4 (EvN.le lc.ed (Nat.le_refl _) fun d hd => ?_) (by decide) (by omega) fun d σ5 S5 hd st5 => ?_)
    · obtain ⟨es, rfl, ds, ⟨z, rfl, _, h2⟩, hl2, hall⟩ := hd
      obtain ⟨ys, rfl, hys⟩ := strs_of (P := fun s => s.length ≤ 11) fun e he => (lc_all hl2 hall e he).choose_spec.2
      rw [List.length_map, rng_len] at hl2
      exact ⟨ys, rfl, by omega, hys⟩
    obtain ⟨ys, rfl, hys4, hys⟩ := hd
    have elk : ∀ x ∈ ys.map D.str, kns x := fun x hx => by
      obtain ⟨y, hy, rfl⟩ := List.mem_map.mp hx
      exact ⟨(by unfold kn; intro z; cases z), fun t e => by cases e; have := hys y hy; omega⟩
    have elm : (ys.map D.str).length ≤ 4 := by rw [List.length_map]; exact hys4
    have lcd : EvO K (some a) (tLc (iList K (tVar 4)) (gName 7) (tNot (tB (tCall (sp__law_is_name K) [] E0 (tCons (tVar 7) tNil)))) (tVar 7) [7]) σ5 S5 (((ys.map D.str).filter fun d => !isNameD d).map fun d => d) :=
      eo_lc (i := 7) (vs := [7]) (b := fun d => !isNameD d) (f := fun d => d) st5 (es_list (ed_var st5 rfl)) (by decide) (by decide) (fun x hx B'' n' σ' S' st' => ⟨et_not (et_B (ed_call (ds := [x]) (ea_cons (ed_var st' rfl) ea_nil) rfl (elk x hx))), fun _ => ed_var st' rfl⟩) (Nat.lt_of_le_of_lt elm (Nat.lt_of_lt_of_le (by decide) (hz 5 rfl)))
    have v4 : EvD K (some a) (tVar 4) σ5 S5 (.lst (ys.map D.str)) := ed_var st5 rfl
    refine s_seq (s_dat (d := .bl (areNamesD (.lst (ys.map D.str)))) st5 (EvD.is (ed_and (ed_op lcd.h (EvO.h (eo_lst ea_nil (hz _ rfl))) rd_eqNil) fun _ => ed_op (EvD.h (ed_lenSet v4.ql (by omega))) (EvD.h (ed_len v4.h (rl_L (Nat.le_trans elm (hz 4 rfl))))) rd_eqI) ?_) (by decide) fun σ6 S6 st6 => ?_)
    · rw [List.map_id', none_odd, List.length_map]
      show D.bl (_ && decide (((uniq ys).length : Int) = (ys.length : Int))) = D.bl ((ys.map D.str).all isNameD && decide ((uniq ((ys.map D.str).map keyS)).length = (ys.map D.str).length))
      have e3 : (ys.map D.str).map keyS = ys := by rw [List.map_map]; exact List.map_id ys
      rw [e3, List.length_map]
      congr 2
      exact decide_eq_decide.mpr (by omega)
    have v4' : EvD K (some a) (tVar 4) σ6 S6 (.lst (ys.map D.str)) := ed_var st6 rfl
    have preL : kn (.lst (ys.map D.str)) ∧ ∀ es, rowD (.lst (ys.map D.str)) = some es → es.length ≤ 1000 ∧ ∀ e ∈ es, kns e := ⟨(by unfold kn; intro z; cases z), fun es e => by cases e; exact ⟨by omega, elk⟩⟩
    have preT : kn (.tup (ys.map D.str)) ∧ ∀ es, rowD (.tup (ys.map D.str)) = some es → es.length ≤ 1000 ∧ ∀ e ∈ es, kns e := ⟨(by unfold kn; intro z; cases z), fun es e => by cases e; exact ⟨by omega, elk⟩⟩
    have rep2 : EvD K (some a) (tCB (rRepr K) (tCons (tLst (tCons (tCall (sp_are_names K) [] E0 (tCons (tVar 4) tNil)) (tCons (tCall (sp_are_names K) [] E0 (tCons (tCB (rTuple K) (tCons (tVar 4) tNil)) tNil)) (tCons (tCallK (sp_are_names K) (gv_are_names_value) E0 tNil (tCons (tVar 4) tNil)) tNil)))) tNil)) σ6 S6 (.str (D.lst [.bl (areNamesD (.lst (ys.map D.str))), .bl (areNamesD (.lst (ys.map D.str))), .bl (areNamesD (.lst (ys.map D.str)))]).py.shown) :=
      ed_cb (eh_cons (EvO.h (eo_lst (ea_cons (ed_call (ds := [.lst (ys.map D.str)]) (ea_cons v4' ea_nil) rfl preL) (ea_cons (ed_call (ds := [.tup (ys.map D.str)]) (ea_cons (ed_tuple v4'.ql) ea_nil) rfl preT) (ea_cons (ed_callK (gD := gv_are_names_value []) (ds := [.lst (ys.map D.str)]) (ea_cons v4' ea_nil) (fun F vs r => by
        cases r with
        | cons r1 r => cases r; exact .cons r1 .nil) rfl preL) ea_nil))) (hz _ rfl))) eh_nil) (rep3 _ _ _)
    have cat2 : EvO K (some a) (tOp rMulU (tLst (tCons (tVar 6) tNil)) (tC (.int 3))) σ6 S6 [.bl (areNamesD (.lst (ys.map D.str))), .bl (areNamesD (.lst (ys.map D.str))), .bl (areNamesD (.lst (ys.map D.str)))] :=
      eo_repU (EvO.q (eo_lst (ea_cons (ed_var st6 rfl) ea_nil) (hz _ rfl))) ed_int ⟨by decide, by decide⟩ (hz _ rfl)
    refine s_if (b := false) st6 (EvT.is (et_test (ed_op rep2.h (EvD.h (ed_cb (eh_cons cat2.h eh_nil) (rep3 _ _ _))) rd_neUs)) ?_) (fun hb S7 st7 => by cases hb) (fun _ S7 st7 => ?_)
    · rw [decide_eq_true rfl]
      rfl
    refine s_next ?_
    exact nx () _ _ _ True.intro (st7.more (by omega)) ⟨rfl, True.intro⟩
  · have st1 := st1.more (k := 432) (by rw [rng_len]; decide)
    show tSeq _ _ _ _ _
    have lsi : ∀ (x : D) (te : TE) (σ : St) (S : Wd), EvD K (some a) te σ S x → EvD K (some a) (tLst (tCons te tNil)) σ S (.lst [x]) := fun x te σ S h => EvO.ed (eo_lst (ea_cons h ea_nil) (hz _ rfl))
    refine s_seq (s_N (k := 1) (P := fun d => oddOk d = true) st1 (EvN.le (en_call (n := 1) (N := 1) (ds := [.lst odds]) (ev_var st1 rfl)
      (ea_cons (EvO.ed (eo_lst (ea_cons ed_non (ea_cons ed_int (ea_cons ed_bl (ea_cons ed_str (ea_cons (EvOD.ed ed_disp1) (ea_cons (lsi _ _ _ _ ed_int) (ea_cons (lsi _ _ _ _ ed_non) (ea_cons (lsi _ _ _ _ (lsi _ _ _ _ ed_str)) (ea_cons (lsi _ _ _ _ ed_bl) ea_nil))))))))) (hz _ rfl))) ea_nil) rfl ⟨_, rfl, (by intro z; cases z), Nat.le_of_ble_eq_true rfl⟩) (Nat.le_refl _) fun d ⟨es, he, hd⟩ => by
        cases he
        exact (List.all_eq_true (p := oddOk)).mp odds_ok d hd) (by decide) (by omega) fun d σ2 S2 hd st2 => ?_)
    obtain ⟨pre1, an1⟩ := oddOk_of hd
    have c1 : EvD K (some a) (tCall (sp_are_names K) [] E0 (tCons (tVar 8) tNil)) σ2 S2 (.bl false) := by
      have e := ed_call (p := some a) (K := K) (S := S2) (σ := σ2) (n := 1) (pre := fun ds => kn (h0 ds) ∧ ∀ es, rowD (h0 ds) = some es → es.length ≤ 1000 ∧ ∀ e ∈ es, kns e) (f := fun ds => .bl (areNamesD (h0 ds))) (E := E0) (t := tCons (tVar 8) tNil) (ds := [d]) (ea_cons (ed_var st2 rfl) ea_nil) rfl pre1
      have e2 : areNamesD (h0 [d]) = false := an1
      rw [e2] at e
      exact e
    have t1 : EvT K (some a) (tTest (tOp rNotB (tCall (sp_are_names K) [] E0 (tCons (tVar 8) tNil)) (tC (.bl false)))) σ2 S2 false := EvT.is (et_test (ed_op c1.h (EvD.h ed_bl) rd_notB)) rfl
    have lcs : EvO K (some a) (tLc (iTup K (tTup (tCons (tC .non) (tCons (tC (.int 5)) (tCons (tC (.bl true)) (tCons (tLst (tCons (tC (.str "a")) tNil)) (tCons (tTup (tCons (tC (.str "a")) tNil)) (tCons tDNewK tNil)))))))) (gName 7) (tTest (tOp rNotB (tCall (sp_is_name K) [] E0 (tCons (tVar 7) tNil)) (tC (.bl false)))) (tVar 7) [7]) σ2 S2 ((sixs.filter fun d => !decide (isNameD d = false)).map fun d => d) :=
      eo_lc (i := 7) (vs := [7]) (b := fun d => !decide (isNameD d = false)) (f := fun d => d) st2 (es_tup (ed_tup (ea_cons ed_non (ea_cons ed_int (ea_cons ed_bl (ea_cons (lsi _ _ _ _ ed_str) (ea_cons (ed_tup (ea_cons ed_str ea_nil) (hz _ rfl)) (ea_cons (EvOD.ed eod_new) ea_nil)))))) (hz _ rfl))) (by decide) (by decide) (fun x hx B'' n' σ' S' st' => ⟨et_test (ed_op (EvD.h (ed_call (ds := [x]) (ea_cons (ed_var st' rfl) ea_nil) rfl (sixs_kns x hx))) (EvD.h ed_bl) rd_notB), fun _ => ed_var st' rfl⟩) (Nat.lt_of_lt_of_le (by decide) (hz 7 rfl))
    have sixE : (!((sixs.filter fun d => !decide (isNameD d = false)).map fun d => d).isEmpty) = false := by decide +kernel
    have c3 : EvD K (some a) (tCall (sp_are_names K) [] E0 (tCons (tTup tNil) tNil)) σ2 S2 (.bl true) := ed_call (ds := [.tup []]) (ea_cons (ed_tup ea_nil (hz _ rfl)) ea_nil) rfl ⟨(by unfold kn; intro z; cases z), fun es e => by cases e; exact ⟨Nat.zero_le _, fun x hx => by cases hx⟩⟩
    refine s_seq (s_if (b := false) st2 (EvT.is (et_or t1 fun _ => et_or (EvT.is (et_test (ed_op lcs.h (EvO.h (eo_lst ea_nil (hz _ rfl))) rd_neNil)) sixE) fun _ => EvT.is (b := false) (et_test (ed_op c3.h (EvD.h ed_bl) rd_notB)) rfl) rfl) (fun hb S3 st3 => by cases hb) (fun _ S3 st3 => ?_))
    refine s_next ?_
    show tSeq _ _ _ _ _
    have tens : ∀ (σ : St) (S : Wd), EvV K (some a) (tVar 1) σ S (.ref a) → EvN K (some a) (tCall (sp__law_pick K) [] E0 (tCons (tVar 1) (tCons (tLst (tCons (tC (.str "a")) (tCons (tC (.str "b")) (tCons (tC (.str "c")) (tCons (tC (.str "z")) (tCons (tC (.str "aa")) (tCons (tC (.str "ab")) (tCons (tC (.str "zz")) (tCons (tC (.str "no")) (tCons (tC (.str "or")) (tCons (tC (.str "x")) tNil))))))))))) tNil))) σ S 1 (fun d => ∃ t : Str, d = .str t ∧ t ∈ ten) := fun σ S hp =>
      EvN.le (en_call (n := 1) (N := 1) (ds := [.lst (ten.map D.str)]) hp (ea_cons (EvO.ed (eo_lst (ea_cons ed_str (ea_cons ed_str (ea_cons ed_str (ea_cons ed_str (ea_cons ed_str (ea_cons ed_str (ea_cons ed_str (ea_cons ed_str (ea_cons ed_str (ea_cons ed_str ea_nil)))))))))) (hz _ rfl))) ea_nil) rfl ⟨_, rfl, (by intro z; cases z), Nat.le_of_ble_eq_true rfl⟩) (Nat.le_refl _) fun d ⟨es, he, hd⟩ => by
        cases he
        obtain ⟨t, ht, rfl⟩ := List.mem_map.mp hd
        exact ⟨t, rfl, ht⟩
    have lc := en_lcN (i := 5) (vs := [5]) (w := 1) (L := 11) (R := fun _ e => ∃ t : Str, e = .str t ∧ t ∈ ten) (te := tCall (sp__law_pick K) [] E0 (tCons (tVar 1) (tCons (tLst (tCons (tC (.str "a")) (tCons (tC (.str "b")) (tCons (tC (.str "c")) (tCons (tC (.str "z")) (tCons (tC (.str "aa")) (tCons (tC (.str "ab")) (tCons (tC (.str "zz")) (tCons (tC (.str "no")) (tCons (tC (.str "or")) (tCons (tC (.str "x")) tNil))))))))))) tNil))) st3 (rng_draw (tv := tVar 1) (m := 12) (N := 11) (ev_var st3 rfl) (by decide) (by decide)) (by decide) (by decide) (fun ds hds => by
        obtain ⟨z, rfl, _, h2⟩ := hds
        rw [rng_len]
        omega) (Nat.lt_of_lt_of_le (by decide) (hz 12 rfl)) (fun ds hds d hd B' n' σ' S' st' => tens σ' S' (ev_var st' rfl))
    have takenE : EvN K (some a) _ σ2 S3 12 (fun d => ∃ ts : List Str, d = .lst (ts.map D.str) ∧ ts.length ≤ 11 ∧ ∀ t ∈ ts, t ∈ ten) := EvN.le lc.ed (Nat.le_refl _) fun d hd => by
      obtain ⟨es, rfl, ds, ⟨z, rfl, _, h2⟩, hl2, hall⟩ := hd
      obtain ⟨ys, rfl, hys⟩ := strs_of (P := fun s => s ∈ ten) fun e he => (lc_all hl2 hall e he).choose_spec.2
      rw [List.length_map, rng_len] at hl2
      exact ⟨ys, rfl, by omega, hys⟩
    have manyE : EvN K (some a) (tCall (sp__law_pick K) [] E0 (tCons (tVar 1) (tCons (tLst (tCons (tC (.int 0)) (tCons (tC (.int 1)) (tCons (tC (.int 5)) (tCons (tC (.int 26)) (tCons (tC (.int 30)) (tCons (tC (.int 700)) (tCons (tC (.int 730)) tNil)))))))) tNil))) σ2 S3 1 (fun d => ∃ m : Nat, d = .int (m : Int) ∧ m ≤ 730) :=
      EvN.le (en_call (n := 1) (N := 1) (ds := [.lst (([0, 1, 5, 26, 30, 700, 730] : List Nat).map fun m : Nat => D.int (m : Int))]) (ev_var st3 rfl) (ea_cons (EvO.ed (eo_lst (ea_cons ed_int (ea_cons ed_int (ea_cons ed_int (ea_cons ed_int (ea_cons ed_int (ea_cons ed_int (ea_cons ed_int ea_nil))))))) (hz _ rfl))) ea_nil) rfl ⟨_, rfl, (by intro z; cases z), Nat.le_of_ble_eq_true rfl⟩) (Nat.le_refl _) fun d ⟨es, he, hd⟩ => by
        cases he
        obtain ⟨m, hm, rfl⟩ := List.mem_map.mp hd
        exact ⟨m, rfl, of_decide_eq_true ((List.all_eq_true (p := fun m : Nat => decide (m ≤ 730))).mp (by decide +kernel) m hm)⟩
    refine s_seq (s_par st3 takenE.x manyE.x (by decide) (by decide) (by decide) (by decide) fun t1 t2 σ4 S4 p1 p2 st4 => ?_)
    obtain ⟨_, rfl, ts, rfl, htl, hts⟩ := p1
    obtain ⟨_, rfl, m, rfl, hm⟩ := p2
    show tSeq _ _ _ _ _
    have pre3 : preOrd [.lst (ts.map D.str), .int (m : Int)] := ⟨ts, m, hts, by omega, rfl, hm, .inl rfl⟩
    have res3 : D.lst ((ordS (takenD (.lst (ts.map D.str))) (manyD (.int (m : Int)))).map D.str) = .lst ((ordS ts m).map D.str) := by
      rw [taken_eq (.inl rfl)]
      rfl
    have v9 : EvD K (some a) (tVar 9) σ4 S4 (.lst (ts.map D.str)) := ed_var st4 rfl
    have v10 : EvD K (some a) (tVar 10) σ4 S4 (.int (m : Int)) := ed_var st4 rfl
    refine s_seq (s_dat st4 (EvD.is (ed_call (ds := [.lst (ts.map D.str), .int (m : Int)]) (ea_cons v9 (ea_cons v10 ea_nil)) rfl pre3) res3) (by decide) fun σ5 S5 st5 => ?_)
    have w9 : EvD K (some a) (tVar 9) σ5 S5 (.lst (ts.map D.str)) := ed_var st5 rfl
    have w10 : EvD K (some a) (tVar 10) σ5 S5 (.int (m : Int)) := ed_var st5 rfl
    have w6 : EvD K (some a) (tVar 6) σ5 S5 (.lst ((ordS ts m).map D.str)) := ed_var st5 rfl
    have hsh : (D.lst ((ordS ts m).map D.str)).sh = true := sh_strs _ fun s hs => W_strOk (List.mem_filter.mp (List.mem_of_mem_take hs)).1
    have prs : EvD K (some a) (tLc (iList K (tVar 9)) (gName 7) tYes (tTup (tCons (tVar 7) (tCons (tC (.bl true)) tNil))) [7]) σ5 S5 (.lst ((ts.map fun t => ((.inr t : Key), D.bl true)).map fun kd => D.tup [kD kd.1, kd.2])) := by
      refine EvD.is (EvO.ed (eo_lc (i := 7) (vs := [7]) (b := fun _ => true) (f := fun d => .tup [d, .bl true]) st5 (es_list w9) (by decide) (by decide) (fun x hx B'' n' σ' S' st' => ⟨et_yes, fun _ => ed_tup (ea_cons (ed_var st' rfl) (ea_cons ed_bl ea_nil)) (hz _ rfl)⟩) (by rw [List.length_map]; exact Nat.lt_of_le_of_lt htl (Nat.lt_of_lt_of_le (by decide) (hz 12 rfl))))) ?_
      rw [filter_true, List.map_map, List.map_map]
      rfl
    have hkeys : (mkD (ts.map fun t => ((.inr t : Key), D.bl true))).map (·.1) = (uniq ts).map Sum.inr := by
      rw [mkD_keys, List.map_map]
      exact uniq_map (fun t => (.inr t : Key)) (fun x y q => by cases q; rfl) ts
    have hul : (uniq ts).length ≤ ts.length := uniq_short ts
    have pre4 : preOrd (gv_names_in_order_many_taken [] [.int (m : Int), .dic (mkD (ts.map fun t => ((.inr t : Key), D.bl true)))]) := ⟨uniq ts, m, fun t ht => hts t (mem_uniq.mp ht), by omega, rfl, hm, .inr ⟨_, rfl, hkeys⟩⟩
    have res4 : D.lst ((ordS (takenD (.dic (mkD (ts.map fun t => ((.inr t : Key), D.bl true))))) (manyD (.int (m : Int)))).map D.str) = .lst ((ordS ts m).map D.str) := by
      rw [taken_eq (.inr ⟨_, rfl, hkeys⟩), ord_uniq]
      rfl
    have call4 : EvD K (some a) (tCallK (sp_names_in_order K) (gv_names_in_order_many_taken) E0 tNil (tCons (tVar 10) (tCons (tCB (rDictP K) (tCons (tLc (iList K (tVar 9)) (gName 7) tYes (tTup (tCons (tVar 7) (tCons (tC (.bl true)) tNil))) [7]) tNil)) tNil))) σ5 S5 (.lst ((ordS ts m).map D.str)) :=
      EvD.is (ed_callK (gD := gv_names_in_order_many_taken []) (ds := [.int (m : Int), .dic (mkD (ts.map fun t => ((.inr t : Key), D.bl true)))]) (ea_cons w10 (ea_cons (EvOD.ed (eod_dictP prs)) ea_nil)) (fun F vs r => by
        cases r with
        | cons r1 r => cases r with
          | cons r2 r => cases r; exact .cons r2 (.cons r1 .nil)) rfl pre4) res4
    refine s_ret st5 (ed_and (ed_op (EvD.h (EvD.is (ed_call (ds := [.lst (ts.map D.str), .int (m : Int)]) (ea_cons w9 (ea_cons w10 ea_nil)) rfl pre3) res3)) w6.h (rd_eqSame hsh)) fun _ => ed_op call4.h w6.h (rd_eqSame hsh)) (fun v S' g ht r => ?_)
    cases r
    exact k S'.H
theorem ok_law {P : Program} {w : World} {K : PySem.W.Frag} [LT K] {mg : Str → Option Value} {base : Heap} (Z : Fs P w K mg) : GnOk P w K mg base CX0 5 Z.a_law Z.d_law ["script"] (sp_law K) :=
  gn_ok Z.F_law sc_law (fun _ _ _ _ h => ln_law h) (fun cdv A outer s H vs Q E hG hr h => ⟨t_law Z, ps_law Z hG hr, rd_law Z h⟩)
theorem kb_are_names_value {K : PySem.W.Frag} {f : Addr} {fd : FuncData} (F : Fun K "are_names" "are_names" s_are_names f fd) : KBinds K fd ["value"] ["value"] gv_are_names_value gv_are_names_value :=
  kbinds_mk F (fun _ _ _ _ _ _ us ws hl => match us, ws, hl with
    | [], [_], _ => rfl) (fun {vs us zs ws} r q => by
      cases r with
      | cons _ _ => exact .nil
      | nil => (cases q with | nil => exact .nil | cons h0 q1 => (cases q1 with | cons _ _ => exact .nil | nil => exact .cons h0 (.nil))))
theorem kb_is_integer_value {K : PySem.W.Frag} {f : Addr} {fd : FuncData} (F : Fun K "is_integer" "is_integer" s_is_integer f fd) : KBinds K fd ["value"] ["value"] gv_is_integer_value gv_is_integer_value :=
  kbinds_mk F (fun _ _ _ _ _ _ us ws hl => match us, ws, hl with
    | [], [_], _ => rfl) (fun {vs us zs ws} r q => by
      cases r with
      | cons _ _ => exact .nil
      | nil => (cases q with | nil => exact .nil | cons h0 q1 => (cases q1 with | cons _ _ => exact .nil | nil => exact .cons h0 (.nil))))
theorem kb_is_name_value {K : PySem.W.Frag} {f : Addr} {fd : FuncData} (F : Fun K "is_name" "is_name" s_is_name f fd) : KBinds K fd ["value"] ["value"] gv_is_name_value gv_is_name_value :=
  kbinds_mk F (fun _ _ _ _ _ _ us ws hl => match us, ws, hl with
    | [], [_], _ => rfl) (fun {vs us zs ws} r q => by
      cases r with
      | cons _ _ => exact .nil
      | nil => (cases q with | nil => exact .nil | cons h0 q1 => (cases q1 with | cons _ _ => exact .nil | nil => exact .cons h0 (.nil))))
theorem kb_is_row_value {K : PySem.W.Frag} {f : Addr} {fd : FuncData} (F : Fun K "is_row" "is_row" s_is_row f fd) : KBinds K fd ["value"] ["value"] gv_is_row_value gv_is_row_value :=
  kbinds_mk F (fun _ _ _ _ _ _ us ws hl => match us, ws, hl with
    | [], [_], _ => rfl) (fun {vs us zs ws} r q => by
      cases r with
      | cons _ _ => exact .nil
      | nil => (cases q with | nil => exact .nil | cons h0 q1 => (cases q1 with | cons _ _ => exact .nil | nil => exact .cons h0 (.nil))))
theorem kb_is_within_most_least_value {K : PySem.W.Frag} {f : Addr} {fd : FuncData} (F : Fun K "is_within" "is_within" s_is_within f fd) : KBinds K fd ["value", "least", "most"] ["most", "least", "value"] gv_is_within_most_least_value gv_is_within_most_least_value :=
  kbinds_mk F (fun _ _ _ _ _ _ us ws hl => match us, ws, hl with
    | [], [_, _, _], _ => rfl) (fun {vs us zs ws} r q => by
      cases r with
      | cons _ _ => exact .nil
      | nil => (cases q with | nil => exact .nil | cons h0 q1 => (cases q1 with | nil => exact .nil | cons h1 q2 => (cases q2 with | nil => exact .nil | cons h2 q3 => (cases q3 with | cons _ _ => exact .nil | nil => exact .cons h2 (.cons h1 (.cons h0 (.nil))))))))
theorem kb_names_in_order_many_taken {K : PySem.W.Frag} {f : Addr} {fd : FuncData} (F : Fun K "names_in_order" "names_in_order" s_names_in_order f fd) : KBinds K fd ["taken", "many"] ["many", "taken"] gv_names_in_order_many_taken gv_names_in_order_many_taken :=
  kbinds_mk F (fun _ _ _ _ _ _ us ws hl => match us, ws, hl with
    | [], [_, _], _ => rfl) (fun {vs us zs ws} r q => by
      cases r with
      | cons _ _ => exact .nil
      | nil => (cases q with | nil => exact .nil | cons h0 q1 => (cases q1 with | nil => exact .nil | cons h1 q2 => (cases q2 with | cons _ _ => exact .nil | nil => exact .cons h1 (.cons h0 (.nil))))))
theorem all_mk {l : PySem.W.OpenLaw} {q : Program} {w : World} {K : PySem.W.Frag} {h : Heap} {mg : Str → Option Value} {fa : Addr} (X : K.In h) (G : h.Ns mainGlobals mg) (hfa : mg "law" = some (.ref fa))
    {a_is_integer : Addr} {oc_is_integer kV_is_integer dc_is_integer pm_is_integer cd_is_integer ct_is_integer : Value} {od_is_integer an_is_integer : Option Addr} {sl_is_integer : Array (Option Value)}
    {a_is_within : Addr} {oc_is_within kV_is_within dc_is_within pm_is_within cd_is_within ct_is_within : Value} {od_is_within an_is_within : Option Addr} {sl_is_within : Array (Option Value)}
    {a_is_row : Addr} {oc_is_row kV_is_row dc_is_row pm_is_row cd_is_row ct_is_row : Value} {od_is_row an_is_row : Option Addr} {sl_is_row : Array (Option Value)}
    {a_is_name : Addr} {oc_is_name kV_is_name dc_is_name pm_is_name cd_is_name ct_is_name : Value} {od_is_name an_is_name : Option Addr} {sl_is_name : Array (Option Value)}
    {a_are_names : Addr} {oc_are_names kV_are_names dc_are_names pm_are_names cd_are_names ct_are_names : Value} {od_are_names an_are_names : Option Addr} {sl_are_names : Array (Option Value)}
    {a_names_in_order : Addr} {oc_names_in_order kV_names_in_order dc_names_in_order pm_names_in_order cd_names_in_order ct_names_in_order : Value} {od_names_in_order an_names_in_order : Option Addr} {sl_names_in_order : Array (Option Value)}
    {a_fixed : Addr} {oc_fixed kV_fixed dc_fixed pm_fixed cd_fixed ct_fixed : Value} {od_fixed an_fixed : Option Addr} {sl_fixed : Array (Option Value)}
    {a_statement_in : Addr} {oc_statement_in kV_statement_in dc_statement_in pm_statement_in cd_statement_in ct_statement_in : Value} {od_statement_in an_statement_in : Option Addr} {sl_statement_in : Array (Option Value)}
    {a_is_statement : Addr} {oc_is_statement kV_is_statement dc_is_statement pm_is_statement cd_is_statement ct_is_statement : Value} {od_is_statement an_is_statement : Option Addr} {sl_is_statement : Array (Option Value)}
    {a__law_pen : Addr} {oc__law_pen kV__law_pen dc__law_pen pm__law_pen cd__law_pen ct__law_pen : Value} {od__law_pen an__law_pen : Option Addr} {sl__law_pen : Array (Option Value)}
    {a__law_draw : Addr} {oc__law_draw kV__law_draw dc__law_draw pm__law_draw cd__law_draw ct__law_draw : Value} {od__law_draw an__law_draw : Option Addr} {sl__law_draw : Array (Option Value)}
    {a__law_pick : Addr} {oc__law_pick kV__law_pick dc__law_pick pm__law_pick cd__law_pick ct__law_pick : Value} {od__law_pick an__law_pick : Option Addr} {sl__law_pick : Array (Option Value)}
    {a__law_words : Addr} {oc__law_words kV__law_words dc__law_words pm__law_words cd__law_words ct__law_words : Value} {od__law_words an__law_words : Option Addr} {sl__law_words : Array (Option Value)}
    {a__law_is_name : Addr} {oc__law_is_name kV__law_is_name dc__law_is_name pm__law_is_name cd__law_is_name ct__law_is_name : Value} {od__law_is_name an__law_is_name : Option Addr} {sl__law_is_name : Array (Option Value)}
    {a__law_text_drawn : Addr} {oc__law_text_drawn kV__law_text_drawn dc__law_text_drawn pm__law_text_drawn cd__law_text_drawn ct__law_text_drawn : Value} {od__law_text_drawn an__law_text_drawn : Option Addr} {sl__law_text_drawn : Array (Option Value)}
    {a__law_order : Addr} {oc__law_order kV__law_order dc__law_order pm__law_order cd__law_order ct__law_order : Value} {od__law_order an__law_order : Option Addr} {sl__law_order : Array (Option Value)}
    {a__law_kinds_right : Addr} {oc__law_kinds_right kV__law_kinds_right dc__law_kinds_right pm__law_kinds_right cd__law_kinds_right ct__law_kinds_right : Value} {od__law_kinds_right an__law_kinds_right : Option Addr} {sl__law_kinds_right : Array (Option Value)}
    {a_law : Addr} {oc_law kV_law dc_law pm_law cd_law ct_law : Value} {od_law an_law : Option Addr} {sl_law : Array (Option Value)}
    {a_BARE : Addr} {o_BARE : Obj}
    {a_JOINS : Addr} {o_JOINS : Obj}
    {t_LETTERS : Tok}
    {t_MOST_PARTS : Tok}
    {t_MOST_SIGNS : Tok}
    {a_WORDS : Addr} {o_WORDS : Obj}
    (ais_integer : PySem.W.nsIn K mainGlobals "is_integer" = some (some (.ref a_is_integer)))
    (lis_integer : K.lookup a_is_integer = some ⟨oc_is_integer, od_is_integer, .func (PySem.W.fnOf "is_integer" "is_integer" (defArgs s_is_integer) (defBody s_is_integer) (defScope s_is_integer) .none kV_is_integer dc_is_integer pm_is_integer an_is_integer cd_is_integer ct_is_integer), sl_is_integer⟩)
    (cis_integer : PySem.W.codeIn K cd_is_integer "is_integer" = true)
    (kis_integer : PySem.W.keepIn K (.ref a_is_integer) = true)
    (ais_within : PySem.W.nsIn K mainGlobals "is_within" = some (some (.ref a_is_within)))
    (lis_within : K.lookup a_is_within = some ⟨oc_is_within, od_is_within, .func (PySem.W.fnOf "is_within" "is_within" (defArgs s_is_within) (defBody s_is_within) (defScope s_is_within) .none kV_is_within dc_is_within pm_is_within an_is_within cd_is_within ct_is_within), sl_is_within⟩)
    (cis_within : PySem.W.codeIn K cd_is_within "is_within" = true)
    (kis_within : PySem.W.keepIn K (.ref a_is_within) = true)
    (ais_row : PySem.W.nsIn K mainGlobals "is_row" = some (some (.ref a_is_row)))
    (lis_row : K.lookup a_is_row = some ⟨oc_is_row, od_is_row, .func (PySem.W.fnOf "is_row" "is_row" (defArgs s_is_row) (defBody s_is_row) (defScope s_is_row) .none kV_is_row dc_is_row pm_is_row an_is_row cd_is_row ct_is_row), sl_is_row⟩)
    (cis_row : PySem.W.codeIn K cd_is_row "is_row" = true)
    (kis_row : PySem.W.keepIn K (.ref a_is_row) = true)
    (ais_name : PySem.W.nsIn K mainGlobals "is_name" = some (some (.ref a_is_name)))
    (lis_name : K.lookup a_is_name = some ⟨oc_is_name, od_is_name, .func (PySem.W.fnOf "is_name" "is_name" (defArgs s_is_name) (defBody s_is_name) (defScope s_is_name) .none kV_is_name dc_is_name pm_is_name an_is_name cd_is_name ct_is_name), sl_is_name⟩)
    (cis_name : PySem.W.codeIn K cd_is_name "is_name" = true)
    (kis_name : PySem.W.keepIn K (.ref a_is_name) = true)
    (aare_names : PySem.W.nsIn K mainGlobals "are_names" = some (some (.ref a_are_names)))
    (lare_names : K.lookup a_are_names = some ⟨oc_are_names, od_are_names, .func (PySem.W.fnOf "are_names" "are_names" (defArgs s_are_names) (defBody s_are_names) (defScope s_are_names) .none kV_are_names dc_are_names pm_are_names an_are_names cd_are_names ct_are_names), sl_are_names⟩)
    (care_names : PySem.W.codeIn K cd_are_names "are_names" = true)
    (kare_names : PySem.W.keepIn K (.ref a_are_names) = true)
    (anames_in_order : PySem.W.nsIn K mainGlobals "names_in_order" = some (some (.ref a_names_in_order)))
    (lnames_in_order : K.lookup a_names_in_order = some ⟨oc_names_in_order, od_names_in_order, .func (PySem.W.fnOf "names_in_order" "names_in_order" (defArgs s_names_in_order) (defBody s_names_in_order) (defScope s_names_in_order) .none kV_names_in_order dc_names_in_order pm_names_in_order an_names_in_order cd_names_in_order ct_names_in_order), sl_names_in_order⟩)
    (cnames_in_order : PySem.W.codeIn K cd_names_in_order "names_in_order" = true)
    (knames_in_order : PySem.W.keepIn K (.ref a_names_in_order) = true)
    (afixed : PySem.W.nsIn K mainGlobals "fixed" = some (some (.ref a_fixed)))
    (lfixed : K.lookup a_fixed = some ⟨oc_fixed, od_fixed, .func (PySem.W.fnOf "fixed" "fixed" (defArgs s_fixed) (defBody s_fixed) (defScope s_fixed) .none kV_fixed dc_fixed pm_fixed an_fixed cd_fixed ct_fixed), sl_fixed⟩)
    (cfixed : PySem.W.codeIn K cd_fixed "fixed" = true)
    (kfixed : PySem.W.keepIn K (.ref a_fixed) = true)
    (astatement_in : PySem.W.nsIn K mainGlobals "statement_in" = some (some (.ref a_statement_in)))
    (lstatement_in : K.lookup a_statement_in = some ⟨oc_statement_in, od_statement_in, .func (PySem.W.fnOf "statement_in" "statement_in" (defArgs s_statement_in) (defBody s_statement_in) (defScope s_statement_in) .none kV_statement_in dc_statement_in pm_statement_in an_statement_in cd_statement_in ct_statement_in), sl_statement_in⟩)
    (cstatement_in : PySem.W.codeIn K cd_statement_in "statement_in" = true)
    (kstatement_in : PySem.W.keepIn K (.ref a_statement_in) = true)
    (ais_statement : PySem.W.nsIn K mainGlobals "is_statement" = some (some (.ref a_is_statement)))
    (lis_statement : K.lookup a_is_statement = some ⟨oc_is_statement, od_is_statement, .func (PySem.W.fnOf "is_statement" "is_statement" (defArgs s_is_statement) (defBody s_is_statement) (defScope s_is_statement) .none kV_is_statement dc_is_statement pm_is_statement an_is_statement cd_is_statement ct_is_statement), sl_is_statement⟩)
    (cis_statement : PySem.W.codeIn K cd_is_statement "is_statement" = true)
    (kis_statement : PySem.W.keepIn K (.ref a_is_statement) = true)
    (a_law_pen : PySem.W.nsIn K mainGlobals "_law_pen" = some (some (.ref a__law_pen)))
    (l_law_pen : K.lookup a__law_pen = some ⟨oc__law_pen, od__law_pen, .func (PySem.W.fnOf "_law_pen" "_law_pen" (defArgs s__law_pen) (defBody s__law_pen) (defScope s__law_pen) .none kV__law_pen dc__law_pen pm__law_pen an__law_pen cd__law_pen ct__law_pen), sl__law_pen⟩)
    (c_law_pen : PySem.W.codeIn K cd__law_pen "_law_pen" = true)
    (k_law_pen : PySem.W.keepIn K (.ref a__law_pen) = true)
    (a_law_draw : PySem.W.nsIn K mainGlobals "_law_draw" = some (some (.ref a__law_draw)))
    (l_law_draw : K.lookup a__law_draw = some ⟨oc__law_draw, od__law_draw, .func (PySem.W.fnOf "_law_draw" "_law_draw" (defArgs s__law_draw) (defBody s__law_draw) (defScope s__law_draw) .none kV__law_draw dc__law_draw pm__law_draw an__law_draw cd__law_draw ct__law_draw), sl__law_draw⟩)
    (c_law_draw : PySem.W.codeIn K cd__law_draw "_law_draw" = true)
    (k_law_draw : PySem.W.keepIn K (.ref a__law_draw) = true)
    (a_law_pick : PySem.W.nsIn K mainGlobals "_law_pick" = some (some (.ref a__law_pick)))
    (l_law_pick : K.lookup a__law_pick = some ⟨oc__law_pick, od__law_pick, .func (PySem.W.fnOf "_law_pick" "_law_pick" (defArgs s__law_pick) (defBody s__law_pick) (defScope s__law_pick) .none kV__law_pick dc__law_pick pm__law_pick an__law_pick cd__law_pick ct__law_pick), sl__law_pick⟩)
    (c_law_pick : PySem.W.codeIn K cd__law_pick "_law_pick" = true)
    (k_law_pick : PySem.W.keepIn K (.ref a__law_pick) = true)
    (a_law_words : PySem.W.nsIn K mainGlobals "_law_words" = some (some (.ref a__law_words)))
    (l_law_words : K.lookup a__law_words = some ⟨oc__law_words, od__law_words, .func (PySem.W.fnOf "_law_words" "_law_words" (defArgs s__law_words) (defBody s__law_words) (defScope s__law_words) .none kV__law_words dc__law_words pm__law_words an__law_words cd__law_words ct__law_words), sl__law_words⟩)
    (c_law_words : PySem.W.codeIn K cd__law_words "_law_words" = true)
    (k_law_words : PySem.W.keepIn K (.ref a__law_words) = true)
    (a_law_is_name : PySem.W.nsIn K mainGlobals "_law_is_name" = some (some (.ref a__law_is_name)))
    (l_law_is_name : K.lookup a__law_is_name = some ⟨oc__law_is_name, od__law_is_name, .func (PySem.W.fnOf "_law_is_name" "_law_is_name" (defArgs s__law_is_name) (defBody s__law_is_name) (defScope s__law_is_name) .none kV__law_is_name dc__law_is_name pm__law_is_name an__law_is_name cd__law_is_name ct__law_is_name), sl__law_is_name⟩)
    (c_law_is_name : PySem.W.codeIn K cd__law_is_name "_law_is_name" = true)
    (k_law_is_name : PySem.W.keepIn K (.ref a__law_is_name) = true)
    (a_law_text_drawn : PySem.W.nsIn K mainGlobals "_law_text_drawn" = some (some (.ref a__law_text_drawn)))
    (l_law_text_drawn : K.lookup a__law_text_drawn = some ⟨oc__law_text_drawn, od__law_text_drawn, .func (PySem.W.fnOf "_law_text_drawn" "_law_text_drawn" (defArgs s__law_text_drawn) (defBody s__law_text_drawn) (defScope s__law_text_drawn) .none kV__law_text_drawn dc__law_text_drawn pm__law_text_drawn an__law_text_drawn cd__law_text_drawn ct__law_text_drawn), sl__law_text_drawn⟩)
    (c_law_text_drawn : PySem.W.codeIn K cd__law_text_drawn "_law_text_drawn" = true)
    (k_law_text_drawn : PySem.W.keepIn K (.ref a__law_text_drawn) = true)
    (a_law_order : PySem.W.nsIn K mainGlobals "_law_order" = some (some (.ref a__law_order)))
    (l_law_order : K.lookup a__law_order = some ⟨oc__law_order, od__law_order, .func (PySem.W.fnOf "_law_order" "_law_order" (defArgs s__law_order) (defBody s__law_order) (defScope s__law_order) .none kV__law_order dc__law_order pm__law_order an__law_order cd__law_order ct__law_order), sl__law_order⟩)
    (c_law_order : PySem.W.codeIn K cd__law_order "_law_order" = true)
    (k_law_order : PySem.W.keepIn K (.ref a__law_order) = true)
    (a_law_kinds_right : PySem.W.nsIn K mainGlobals "_law_kinds_right" = some (some (.ref a__law_kinds_right)))
    (l_law_kinds_right : K.lookup a__law_kinds_right = some ⟨oc__law_kinds_right, od__law_kinds_right, .func (PySem.W.fnOf "_law_kinds_right" "_law_kinds_right" (defArgs s__law_kinds_right) (defBody s__law_kinds_right) (defScope s__law_kinds_right) .none kV__law_kinds_right dc__law_kinds_right pm__law_kinds_right an__law_kinds_right cd__law_kinds_right ct__law_kinds_right), sl__law_kinds_right⟩)
    (c_law_kinds_right : PySem.W.codeIn K cd__law_kinds_right "_law_kinds_right" = true)
    (k_law_kinds_right : PySem.W.keepIn K (.ref a__law_kinds_right) = true)
    (alaw : PySem.W.nsIn K mainGlobals "law" = some (some (.ref a_law)))
    (llaw : K.lookup a_law = some ⟨oc_law, od_law, .func (PySem.W.fnOf "law" "law" (defArgs s_law) (defBody s_law) (defScope s_law) .none kV_law dc_law pm_law an_law cd_law ct_law), sl_law⟩)
    (claw : PySem.W.codeIn K cd_law "law" = true)
    (klaw : PySem.W.keepIn K (.ref a_law) = true)
    (gBARE : PySem.W.nsIn K mainGlobals "BARE" = some (some (.ref a_BARE)))
    (lBARE : K.lookup a_BARE = some o_BARE)
    (tBARE : tupStr o_BARE ["nothing", "any", "no"] = true)
    (gJOINS : PySem.W.nsIn K mainGlobals "JOINS" = some (some (.ref a_JOINS)))
    (lJOINS : K.lookup a_JOINS = some o_JOINS)
    (tJOINS : tupStr o_JOINS ["both", "gives", "pick", "or"] = true)
    (gLETTERS : PySem.W.nsIn K mainGlobals "LETTERS" = some (some (.str "abcdefghijklmnopqrstuvwxyz" t_LETTERS)))
    (gMOST_PARTS : PySem.W.nsIn K mainGlobals "MOST_PARTS" = some (some (.int 24 t_MOST_PARTS)))
    (gMOST_SIGNS : PySem.W.nsIn K mainGlobals "MOST_SIGNS" = some (some (.int 8 t_MOST_SIGNS)))
    (gWORDS : PySem.W.nsIn K mainGlobals "WORDS" = some (some (.ref a_WORDS)))
    (lWORDS : K.lookup a_WORDS = some o_WORDS)
    (tWORDS : tupStr o_WORDS ["both", "gives", "pick", "or", "nothing", "any", "no", "split", "call", "take", "open", "use", "never", "give", "box", "pair", "fun", "offer", "left", "right", "unit", "rest", "first", "second"] = true)
    (zabs : PySem.W.nsIn K mainGlobals "abs" = some none)
    (zall : PySem.W.nsIn K mainGlobals "all" = some none)
    (zbool : PySem.W.nsIn K mainGlobals "bool" = some none)
    (zdict : PySem.W.nsIn K mainGlobals "dict" = some none)
    (zint : PySem.W.nsIn K mainGlobals "int" = some none)
    (zisinstance : PySem.W.nsIn K mainGlobals "isinstance" = some none)
    (zlen : PySem.W.nsIn K mainGlobals "len" = some none)
    (zlist : PySem.W.nsIn K mainGlobals "list" = some none)
    (zrange : PySem.W.nsIn K mainGlobals "range" = some none)
    (zrepr : PySem.W.nsIn K mainGlobals "repr" = some none)
    (zset : PySem.W.nsIn K mainGlobals "set" = some none)
    (zstr : PySem.W.nsIn K mainGlobals "str" = some none)
    (zsum : PySem.W.nsIn K mainGlobals "sum" = some none)
    (ztuple : PySem.W.nsIn K mainGlobals "tuple" = some none) :
    LawAtN l q w K CX0 5 63 "script" mg fa := by
  cases hfa.symm.trans (PySem.W.mg_of X G alaw)
  letI : LT K := ⟨[]⟩
  have F_is_integer := fun_mk (st := s_is_integer) lis_integer cis_integer kis_integer
  have b_is_integer := F_is_integer.binds (ps := ["value"]) fun _ _ _ _ _ _ us hl => match us, hl with | [_], _ => rfl
  have F_is_within := fun_mk (st := s_is_within) lis_within cis_within kis_within
  have b_is_within := F_is_within.binds (ps := ["value", "least", "most"]) fun _ _ _ _ _ _ us hl => match us, hl with | [_, _, _], _ => rfl
  have F_is_row := fun_mk (st := s_is_row) lis_row cis_row kis_row
  have b_is_row := F_is_row.binds (ps := ["value"]) fun _ _ _ _ _ _ us hl => match us, hl with | [_], _ => rfl
  have F_is_name := fun_mk (st := s_is_name) lis_name cis_name kis_name
  have b_is_name := F_is_name.binds (ps := ["value"]) fun _ _ _ _ _ _ us hl => match us, hl with | [_], _ => rfl
  have F_are_names := fun_mk (st := s_are_names) lare_names care_names kare_names
  have b_are_names := F_are_names.binds (ps := ["value"]) fun _ _ _ _ _ _ us hl => match us, hl with | [_], _ => rfl
  have F_names_in_order := fun_mk (st := s_names_in_order) lnames_in_order cnames_in_order knames_in_order
  have b_names_in_order := F_names_in_order.binds (ps := ["taken", "many"]) fun _ _ _ _ _ _ us hl => match us, hl with | [_, _], _ => rfl
  have F_fixed := fun_mk (st := s_fixed) lfixed cfixed kfixed
  have b_fixed := F_fixed.binds (ps := ["value"]) fun _ _ _ _ _ _ us hl => match us, hl with | [_], _ => rfl
  have F_statement_in := fun_mk (st := s_statement_in) lstatement_in cstatement_in kstatement_in
  have b_statement_in := F_statement_in.binds (ps := ["value"]) fun _ _ _ _ _ _ us hl => match us, hl with | [_], _ => rfl
  have F_is_statement := fun_mk (st := s_is_statement) lis_statement cis_statement kis_statement
  have b_is_statement := F_is_statement.binds (ps := ["value"]) fun _ _ _ _ _ _ us hl => match us, hl with | [_], _ => rfl
  have F__law_pen := fun_mk (st := s__law_pen) l_law_pen c_law_pen k_law_pen
  have b__law_pen := F__law_pen.binds (ps := ["script"]) fun _ _ _ _ _ _ us hl => match us, hl with | [_], _ => rfl
  have F__law_draw := fun_mk (st := s__law_draw) l_law_draw c_law_draw k_law_draw
  have b__law_draw := F__law_draw.binds (ps := ["pen", "many"]) fun _ _ _ _ _ _ us hl => match us, hl with | [_, _], _ => rfl
  have F__law_pick := fun_mk (st := s__law_pick) l_law_pick c_law_pick k_law_pick
  have b__law_pick := F__law_pick.binds (ps := ["pen", "some"]) fun _ _ _ _ _ _ us hl => match us, hl with | [_, _], _ => rfl
  have F__law_words := fun_mk (st := s__law_words) l_law_words c_law_words k_law_words
  have b__law_words := F__law_words.binds (ps := []) fun _ _ _ _ _ _ us hl => match us, hl with | [], _ => rfl
  have F__law_is_name := fun_mk (st := s__law_is_name) l_law_is_name c_law_is_name k_law_is_name
  have b__law_is_name := F__law_is_name.binds (ps := ["value"]) fun _ _ _ _ _ _ us hl => match us, hl with | [_], _ => rfl
  have F__law_text_drawn := fun_mk (st := s__law_text_drawn) l_law_text_drawn c_law_text_drawn k_law_text_drawn
  have b__law_text_drawn := F__law_text_drawn.binds (ps := ["pen"]) fun _ _ _ _ _ _ us hl => match us, hl with | [_], _ => rfl
  have F__law_order := fun_mk (st := s__law_order) l_law_order c_law_order k_law_order
  have b__law_order := F__law_order.binds (ps := ["taken", "many"]) fun _ _ _ _ _ _ us hl => match us, hl with | [_, _], _ => rfl
  have F__law_kinds_right := fun_mk (st := s__law_kinds_right) l_law_kinds_right c_law_kinds_right k_law_kinds_right
  have b__law_kinds_right := F__law_kinds_right.binds (ps := ["pen"]) fun _ _ _ _ _ _ us hl => match us, hl with | [_], _ => rfl
  have F_law := fun_mk (st := s_law) llaw claw klaw
  have b_law := F_law.binds (ps := ["script"]) fun _ _ _ _ _ _ us hl => match us, hl with | [_], _ => rfl
  exact ⟨_, [], sp_law K, fun t ht => (nomatch ht), fun s u => .of_eq rfl, fun H a ns hl h1 h2 hS => ⟨a, ns, fun _ => none, rfl, hS, hl, ⟨(fun _ _ z => nomatch z), (fun _ z => nomatch z), (fun _ _ z => nomatch z), ⟨fun q hq => (nomatch hq), fun b ps e => (by obtain ⟨t, ht, _⟩ := h2 b ps e; cases ht)⟩⟩, fun _ => rfl⟩, fun base _ _ hTB => ok_law (Fs.mk (_) (_) (F_is_integer) (PySem.W.mg_of X G ais_integer) (b_is_integer) (_) (_) (F_is_within) (PySem.W.mg_of X G ais_within) (b_is_within) (_) (_) (F_is_row) (PySem.W.mg_of X G ais_row) (b_is_row) (_) (_) (F_is_name) (PySem.W.mg_of X G ais_name) (b_is_name) (_) (_) (F_are_names) (PySem.W.mg_of X G aare_names) (b_are_names) (_) (_) (F_names_in_order) (PySem.W.mg_of X G anames_in_order) (b_names_in_order) (_) (_) (F_fixed) (PySem.W.mg_of X G afixed) (b_fixed) (_) (_) (F_statement_in) (PySem.W.mg_of X G astatement_in) (b_statement_in) (_) (_) (F_is_statement) (PySem.W.mg_of X G ais_statement) (b_is_statement) (_) (_) (F__law_pen) (PySem.W.mg_of X G a_law_pen) (b__law_pen) (_) (_) (F__law_draw) (PySem.W.mg_of X G a_law_draw) (b__law_draw) (_) (_) (F__law_pick) (PySem.W.mg_of X G a_law_pick) (b__law_pick) (_) (_) (F__law_words) (PySem.W.mg_of X G a_law_words) (b__law_words) (_) (_) (F__law_is_name) (PySem.W.mg_of X G a_law_is_name) (b__law_is_name) (_) (_) (F__law_text_drawn) (PySem.W.mg_of X G a_law_text_drawn) (b__law_text_drawn) (_) (_) (F__law_order) (PySem.W.mg_of X G a_law_order) (b__law_order) (_) (_) (F__law_kinds_right) (PySem.W.mg_of X G a_law_kinds_right) (b__law_kinds_right) (_) (_) (F_law) (PySem.W.mg_of X G alaw) (b_law) (kb_are_names_value F_are_names) (kb_is_integer_value F_is_integer) (kb_is_name_value F_is_name) (kb_is_row_value F_is_row) (kb_is_within_most_least_value F_is_within) (kb_names_in_order_many_taken F_names_in_order) (a_BARE) (PySem.W.mg_of X G gBARE) (KTup.of lBARE tBARE) (a_JOINS) (PySem.W.mg_of X G gJOINS) (KTup.of lJOINS tJOINS) (⟨_, PySem.W.mg_of X G gLETTERS⟩) (⟨_, PySem.W.mg_of X G gMOST_PARTS⟩) (⟨_, PySem.W.mg_of X G gMOST_SIGNS⟩) (a_WORDS) (PySem.W.mg_of X G gWORDS) (KTup.of lWORDS tWORDS) (PySem.W.mg_none_of X G zabs) (PySem.W.mg_none_of X G zall) (PySem.W.mg_none_of X G zbool) (PySem.W.mg_none_of X G zdict) (PySem.W.mg_none_of X G zint) (PySem.W.mg_none_of X G zisinstance) (PySem.W.mg_none_of X G zlen) (PySem.W.mg_none_of X G zlist) (PySem.W.mg_none_of X G zrange) (PySem.W.mg_none_of X G zrepr) (PySem.W.mg_none_of X G zset) (PySem.W.mg_none_of X G zstr) (PySem.W.mg_none_of X G zsum) (PySem.W.mg_none_of X G ztuple))⟩
theorem walk {l : PySem.W.OpenLaw} {q : Program} {loose : List Str} {XP : (Str → Option Value) → Heap → Prop} {YP : World → Heap → Prop} {d : DefRec} {K : Params → PySem.W.Frag} (hn : l.most = some 63) (hdf : d.params.defaults = []) (hY : ∀ (w : World) (h : Heap), YP w h → (K w.params).In h)
    (F : ∀ (w : World) (mg : Str → Option Value) (fa : Addr) (h : Heap), (K w.params).In h → h.Ns mainGlobals mg → mg d.name = some (.ref fa) → LawAtN l q w (K w.params) CX0 5 63 "script" mg fa) :
    PySem.W.WalkO q loose XP YP l.row.toRowW d [] (fun f vs => PySem.call f vs) :=
  walk_ofGN (n := 63) (k := 5) (x := "script") hn (by decide) hdf ⟨rfl, by decide, by decide⟩ hY F
end K01
open PySem PySem.W PyProof.Rows in
set_option maxRecDepth 100000 in
set_option maxHeartbeats 0 in
theorem PySem.Challenge.cw_paidatmost_k01_names_and_small_questions_holds : PySem.Challenge.rw_paidatmost_k01_names_and_small_questions.Holds := by
  w_on; o_law; k_head; (case hw => w_witness2)
  k_fill
  refine K01.walk (l := PySem.Challenge.rw_paidatmost_k01_names_and_small_questions) rfl rfl (fun w h Y => PySem.W.kIn_of Y) ?F
  case F =>
    intro w mg fa h KX G hmg
    refine' K01.all_mk KX G hmg ?ais_integer ?lis_integer ?cis_integer ?kis_integer ?ais_within ?lis_within ?cis_within ?kis_within ?ais_row ?lis_row ?cis_row ?kis_row ?ais_name ?lis_name ?cis_name ?kis_name ?aare_names ?lare_names ?care_names ?kare_names ?anames_in_order ?lnames_in_order ?cnames_in_order ?knames_in_order ?afixed ?lfixed ?cfixed ?kfixed ?astatement_in ?lstatement_in ?cstatement_in ?kstatement_in ?ais_statement ?lis_statement ?cis_statement ?kis_statement ?a_law_pen ?l_law_pen ?c_law_pen ?k_law_pen ?a_law_draw ?l_law_draw ?c_law_draw ?k_law_draw ?a_law_pick ?l_law_pick ?c_law_pick ?k_law_pick ?a_law_words ?l_law_words ?c_law_words ?k_law_words ?a_law_is_name ?l_law_is_name ?c_law_is_name ?k_law_is_name ?a_law_text_drawn ?l_law_text_drawn ?c_law_text_drawn ?k_law_text_drawn ?a_law_order ?l_law_order ?c_law_order ?k_law_order ?a_law_kinds_right ?l_law_kinds_right ?c_law_kinds_right ?k_law_kinds_right ?alaw ?llaw ?claw ?klaw ?gBARE ?lBARE ?tBARE ?gJOINS ?lJOINS ?tJOINS ?gLETTERS ?gMOST_PARTS ?gMOST_SIGNS ?gWORDS ?lWORDS ?tWORDS ?zabs ?zall ?zbool ?zdict ?zint ?zisinstance ?zlen ?zlist ?zrange ?zrepr ?zset ?zstr ?zsum ?ztuple
    (case ais_integer => k_is)
    (case lis_integer => k_is)
    (case cis_integer => k_is)
    (case kis_integer => k_is)
    (case ais_within => k_is)
    (case lis_within => k_is)
    (case cis_within => k_is)
    (case kis_within => k_is)
    (case ais_row => k_is)
    (case lis_row => k_is)
    (case cis_row => k_is)
    (case kis_row => k_is)
    (case ais_name => k_is)
    (case lis_name => k_is)
    (case cis_name => k_is)
    (case kis_name => k_is)
    (case aare_names => k_is)
    (case lare_names => k_is)
    (case care_names => k_is)
    (case kare_names => k_is)
    (case anames_in_order => k_is)
    (case lnames_in_order => k_is)
    (case cnames_in_order => k_is)
    (case knames_in_order => k_is)
    (case afixed => k_is)
    (case lfixed => k_is)
    (case cfixed => k_is)
    (case kfixed => k_is)
    (case astatement_in => k_is)
    (case lstatement_in => k_is)
    (case cstatement_in => k_is)
    (case kstatement_in => k_is)
    (case ais_statement => k_is)
    (case lis_statement => k_is)
    (case cis_statement => k_is)
    (case kis_statement => k_is)
    (case a_law_pen => k_is)
    (case l_law_pen => k_is)
    (case c_law_pen => k_is)
    (case k_law_pen => k_is)
    (case a_law_draw => k_is)
    (case l_law_draw => k_is)
    (case c_law_draw => k_is)
    (case k_law_draw => k_is)
    (case a_law_pick => k_is)
    (case l_law_pick => k_is)
    (case c_law_pick => k_is)
    (case k_law_pick => k_is)
    (case a_law_words => k_is)
    (case l_law_words => k_is)
    (case c_law_words => k_is)
    (case k_law_words => k_is)
    (case a_law_is_name => k_is)
    (case l_law_is_name => k_is)
    (case c_law_is_name => k_is)
    (case k_law_is_name => k_is)
    (case a_law_text_drawn => k_is)
    (case l_law_text_drawn => k_is)
    (case c_law_text_drawn => k_is)
    (case k_law_text_drawn => k_is)
    (case a_law_order => k_is)
    (case l_law_order => k_is)
    (case c_law_order => k_is)
    (case k_law_order => k_is)
    (case a_law_kinds_right => k_is)
    (case l_law_kinds_right => k_is)
    (case c_law_kinds_right => k_is)
    (case k_law_kinds_right => k_is)
    (case alaw => k_is)
    (case llaw => k_is)
    (case claw => k_is)
    (case klaw => k_is)
    (case gBARE => k_is)
    (case lBARE => k_is)
    (case tBARE => rfl)
    (case gJOINS => k_is)
    (case lJOINS => k_is)
    (case tJOINS => rfl)
    (case gLETTERS => k_is)
    (case gMOST_PARTS => k_is)
    (case gMOST_SIGNS => k_is)
    (case gWORDS => k_is)
    (case lWORDS => k_is)
    (case tWORDS => rfl)
    (case zabs => k_is)
    (case zall => k_is)
    (case zbool => k_is)
    (case zdict => k_is)
    (case zint => k_is)
    (case zisinstance => k_is)
    (case zlen => k_is)
    (case zlist => k_is)
    (case zrange => k_is)
    (case zrepr => k_is)
    (case zset => k_is)
    (case zstr => k_is)
    (case zsum => k_is)
    (case ztuple => k_is)
