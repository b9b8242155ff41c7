import PyProof.Rows.All
import Wide.All
import OpenK.AllK
import Wide.FinOn
import HandS.ForMost
import HandS.IsInst
import HandS.DictComp
import HandS.Style
import HandS.Evl
import HandS.Conv
import HandS.Deep
import HandS.Flow
import HandS.RaiseMore
import HandS.Wide
import PyProof.ListStr
import HandS.Ends
import HandS.Strs
import PyProof.SumAny
import PySem.Challenge.RW_paidatmost_k01_names_and_small_questions
set_option Elab.async false
set_option linter.all false
set_option maxRecDepth 100000
set_option maxHeartbeats 4000000
namespace DL
open PySem L2
open Evl (Ex)

/-! ## data -/
inductive D where
  | non | bl (b : Bool) | int (i : Int) | str (s : Str)
  | lst (xs : List D) | tup (xs : List D)
  | dic (kvs : List (Key × D))
  | ins (C : Addr) (fs : List (Str × D))
  | val (v : V)

mutual
def D.py : D → PyData
  | .non => .none
  | .bl b => .bool b
  | .int i => .int i
  | .str s => .str s
  | .lst xs => .list (D.pys xs)
  | .tup xs => .tuple (D.pys xs)
  | .dic _ => .none
  | .ins _ _ => .none
  | .val _ => .none
def D.pys : List D → List PyData
  | [] => []
  | x :: xs => D.py x :: D.pys xs
end
mutual
/-- plain: no dict, no instance, no opaque value -/
def D.pl : D → Bool
  | .non => true
  | .bl _ => true
  | .int _ => true
  | .str _ => true
  | .lst xs => D.pls xs
  | .tup xs => D.pls xs
  | .dic _ => false
  | .ins _ _ => false
  | .val _ => false
def D.pls : List D → Bool
  | [] => true
  | x :: xs => D.pl x && D.pls xs
end
theorem D.pys_map : ∀ xs : List D, D.pys xs = xs.map D.py
  | [] => by simp [D.pys]
  | x :: xs => by simp [D.pys, D.pys_map xs]
theorem D.pls_all : ∀ xs : List D, D.pls xs = xs.all D.pl
  | [] => by simp [D.pls]
  | x :: xs => by simp [D.pls, D.pls_all xs]

mutual
inductive Rp (K : PySem.W.Frag) (F : Hp) : V → D → Prop
  | non : Rp K F .non .non
  | bl (b : Bool) : Rp K F (.bl b) (.bl b)
  | int (i : Int) : Rp K F (.int i) (.int i)
  | str (s : Str) : Rp K F (.str s) (.str s)
  | lst {a : Addr} {xs : List V} {ds : List D} : F a = some (.lst xs) → Rps K F xs ds → Rp K F (.ref a) (.lst ds)
  | tup {a : Addr} {xs : List V} {ds : List D} : SqT K F a xs → Rps K F xs ds → Rp K F (.ref a) (.tup ds)
  | dic {a : Addr} {kvs : List (Key × V)} {kds : List (Key × D)} : F a = some (.dK kvs) → kvs.map (·.1) = kds.map (·.1) → Rps K F (kvs.map (·.2)) (kds.map (·.2)) → Rp K F (.ref a) (.dic kds)
  | ins {a C dx : Addr} {fs : List (Str × V)} {fds : List (Str × D)} : F a = some (.ins C dx fs) → fs.map (·.1) = fds.map (·.1) → Rps K F (fs.map (·.2)) (fds.map (·.2)) → Rp K F (.ref a) (.ins C fds)
  | val (v : V) : Rp K F v (.val v)
inductive Rps (K : PySem.W.Frag) (F : Hp) : List V → List D → Prop
  | nil : Rps K F [] []
  | cons {v : V} {vs : List V} {d : D} {ds : List D} : Rp K F v d → Rps K F vs ds → Rps K F (v :: vs) (d :: ds)
end
section
variable {K : PySem.W.Frag} {F F' : Hp}
mutual
theorem Rp.mono (e : Ex F F') : ∀ {v : V} {d : D}, Rp K F v d → Rp K F' v d
  | _, _, .non => .non
  | _, _, .bl b => .bl b
  | _, _, .int i => .int i
  | _, _, .str s => .str s
  | _, _, .lst h r => .lst (e _ _ h) (Rps.mono e r)
  | _, _, .tup h r => .tup (Evl.ex_t e h) (Rps.mono e r)
  | _, _, .dic h k r => .dic (e _ _ h) k (Rps.mono e r)
  | _, _, .ins h k r => .ins (e _ _ h) k (Rps.mono e r)
  | _, _, .val v => .val v
theorem Rps.mono (e : Ex F F') : ∀ {vs : List V} {ds : List D}, Rps K F vs ds → Rps K F' vs ds
  | _, _, .nil => .nil
  | _, _, .cons h r => .cons (Rp.mono e h) (Rps.mono e r)
end
mutual
theorem Rp.dp : ∀ {v : V} {d : D}, Rp K F v d → d.pl = true → Dp K F v d.py
  | _, _, .non, _ => by simp only [D.py]; exact .non
  | _, _, .bl b, _ => by simp only [D.py]; exact .bl b
  | _, _, .int i, _ => by simp only [D.py]; exact .int i
  | _, _, .str s, _ => by simp only [D.py]; exact .str s
  | _, _, .lst h r, q => by simp only [D.py]; simp only [D.pl] at q; exact .lst (.of h) (Rps.dp r q)
  | _, _, .tup h r, q => by simp only [D.py]; simp only [D.pl] at q; exact .tup h (Rps.dp r q)
  | _, _, .dic _ _ _, q => by simp [D.pl] at q
  | _, _, .ins _ _ _, q => by simp [D.pl] at q
  | _, _, .val _, q => by simp [D.pl] at q
theorem Rps.dp : ∀ {vs : List V} {ds : List D}, Rps K F vs ds → D.pls ds = true → DpAll K F vs (D.pys ds)
  | _, _, .nil, _ => by simp only [D.pys]; exact .nil
  | _, _, .cons h r, q => by
    simp only [D.pls, Bool.and_eq_true] at q
    simp only [D.pys]
    exact .cons (Rp.dp h q.1) (Rps.dp r q.2)
end
theorem Rps.length : ∀ {vs : List V} {ds : List D}, Rps K F vs ds → vs.length = ds.length
  | _, _, .nil => rfl
  | _, _, .cons _ r => by simp [Rps.length r]
theorem Rps.get : ∀ {vs : List V} {ds : List D} {i : Nat} {d : D}, Rps K F vs ds → ds[i]? = some d → ∃ v, vs[i]? = some v ∧ Rp K F v d
  | _, _, _, _, .nil, e => by simp at e
  | _, _, 0, _, .cons h _, e => by simp at e; subst e; exact ⟨_, by simp, h⟩
  | _, _, i + 1, d, .cons _ r, e => by
    obtain ⟨v, h1, h2⟩ := Rps.get (i := i) (d := d) r (by simpa using e)
    exact ⟨v, by simpa using h1, h2⟩
theorem Rps.getV : ∀ {vs : List V} {ds : List D} {i : Nat} {v : V}, Rps K F vs ds → vs[i]? = some v → ∃ d, ds[i]? = some d ∧ Rp K F v d
  | _, _, _, _, .nil, e => by simp at e
  | _, _, 0, _, .cons h _, e => by simp at e; subst e; exact ⟨_, by simp, h⟩
  | _, _, i + 1, d, .cons _ r, e => by
    obtain ⟨v, h1, h2⟩ := Rps.getV (i := i) (v := d) r (by simpa using e)
    exact ⟨v, by simpa using h1, h2⟩
theorem Rps.append : ∀ {vs ws : List V} {ds es : List D}, Rps K F vs ds → Rps K F ws es → Rps K F (vs ++ ws) (ds ++ es)
  | _, _, _, _, .nil, q => q
  | _, _, _, _, .cons h r, q => .cons h (Rps.append r q)
theorem Rps.one {v : V} {d : D} (h : Rp K F v d) : Rps K F [v] [d] := .cons h .nil
theorem Rps.snoc {vs : List V} {v : V} {ds : List D} {d : D} (r : Rps K F vs ds) (h : Rp K F v d) : Rps K F (vs ++ [v]) (ds ++ [d]) := r.append (.one h)
theorem Rps.drop : ∀ {vs : List V} {ds : List D} (n : Nat), Rps K F vs ds → Rps K F (vs.drop n) (ds.drop n)
  | _, _, 0, r => r
  | _, _, _ + 1, .nil => .nil
  | _, _, n + 1, .cons _ r => Rps.drop n r
theorem Rps.take : ∀ {vs : List V} {ds : List D} (n : Nat), Rps K F vs ds → Rps K F (vs.take n) (ds.take n)
  | _, _, 0, _ => .nil
  | _, _, _ + 1, .nil => .nil
  | _, _, n + 1, .cons h r => .cons h (Rps.take n r)
theorem Rps.dropLast : ∀ {vs : List V} {ds : List D}, Rps K F vs ds → Rps K F vs.dropLast ds.dropLast
  | _, _, .nil => .nil
  | _, _, .cons h .nil => .nil
  | _, _, .cons h (.cons h2 r) => by
    show Rps K F (_ :: List.dropLast _) (_ :: List.dropLast _)
    exact .cons h (Rps.dropLast (.cons h2 r))
theorem Rps.eraseIdx : ∀ {vs : List V} {ds : List D} (i : Nat), Rps K F vs ds → Rps K F (vs.eraseIdx i) (ds.eraseIdx i)
  | _, _, _, .nil => .nil
  | _, _, 0, .cons _ r => r
  | _, _, i + 1, .cons h r => .cons h (Rps.eraseIdx i r)
theorem Rps.set {v : V} {d : D} (h : Rp K F v d) : ∀ {vs : List V} {ds : List D} (i : Nat), Rps K F vs ds → Rps K F (vs.set i v) (ds.set i d)
  | _, _, _, .nil => .nil
  | _, _, 0, .cons _ r => .cons h r
  | _, _, i + 1, .cons q r => .cons q (Rps.set h i r)
theorem Rps.reverse : ∀ {vs : List V} {ds : List D}, Rps K F vs ds → Rps K F vs.reverse ds.reverse
  | _, _, .nil => .nil
  | _, _, .cons h r => by
    rw [List.reverse_cons, List.reverse_cons]
    exact (Rps.reverse r).snoc h
theorem Rps.strs : ∀ (ss : List Str), Rps K F (ss.map V.str) (ss.map D.str)
  | [] => .nil
  | s :: ss => .cons (.str s) (Rps.strs ss)
theorem Rps.ints : ∀ (ss : List Int), Rps K F (ss.map V.int) (ss.map D.int)
  | [] => .nil
  | s :: ss => .cons (.int s) (Rps.ints ss)
theorem Rps.bls : ∀ (ss : List Bool), Rps K F (ss.map V.bl) (ss.map D.bl)
  | [] => .nil
  | s :: ss => .cons (.bl s) (Rps.bls ss)
theorem Rps.strs_inv : ∀ {ss : List Str} {vs : List V}, Rps K F vs (ss.map D.str) → vs = ss.map V.str
  | [], _, .nil => rfl
  | s :: ss, _, .cons (.str _) r => by rw [Rps.strs_inv r]; rfl
theorem Rps.ints_inv : ∀ {ss : List Int} {vs : List V}, Rps K F vs (ss.map D.int) → vs = ss.map V.int
  | [], _, .nil => rfl
  | s :: ss, _, .cons (.int _) r => by rw [Rps.ints_inv r]; rfl
theorem Rps.bls_inv : ∀ {ss : List Bool} {vs : List V}, Rps K F vs (ss.map D.bl) → vs = ss.map V.bl
  | [], _, .nil => rfl
  | s :: ss, _, .cons (.bl _) r => by rw [Rps.bls_inv r]; rfl
end
end DL
namespace DL
open PySem L2
open Evl (Ex)

/-! ## worlds: F what never changes any more, H all, T a bound of the pen's turns -/
structure Wd where
  F : Hp
  H : Hp
  T : Nat
def Pen (K : PySem.W.Frag) (F H : Hp) (a : Addr) (T : Nat) : Prop :=
  ∃ (c : Addr) (t r : Int) (cs : List Int), H a = some (.lst [.ref c, .int t, .int r]) ∧ F c = some (.lst (cs.map V.int)) ∧ cs.length ≤ 63 ∧ 0 ≤ t ∧ t ≤ T ∧ 0 ≤ r
structure Ok (K : PySem.W.Frag) (p : Option Addr) (S : Wd) : Prop where
  sub : Ex S.F S.H
  pen : ∀ a, p = some a → Pen K S.F S.H a S.T ∧ S.F a = none
structure Gr (K : PySem.W.Frag) (p : Option Addr) (S S' : Wd) : Prop where
  ff : Ex S.F S'.F
  hh : ∀ a o, S.H a = some o → some a ≠ p → S'.H a = some o
  al : ∀ a, S.H a ≠ none → S'.H a ≠ none
  old : ∀ a, S.H a ≠ none → S'.F a = S.F a
  ok : Ok K p S'
def hide (p : Option Addr) (H : Hp) : Hp := fun a => if some a = p then none else H a
section
variable {K : PySem.W.Frag} {p : Option Addr} {S S1 S2 S3 : Wd}
theorem hide_ne {H : Hp} {a : Addr} (h : some a ≠ p) : hide p H a = H a := if_neg h
theorem hide_ex {H : Hp} : Ex (hide p H) H := fun a o h => by
  unfold hide at h
  split at h
  · cases h
  · exact h
theorem hide_none {H : Hp} : hide none H = H := by
  funext a
  unfold hide
  rw [if_neg (by intro z; cases z)]
theorem Gr.refl (o : Ok K p S) : Gr K p S S := ⟨fun _ _ h => h, fun _ _ h _ => h, fun _ h => h, fun _ _ => rfl, o⟩
theorem Gr.trans (a : Gr K p S S1) (b : Gr K p S1 S2) : Gr K p S S2 :=
  ⟨a.ff.trans b.ff, fun x o h q => b.hh x o (a.hh x o h q) q, fun x h => b.al x (a.al x h), fun x h => (b.old x (a.al x h)).trans (a.old x h), b.ok⟩
theorem Gr.hid (g : Gr K p S S1) : Ex (hide p S.H) (hide p S1.H) := fun a o h => by
  unfold hide at h ⊢
  split at h
  · cases h
  · rename_i q
    rw [if_neg q]
    exact g.hh a o h q
theorem Ok.subh (o : Ok K p S) : Ex S.F (hide p S.H) := fun a x h => by
  have q : some a ≠ p := fun z => by
    have e := (o.pen a z.symm).2
    rw [h] at e
    cases e
  rw [hide_ne q]
  exact o.sub a x h
/-- a new object becomes part of what is fixed -/
theorem Gr.new {q : Addr} {o : HO} (ok : Ok K p S) (h : S.H q = none) : Gr K p S ⟨upd S.F q o, upd S.H q o, S.T⟩ := by
  have hF : S.F q = none := by
    cases e : S.F q with
    | none => rfl
    | some x => rw [ok.sub q x e] at h; cases h
  refine ⟨Ex.new hF, fun a x e _ => ?_, fun a e => ?_, fun a e => ?_, ⟨fun a x e => ?_, fun a e => ?_⟩⟩ <;> dsimp only at *
  · rw [upd_ne (ne_of_none e h)]; exact e
  · intro z
    by_cases ha : a = q
    · subst ha; exact e h
    · rw [upd_ne ha] at z; exact e z
  · by_cases ha : a = q
    · subst ha; exact absurd h e
    · exact upd_ne ha
  · by_cases ha : a = q
    · subst ha
      rw [upd_same] at e ⊢
      exact e
    · rw [upd_ne ha] at e ⊢
      exact ok.sub a x e
  · obtain ⟨⟨c, t, r, cs, h1, h2, h3⟩, h4⟩ := ok.pen a e
    have ha : a ≠ q := ne_of_none h1 h
    refine ⟨⟨c, t, r, cs, ?_, ?_, h3⟩, ?_⟩
    · show upd S.H q o a = _
      rw [upd_ne ha]; exact h1
    · exact Ex.new hF _ _ h2
    · show upd S.F q o a = none
      rw [upd_ne ha]; exact h4
/-- a new object that may still change -/
theorem Gr.newO {q : Addr} {o : HO} (ok : Ok K p S) (h : S.H q = none) : Gr K p S ⟨S.F, upd S.H q o, S.T⟩ := by
  refine ⟨fun _ _ h => h, fun a x e _ => ?_, fun a e => ?_, fun a e => rfl, ⟨fun a x e => ?_, fun a e => ?_⟩⟩ <;> dsimp only at *
  · rw [upd_ne (ne_of_none e h)]; exact e
  · intro z
    by_cases ha : a = q
    · subst ha; exact e h
    · rw [upd_ne ha] at z; exact e z
  · have e2 := ok.sub a x e
    rw [upd_ne (ne_of_none e2 h)]
    exact e2
  · obtain ⟨⟨c, t, r, cs, h1, h2, h3⟩, h4⟩ := ok.pen a e
    refine ⟨⟨c, t, r, cs, ?_, h2, h3⟩, h4⟩
    show upd S.H q o a = _
    rw [upd_ne (ne_of_none h1 h)]; exact h1
theorem Gr.fresh (g : Gr K p S S1) {a : Addr} (h : S1.H a = none) : S.H a = none := by
  cases e : S.H a with
  | none => rfl
  | some x => exact absurd h (g.al a (by rw [e]; simp))
theorem Ok.freshF (o : Ok K p S) {a : Addr} (h : S.H a = none) : S.F a = none := by
  cases e : S.F a with
  | none => rfl
  | some x => rw [o.sub a x e] at h; cases h
/-- a growth without a pen is one with a pen -/
theorem Gr.up {S' : Wd} (g : Gr K none S S') (o : Ok K p S) (hT : S'.T = S.T) : Gr K p S S' := by
  refine ⟨g.ff, fun a x h _ => g.hh a x h (by intro z; cases z), g.al, g.old, ⟨g.ok.sub, fun a e => ?_⟩⟩
  obtain ⟨⟨c, t, r, cs, h1, h2, h3⟩, h4⟩ := o.pen a e
  refine ⟨⟨c, t, r, cs, g.hh _ _ h1 (by intro z; cases z), g.ff _ _ h2, by rw [hT]; exact h3⟩, ?_⟩
  rw [g.old a (by rw [h1]; simp)]
  exact h4

/-! ## what evaluates to what -/
/-- some lasting data of which P holds, at most n draws -/
def EvN (K : PySem.W.Frag) (p : Option Addr) (te : TE) (σ : L2.St) (S : Wd) (n : Nat) (P : D → Prop) : Prop := ∀ S1, Gr K p S S1 → S1.T + n ≤ 1000000000 → ∀ Q : VK, (∀ v d S2, Gr K p S1 S2 → S2.T ≤ S1.T + n → Rp K S2.F v d → P d → Q v S2.H) → te σ S1.H Q
/-- this lasting data, no draw -/
def EvD (K : PySem.W.Frag) (p : Option Addr) (te : TE) (σ : L2.St) (S : Wd) (d : D) : Prop := ∀ S1, Gr K p S S1 → ∀ Q : VK, (∀ v S2, Gr K p S1 S2 → S2.T ≤ S1.T → Rp K S2.F v d → Q v S2.H) → te σ S1.H Q
/-- data as it can be read now -/
def EvH (K : PySem.W.Frag) (p : Option Addr) (te : TE) (σ : L2.St) (S : Wd) (d : D) : Prop := ∀ S1, Gr K p S S1 → ∀ Q : VK, (∀ v S2, Gr K p S1 S2 → S2.T ≤ S1.T → Rp K (hide p S2.H) v d → Q v S2.H) → te σ S1.H Q
/-- this very value -/
def EvV (K : PySem.W.Frag) (p : Option Addr) (te : TE) (σ : L2.St) (S : Wd) (v : V) : Prop := ∀ S1, Gr K p S S1 → ∀ Q : VK, (∀ S2, Gr K p S1 S2 → S2.T ≤ S1.T → Q v S2.H) → te σ S1.H Q
def EvT (K : PySem.W.Frag) (p : Option Addr) (tt : TT) (σ : L2.St) (S : Wd) (b : Bool) : Prop := ∀ S1, Gr K p S S1 → ∀ Q : Bool → Hp → Prop, (∀ S2, Gr K p S1 S2 → S2.T ≤ S1.T → Q b S2.H) → tt σ S1.H Q
def EvA (K : PySem.W.Frag) (p : Option Addr) (ta : TA) (σ : L2.St) (S : Wd) (ds : List D) : Prop := ∀ S1, Gr K p S S1 → ∀ Q : List V → Hp → Prop, (∀ vs S2, Gr K p S1 S2 → S2.T ≤ S1.T → Rps K S2.F vs ds → Q vs S2.H) → ta σ S1.H Q
/-- arguments that are read now -/
def EvAH (K : PySem.W.Frag) (p : Option Addr) (ta : TA) (σ : L2.St) (S : Wd) (ds : List D) : Prop := ∀ S1, Gr K p S S1 → ∀ Q : List V → Hp → Prop, (∀ vs S2, Gr K p S1 S2 → S2.T ≤ S1.T → Rps K (hide p S2.H) vs ds → Q vs S2.H) → ta σ S1.H Q
section
variable {σ : L2.St} {te ta tb tc : TE} {d d1 d2 : D} {v : V} {n : Nat} {P : D → Prop}
theorem EvN.mono (g : Gr K p S S1) (h : EvN K p te σ S n P) : EvN K p te σ S1 n P := fun S2 g2 => h S2 (g.trans g2)
theorem EvD.mono (g : Gr K p S S1) (h : EvD K p te σ S d) : EvD K p te σ S1 d := fun S2 g2 => h S2 (g.trans g2)
theorem EvH.mono (g : Gr K p S S1) (h : EvH K p te σ S d) : EvH K p te σ S1 d := fun S2 g2 => h S2 (g.trans g2)
theorem EvT.mono {tt : TT} {b : Bool} (g : Gr K p S S1) (h : EvT K p tt σ S b) : EvT K p tt σ S1 b := fun S2 g2 => h S2 (g.trans g2)
theorem EvD.toN (h : EvD K p te σ S d) : EvN K p te σ S 0 (fun e => e = d) := fun S1 g _ Q q => h S1 g Q fun v S2 g2 t r => q v d S2 g2 t r rfl
theorem EvN.le {m : Nat} {P' : D → Prop} (h : EvN K p te σ S n P) (hn : n ≤ m) (hP : ∀ d, P d → P' d) : EvN K p te σ S m P' := fun S1 g b Q q => h S1 g (by omega) Q fun v d S2 g2 t r k => q v d S2 g2 (by omega) r (hP d k)
theorem EvD.h (h : EvD K p te σ S d) : EvH K p te σ S d := fun S1 g Q q => h S1 g Q fun v S2 g2 t r => q v S2 g2 t (r.mono g2.ok.subh)
theorem EvD.is (h : EvD K p te σ S d1) (e : d1 = d2) : EvD K p te σ S d2 := e ▸ h
theorem EvH.is (h : EvH K p te σ S d1) (e : d1 = d2) : EvH K p te σ S d2 := e ▸ h
theorem EvT.is {tt : TT} {a b : Bool} (h : EvT K p tt σ S a) (e : a = b) : EvT K p tt σ S b := e ▸ h
end
end
end DL
namespace DL
open PySem L2
open Evl (Ex)
variable {K : PySem.W.Frag} {p : Option Addr} {S S0 S1 S2 S3 : Wd} {σ : L2.St} {te ta tb tc to : TE} {d d1 d2 d3 : D} {ds es : List D} {v : V} {n m : Nat} {P P1 P2 : D → Prop}

/-- a new list that may still change; its items last -/
def EvO (K : PySem.W.Frag) (p : Option Addr) (te : TE) (σ : L2.St) (S : Wd) (ds : List D) : Prop := ∀ S1, Gr K p S S1 → ∀ Q : VK, (∀ a vs S2, Gr K p S1 S2 → S2.T ≤ S1.T → S1.H a = none → S2.H a = some (.lst vs) → S2.F a = none → Rps K S2.F vs ds → Q (.ref a) S2.H) → te σ S1.H Q
/-- a list (b) or tuple as it stands, its items last -/
def EvQ (K : PySem.W.Frag) (p : Option Addr) (te : TE) (σ : L2.St) (S : Wd) (b : Bool) (ds : List D) : Prop := ∀ S1, Gr K p S S1 → ∀ Q : VK, (∀ a vs S2, Gr K p S1 S2 → S2.T ≤ S1.T → (if b = true then S2.H a = some (.lst vs) ∧ some a ≠ p else SqT K S2.F a vs) → Rps K S2.F vs ds → Q (.ref a) S2.H) → te σ S1.H Q
/-- a new list of draws: P of its items -/
def EvON (K : PySem.W.Frag) (p : Option Addr) (te : TE) (σ : L2.St) (S : Wd) (n : Nat) (P : List D → Prop) : Prop := ∀ S1, Gr K p S S1 → S1.T + n ≤ 1000000000 → ∀ Q : VK, (∀ a vs ds S2, Gr K p S1 S2 → S2.T ≤ S1.T + n → S1.H a = none → S2.H a = some (.lst vs) → S2.F a = none → Rps K S2.F vs ds → P ds → Q (.ref a) S2.H) → te σ S1.H Q

theorem ok_ne {a : Addr} (o : Ok K p S) (h : S.H a = none) : some a ≠ p := fun z => by
  obtain ⟨⟨c, t, r, cs, h1, _⟩, _⟩ := o.pen a z.symm
  rw [h] at h1
  cases h1
/-- a list of ours is fixed -/
theorem Gr.fix {a : Addr} {x : HO} (g : Gr K p S S1) (h0 : S.H a = none) (h : S1.H a = some x) (hF : S1.F a = none) (hp : some a ≠ p) : Gr K p S ⟨upd S1.F a x, S1.H, S1.T⟩ := by
  refine ⟨g.ff.trans (Ex.new hF), g.hh, g.al, fun b e => ?_, ⟨fun b y e => ?_, fun b e => ?_⟩⟩ <;> dsimp only at *
  · have hb : b ≠ a := fun z => by subst z; exact e h0
    rw [upd_ne hb]
    exact g.old b e
  · by_cases hb : b = a
    · subst hb; rw [upd_same] at e; rw [← e]; exact h
    · rw [upd_ne hb] at e; exact g.ok.sub b y e
  · obtain ⟨h1, h2⟩ := g.ok.pen b e
    have hb : b ≠ a := fun z => by subst z; exact hp e.symm
    obtain ⟨c, t, r, cs, q1, q2, q3⟩ := h1
    exact ⟨⟨c, t, r, cs, q1, Ex.new hF _ _ q2, q3⟩, by rw [upd_ne hb]; exact h2⟩
theorem EvO.ed (h : EvO K p te σ S ds) : EvD K p te σ S (.lst ds) := fun S1 g Q q => h S1 g Q fun a vs S2 g2 t h0 h1 h2 r =>
  q (.ref a) ⟨upd S2.F a (.lst vs), S2.H, S2.T⟩ (g2.fix h0 h1 h2 (ok_ne g.ok h0)) t (.lst upd_same (r.mono (Ex.new h2)))
theorem EvO.q (h : EvO K p te σ S ds) : EvQ K p te σ S true ds := fun S1 g Q q => h S1 g Q fun a vs S2 g2 t h0 h1 h2 r => q a vs S2 g2 t (by rw [if_pos rfl]; exact ⟨h1, ok_ne g.ok h0⟩) r
theorem EvO.mono (g : Gr K p S S1) (h : EvO K p te σ S ds) : EvO K p te σ S1 ds := fun S2 g2 => h S2 (g.trans g2)
theorem EvQ.mono {b : Bool} (g : Gr K p S S1) (h : EvQ K p te σ S b ds) : EvQ K p te σ S1 b ds := fun S2 g2 => h S2 (g.trans g2)
theorem EvA.mono {ta : TA} (g : Gr K p S S1) (h : EvA K p ta σ S ds) : EvA K p ta σ S1 ds := fun S2 g2 => h S2 (g.trans g2)
theorem EvD.ql (h : EvD K p te σ S (.lst ds)) : EvQ K p te σ S true ds := fun S1 g Q q => h S1 g Q fun v S2 g2 t r => by
  cases r with
  | lst h1 h2 => exact q _ _ S2 g2 t (by rw [if_pos rfl]; refine ⟨g2.ok.sub _ _ h1, fun z => ?_⟩; have := (g2.ok.pen _ z.symm).2; rw [h1] at this; cases this) h2
theorem EvD.qt (h : EvD K p te σ S (.tup ds)) : EvQ K p te σ S false ds := fun S1 g Q q => h S1 g Q fun v S2 g2 t r => by
  cases r with
  | tup h1 h2 => exact q _ _ S2 g2 t (by rw [if_neg Bool.false_ne_true]; exact h1) h2
theorem EvQ.hl (h : EvQ K p te σ S true ds) : EvH K p te σ S (.lst ds) := fun S1 g Q q => h S1 g Q fun a vs S2 g2 t h1 r => by
  rw [if_pos rfl] at h1
  exact q _ S2 g2 t (.lst (by rw [hide_ne h1.2]; exact h1.1) (r.mono g2.ok.subh))
theorem EvO.h (h : EvO K p te σ S ds) : EvH K p te σ S (.lst ds) := h.q.hl

/-! ### names, constants -/
theorem ed_c (h : ∀ F, Rp K F v d) : EvD K p (tC v) σ S d := fun S1 g Q q => q v S1 (Gr.refl g.ok) (Nat.le_refl _) (h _)
theorem ed_int {i : Int} : EvD K p (tC (.int i)) σ S (.int i) := ed_c fun _ => .int i
theorem ed_bl {i : Bool} : EvD K p (tC (.bl i)) σ S (.bl i) := ed_c fun _ => .bl i
theorem ed_str {i : Str} : EvD K p (tC (.str i)) σ S (.str i) := ed_c fun _ => .str i
theorem ed_non : EvD K p (tC .non) σ S .non := ed_c fun _ => .non
theorem ed_val : EvD K p (tC v) σ S (.val v) := ed_c fun _ => .val v
theorem ed_slot {i : Nat} (h : σ[i]? = some (some v)) (r : Rp K S.F v d) : EvD K p (tVar i) σ S d := fun S1 g Q q => ⟨v, h, q v S1 (Gr.refl g.ok) (Nat.le_refl _) (r.mono g.ff)⟩
theorem ev_slot {i : Nat} (h : σ[i]? = some (some v)) : EvV K p (tVar i) σ S v := fun S1 g Q q => ⟨v, h, q S1 (Gr.refl g.ok) (Nat.le_refl _)⟩

/-! ### operators -/
def RD (K : PySem.W.Frag) (p : Option Addr) (r : R2) (d1 d2 : D) (d : D) : Prop := ∀ (S1 : Wd) (x y : V), Ok K p S1 → Rp K (hide p S1.H) x d1 → Rp K (hide p S1.H) y d2 → ∀ Q : VK, (∀ v S2, Gr K p S1 S2 → S2.T ≤ S1.T → Rp K S2.F v d → Q v S2.H) → r x y S1.H Q
theorem ed_op {r : R2} (ha : EvH K p ta σ S d1) (hb : EvH K p tb σ S d2) (hr : RD K p r d1 d2 d) : EvD K p (tOp r ta tb) σ S d := fun S1 g Q q =>
  ha S1 g _ fun x S2 g2 t2 rx => hb S2 (g.trans g2) _ fun y S3 g3 t3 ry => hr S3 x y g3.ok (rx.mono g3.hid) ry Q fun v S4 g4 t4 r4 => q v S4 ((g2.trans g3).trans g4) (by omega) r4
/-- a scalar answer -/
theorem rd_of {r : R2} {w : V} (hd : ∀ F, Rp K F w d) (h : ∀ (S1 : Wd) (x y : V), Ok K p S1 → Rp K (hide p S1.H) x d1 → Rp K (hide p S1.H) y d2 → ∀ Q : VK, Q w S1.H → r x y S1.H Q) : RD K p r d1 d2 d :=
  fun S1 x y o rx ry Q q => h S1 x y o rx ry Q (q w S1 (Gr.refl o) (Nat.le_refl _) (hd _))
theorem rd_I0 {f : Int → Int → Int} {i j : Int} : RD K p (rI0 fun i j => .int (f i j)) (.int i) (.int j) (.int (f i j)) := rd_of (fun _ => .int _) fun S1 x y o rx ry Q q => by
  cases rx; cases ry; exact ⟨i, j, rfl, rfl, q⟩
theorem rd_B0 {f : Int → Int → Bool} {i j : Int} : RD K p (rI0 fun i j => .bl (f i j)) (.int i) (.int j) (.bl (f i j)) := rd_of (fun _ => .bl _) fun S1 x y o rx ry Q q => by
  cases rx; cases ry; exact ⟨i, j, rfl, rfl, q⟩
theorem rd_I {C : Int → Int → Prop} {f : Int → Int → Int} {i j : Int} (hc : C i j) : RD K p (rI C fun i j => .int (f i j)) (.int i) (.int j) (.int (f i j)) := rd_of (fun _ => .int _) fun S1 x y o rx ry Q q => by
  cases rx; cases ry; exact ⟨i, j, rfl, rfl, hc, q⟩
theorem rd_adds {a b : Str} (hz : a.length + b.length ≤ sizeLine) : RD K p (fun x y H Q => ∃ i j, x = .str i ∧ y = .str j ∧ i.length + j.length ≤ sizeLine ∧ Q (.str (i ++ j)) H) (.str a) (.str b) (.str (a ++ b)) := rd_of (fun _ => .str _) fun S1 x y o rx ry Q q => by
  cases rx; cases ry; exact ⟨a, b, rfl, rfl, hz, q⟩
def D.sh (d : D) : Bool := d.pl && SeqAt.shaped d.py
theorem D.sh_pl {d : D} (h : d.sh = true) : d.pl = true := by unfold D.sh at h; exact (Bool.and_eq_true_iff.mp h).1
theorem D.sh_sh {d : D} (h : d.sh = true) : SeqAt.shaped d.py = true := by unfold D.sh at h; exact (Bool.and_eq_true_iff.mp h).2
/-- == of data -/
def eqD (d1 d2 : D) : Bool := PyData.eqv d1.py d2.py
theorem rd_eq (h1 : d1.sh = true) (h2 : d2.sh = true) : RD K p (rEqD K) d1 d2 (.bl (eqD d1 d2)) := rd_of (fun _ => .bl _) fun S1 x y o rx ry Q q =>
  ⟨d1.py, d2.py, (rx.mono hide_ex).dp (D.sh_pl h1), (ry.mono hide_ex).dp (D.sh_pl h2), D.sh_sh h1, D.sh_sh h2, q⟩
theorem rd_ne (h1 : d1.sh = true) (h2 : d2.sh = true) : RD K p (rNeD K) d1 d2 (.bl (!eqD d1 d2)) := rd_of (fun _ => .bl _) fun S1 x y o rx ry Q q =>
  ⟨d1.py, d2.py, (rx.mono hide_ex).dp (D.sh_pl h1), (ry.mono hide_ex).dp (D.sh_pl h2), D.sh_sh h1, D.sh_sh h2, q⟩
/-- == of texts -/
theorem rd_eqs {a b : Str} : RD K p rEq (.str a) (.str b) (.bl (decide (a = b))) := rd_of (fun _ => .bl _) fun S1 x y o rx ry Q q => by
  cases rx; cases ry
  have e : decide (V.str a = V.str b) = decide (a = b) := by
    by_cases h : a = b
    · subst h; simp
    · rw [decide_eq_false h, decide_eq_false (fun z => h (V.str.inj z))]
  exact ⟨rfl, by rw [e]; exact q⟩
/-- a flat thing among flat things -/
def flatD : D → Bool
  | .non => true
  | .bl _ => true
  | .int _ => true
  | .str _ => true
  | _ => false
def inD (d : D) (ds : List D) : Bool := ds.any fun z => eqD z d
theorem flat_rp {F : Hp} : ∀ {d : D} {v : V}, Rp K F v d → flatD d = true → flatV v = true
  | .non, _, .non, _ => rfl
  | .bl _, _, .bl _, _ => rfl
  | .int _, _, .int _, _ => rfl
  | .str _, _, .str _, _ => rfl
theorem flat_eq {F : Hp} {d e : D} {v w : V} (r : Rp K F v d) (q : Rp K F w e) (h : flatD d = true) (h2 : flatD e = true) : eqV v w = eqD d e := by
  unfold eqD
  cases r <;> first | (exact absurd h Bool.false_ne_true) | (cases q <;> first | (exact absurd h2 Bool.false_ne_true) | (simp only [D.py, PyData.eqv, eqV]))
theorem flat_all {F : Hp} : ∀ {ds : List D} {vs : List V}, Rps K F vs ds → ds.all flatD = true → vs.all flatV = true
  | [], _, .nil, _ => rfl
  | d :: ds, _, .cons h r, q => by
    rw [List.all_cons, Bool.and_eq_true] at q ⊢
    exact ⟨flat_rp h q.1, flat_all r q.2⟩
theorem flat_in {F : Hp} {d : D} {v : V} (r : Rp K F v d) (h : flatD d = true) : ∀ {ds : List D} {vs : List V}, Rps K F vs ds → ds.all flatD = true → inV v vs = inD d ds
  | [], _, .nil, _ => rfl
  | e :: ds, _, .cons q t, z => by
    rw [List.all_cons, Bool.and_eq_true] at z
    have ih := flat_in r h t z.2
    unfold inV inD at ih ⊢
    rw [List.any_cons, List.any_cons, ih, flat_eq q r z.1 h]
theorem rd_inT {neg : Bool} (h1 : flatD d1 = true) (h2 : ds.all flatD = true) : RD K p (rIn K neg) d1 (.tup ds) (.bl (if neg then !inD d1 ds else inD d1 ds)) := rd_of (fun _ => .bl _) fun S1 x y o rx ry Q q => by
  cases ry with
  | tup h3 r => exact ⟨_, _, rfl, .inr (Evl.ex_t hide_ex h3), flat_rp rx h1, flat_all r h2, by rw [flat_in rx h1 r h2]; exact q⟩
theorem rd_inL {neg : Bool} (h1 : flatD d1 = true) (h2 : ds.all flatD = true) : RD K p (rIn K neg) d1 (.lst ds) (.bl (if neg then !inD d1 ds else inD d1 ds)) := rd_of (fun _ => .bl _) fun S1 x y o rx ry Q q => by
  cases ry with
  | lst h3 r => exact ⟨_, _, rfl, .inl (.of (hide_ex _ _ h3)), flat_rp rx h1, flat_all r h2, by rw [flat_in rx h1 r h2]; exact q⟩
theorem rd_sign {c : Nat} {z : Str} : RD K p (fun x y H Q => ∃ (c : Nat) (z : Str), x = .str ⟨#[c]⟩ ∧ y = .str z ∧ Q (.bl (decide (c ∈ z.cps.toList))) H) (.str ⟨#[c]⟩) (.str z) (.bl (decide (c ∈ z.cps.toList))) := rd_of (fun _ => .bl _) fun S1 x y o rx ry Q q => by
  cases rx; cases ry; exact ⟨c, z, rfl, rfl, q⟩
theorem rd_nsign {c : Nat} {z : Str} : RD K p (fun x y H Q => ∃ (c : Nat) (z : Str), x = .str ⟨#[c]⟩ ∧ y = .str z ∧ Q (.bl (!decide (c ∈ z.cps.toList))) H) (.str ⟨#[c]⟩) (.str z) (.bl (!decide (c ∈ z.cps.toList))) := rd_of (fun _ => .bl _) fun S1 x y o rx ry Q q => by
  cases rx; cases ry; exact ⟨c, z, rfl, rfl, q⟩
/-- is None -/
def isNon : D → Option Bool
  | .non => some true
  | .val _ => none
  | _ => some false
theorem isNon_rp {F : Hp} {b : Bool} (r : Rp K F v d) (h : isNon d = some b) : decide (v = .non) = b := by
  cases r <;> simp [isNon] at h <;> simp [h]
theorem rd_isNon {b : Bool} (h : isNon d1 = some b) : RD K p (fun x y H Q => y = .non ∧ Q (.bl (decide (x = .non))) H) d1 .non (.bl b) := rd_of (fun _ => .bl _) fun S1 x y o rx ry Q q => by
  cases ry
  exact ⟨rfl, by rw [isNon_rp rx h]; exact q⟩
theorem rd_notNon {b : Bool} (h : isNon d1 = some b) : RD K p (fun x y H Q => y = .non ∧ Q (.bl (!decide (x = .non))) H) d1 .non (.bl (!b)) := rd_of (fun _ => .bl _) fun S1 x y o rx ry Q q => by
  cases ry
  exact ⟨rfl, by rw [isNon_rp rx h]; exact q⟩
theorem rd_isB {a b : Bool} : RD K p rIsB (.bl a) (.bl b) (.bl (decide (a = b))) := rd_of (fun _ => .bl _) fun S1 x y o rx ry Q q => by
  cases rx; cases ry; exact ⟨a, b, rfl, rfl, q⟩
theorem rd_notB {a b : Bool} : RD K p rNotB (.bl a) (.bl b) (.bl (!decide (a = b))) := rd_of (fun _ => .bl _) fun S1 x y o rx ry Q q => by
  cases rx; cases ry; exact ⟨a, b, rfl, rfl, q⟩
/-- lists joined: a new list -/
theorem eo_cat {es : List D} (ha : EvQ K p ta σ S true ds) (hb : EvQ K p tb σ S true es) (hz : ds.length + es.length ≤ sizeLine) : EvO K p (tOp rCat ta tb) σ S (ds ++ es) := fun S1 g Q q =>
  ha S1 g _ fun a xs S2 g2 t2 h2 r2 => hb S2 (g.trans g2) _ fun b ys S3 g3 t3 h3 r3 => by
    rw [if_pos rfl] at h2 h3
    have e1 := r2.length
    have e2 := r3.length
    refine ⟨a, b, xs, ys, rfl, rfl, g3.hh _ _ h2.1 h2.2, h3.1, by omega, fun q' hq' => ?_⟩
    refine q q' (xs ++ ys) ⟨S3.F, upd S3.H q' (.lst (xs ++ ys)), S3.T⟩ ((g2.trans g3).trans (Gr.newO g3.ok hq')) (by show S3.T ≤ _; omega) ((g2.trans g3).fresh hq') upd_same (g3.ok.freshF hq') ((r2.mono g3.ff).append r3)
/-- a list so often -/
theorem rps_rep {F : Hp} {vs : List V} (r : Rps K F vs ds) : ∀ k : Nat, Rps K F (List.replicate k vs).flatten (List.replicate k ds).flatten
  | 0 => .nil
  | k + 1 => by
    rw [List.replicate_succ, List.replicate_succ, List.flatten_cons, List.flatten_cons]
    exact r.append (rps_rep r k)

/-! ### tuples and lists displayed -/
theorem ea_nil : EvA K p tNil σ S [] := fun S1 g Q q => q [] S1 (Gr.refl g.ok) (Nat.le_refl _) .nil
theorem ea_cons {tr : TA} (h : EvD K p te σ S d) (hr : EvA K p tr σ S ds) : EvA K p (tCons te tr) σ S (d :: ds) := fun S1 g Q q =>
  h S1 g _ fun x S2 g2 t2 rx => hr S2 (g.trans g2) _ fun xs S3 g3 t3 rs => q (x :: xs) S3 (g2.trans g3) (by omega) (.cons (rx.mono g3.ff) rs)
theorem eh_nil : EvAH K p tNil σ S [] := fun S1 g Q q => q [] S1 (Gr.refl g.ok) (Nat.le_refl _) .nil
theorem eh_cons {tr : TA} (h : EvH K p te σ S d) (hr : EvAH K p tr σ S ds) : EvAH K p (tCons te tr) σ S (d :: ds) := fun S1 g Q q =>
  h S1 g _ fun x S2 g2 t2 rx => hr S2 (g.trans g2) _ fun xs S3 g3 t3 rs => q (x :: xs) S3 (g2.trans g3) (by omega) (.cons (rx.mono g3.hid) rs)
theorem ed_tup {t : TA} (h : EvA K p t σ S ds) (hz : ds.length ≤ sizeLine := by decide) : EvD K p (tTup t) σ S (.tup ds) := fun S1 g Q q =>
  h S1 g _ fun xs S2 g2 t2 rs => ⟨by rw [rs.length]; exact hz, fun a ha => q (.ref a) ⟨upd S2.F a (.tup xs), upd S2.H a (.tup xs), S2.T⟩ (g2.trans (Gr.new g2.ok ha)) t2 (.tup (.of upd_same) (rs.mono (Ex.new (g2.ok.freshF ha))))⟩
theorem eo_lst {t : TA} (h : EvA K p t σ S ds) (hz : ds.length ≤ sizeLine := by decide) : EvO K p (tLst t) σ S ds := fun S1 g Q q =>
  h S1 g _ fun xs S2 g2 t2 rs => ⟨by rw [rs.length]; exact hz, fun a ha => q a xs ⟨S2.F, upd S2.H a (.lst xs), S2.T⟩ (g2.trans (Gr.newO g2.ok ha)) t2 (g2.fresh ha) upd_same (g2.ok.freshF ha) rs⟩

/-! ### tests -/
theorem et_test {b : Bool} (h : EvD K p te σ S (.bl b)) : EvT K p (tTest te) σ S b := fun S1 g Q q => h S1 g _ fun v S2 g2 t2 r => by cases r; exact ⟨b, rfl, q S2 g2 t2⟩
theorem et_B {b : Bool} (h : EvD K p te σ S (.bl b)) : EvT K p (tB te) σ S b := fun S1 g Q q => h S1 g _ fun v S2 g2 t2 r => by cases r; exact ⟨b, rfl, q S2 g2 t2⟩
theorem et_and {t u : TT} {a b : Bool} (h1 : EvT K p t σ S a) (h2 : a = true → EvT K p u σ S b) : EvT K p (tAnd t u) σ S (a && b) := fun S1 g Q q => h1 S1 g _ fun S2 g2 t2 => by
  cases a with
  | true =>
    show u σ S2.H Q
    exact h2 rfl S2 (g.trans g2) Q fun S3 g3 t3 => q S3 (g2.trans g3) (by omega)
  | false => exact q S2 g2 t2
theorem et_or {t u : TT} {a b : Bool} (h1 : EvT K p t σ S a) (h2 : a = false → EvT K p u σ S b) : EvT K p (tOr t u) σ S (a || b) := fun S1 g Q q => h1 S1 g _ fun S2 g2 t2 => by
  cases a with
  | false =>
    show u σ S2.H Q
    exact h2 rfl S2 (g.trans g2) Q fun S3 g3 t3 => q S3 (g2.trans g3) (by omega)
  | true => exact q S2 g2 t2
theorem et_not {t : TT} {a : Bool} (h1 : EvT K p t σ S a) : EvT K p (tNot t) σ S (!a) := fun S1 g Q q => h1 S1 g _ fun S2 g2 t2 => q S2 g2 t2
theorem et_yes : EvT K p tYes σ S true := fun S1 g Q q => q S1 (Gr.refl g.ok) (Nat.le_refl _)
theorem ed_and {a b : Bool} (h1 : EvD K p ta σ S (.bl a)) (h2 : a = true → EvD K p tb σ S (.bl b)) : EvD K p (tAndV ta tb) σ S (.bl (a && b)) := fun S1 g Q q => h1 S1 g _ fun v S2 g2 t2 r => by
  cases r
  refine ⟨a, rfl, ?_⟩
  cases a with
  | true =>
    rw [if_pos rfl]
    exact h2 rfl S2 (g.trans g2) Q fun v S3 g3 t3 r3 => q v S3 (g2.trans g3) (by omega) r3
  | false =>
    rw [if_neg Bool.false_ne_true]
    exact q _ S2 g2 t2 (.bl _)
theorem ed_or {a b : Bool} (h1 : EvD K p ta σ S (.bl a)) (h2 : a = false → EvD K p tb σ S (.bl b)) : EvD K p (tOrV ta tb) σ S (.bl (a || b)) := fun S1 g Q q => h1 S1 g _ fun v S2 g2 t2 r => by
  cases r
  refine ⟨a, rfl, ?_⟩
  cases a with
  | false =>
    rw [if_neg Bool.false_ne_true]
    exact h2 rfl S2 (g.trans g2) Q fun v S3 g3 t3 r3 => q v S3 (g2.trans g3) (by omega) r3
  | true =>
    rw [if_pos rfl]
    exact q _ S2 g2 t2 (.bl _)
theorem ed_not {a : Bool} (h1 : EvD K p ta σ S (.bl a)) : EvD K p (tNotV ta) σ S (.bl (!a)) := fun S1 g Q q => h1 S1 g _ fun v S2 g2 t2 r => by
  cases r
  exact ⟨a, rfl, q _ S2 g2 t2 (.bl _)⟩
theorem ed_if {t : TT} {b : Bool} (h : EvT K p t σ S b) (h1 : b = true → EvD K p ta σ S d) (h2 : b = false → EvD K p tb σ S d) : EvD K p (tIf t ta tb) σ S d := fun S1 g Q q => h S1 g _ fun S2 g2 t2 => by
  cases b with
  | true =>
    rw [if_pos rfl]
    exact h1 rfl S2 (g.trans g2) Q fun v S3 g3 t3 r3 => q v S3 (g2.trans g3) (by omega) r3
  | false =>
    rw [if_neg Bool.false_ne_true]
    exact h2 rfl S2 (g.trans g2) Q fun v S3 g3 t3 r3 => q v S3 (g2.trans g3) (by omega) r3
theorem ed_if2 {t : TT} {b : Bool} (h : EvT K p t σ S b) (h1 : b = true → EvD K p ta σ S d1) (h2 : b = false → EvD K p tb σ S d2) : EvD K p (tIf t ta tb) σ S (if b = true then d1 else d2) :=
  ed_if h (fun e => by rw [if_pos e]; exact h1 e) fun e => by rw [if_neg (by rw [e]; exact Bool.false_ne_true)]; exact h2 e
theorem eo_if {t : TT} {b : Bool} (h : EvT K p t σ S b) (h1 : b = true → EvO K p ta σ S ds) (h2 : b = false → EvO K p tb σ S ds) : EvO K p (tIf t ta tb) σ S ds := fun S1 g Q q => h S1 g _ fun S2 g2 t2 => by
  cases b with
  | true =>
    rw [if_pos rfl]
    exact h1 rfl S2 (g.trans g2) Q fun a vs S3 g3 t3 n3 => q a vs S3 (g2.trans g3) (by omega) (g2.fresh n3)
  | false =>
    rw [if_neg Bool.false_ne_true]
    exact h2 rfl S2 (g.trans g2) Q fun a vs S3 g3 t3 n3 => q a vs S3 (g2.trans g3) (by omega) (g2.fresh n3)

/-! ### built-ins by values -/
def RC (K : PySem.W.Frag) (p : Option Addr) (r : List V → Hp → VK → Prop) (ds : List D) (d : D) : Prop := ∀ (S1 : Wd) (vs : List V), Ok K p S1 → Rps K (hide p S1.H) vs ds → ∀ Q : VK, (∀ v S2, Gr K p S1 S2 → S2.T ≤ S1.T → Rp K S2.F v d → Q v S2.H) → r vs S1.H Q
theorem ed_cb {r : List V → Hp → VK → Prop} {t : TA} (h : EvAH K p t σ S ds) (hr : RC K p r ds d) : EvD K p (tCB r t) σ S d := fun S1 g Q q =>
  h S1 g _ fun vs S2 g2 t2 rs => hr S2 vs g2.ok rs Q fun v S3 g3 t3 r3 => q v S3 (g2.trans g3) (by omega) r3
theorem rc_of {r : List V → Hp → VK → Prop} {w : V} (hd : ∀ F, Rp K F w d) (h : ∀ (S1 : Wd) (vs : List V), Ok K p S1 → Rps K (hide p S1.H) vs ds → ∀ Q : VK, Q w S1.H → r vs S1.H Q) : RC K p r ds d :=
  fun S1 vs o rs Q q => h S1 vs o rs Q (q w S1 (Gr.refl o) (Nat.le_refl _) (hd _))
theorem rc_lenL (hz : ds.length ≤ sizeLine := by decide) : RC K p (fun xs H Q => ∃ x n, xs = [x] ∧ LenV K x H n ∧ Q (.int n) H) [.lst ds] (.int (ds.length : Int)) := rc_of (fun _ => .int _) fun S1 vs o rs Q q => by
  cases rs with
  | cons h r =>
    cases r
    cases h with
    | lst h1 h2 => exact ⟨_, ds.length, rfl, .inl ⟨_, .of (hide_ex _ _ h1), h2.length.symm⟩, q⟩
theorem rc_lenT : RC K p (fun xs H Q => ∃ x n, xs = [x] ∧ LenV K x H n ∧ Q (.int n) H) [.tup ds] (.int (ds.length : Int)) := rc_of (fun _ => .int _) fun S1 vs o rs Q q => by
  cases rs with
  | cons h r =>
    cases r
    cases h with
    | tup h1 h2 => exact ⟨_, ds.length, rfl, .inr ⟨_, Evl.ex_t hide_ex h1, h2.length.symm⟩, q⟩
theorem rc_lenS {s : Str} (hz : s.length ≤ sizeLine) : RC K p (fun xs H Q => ∃ x n, xs = [x] ∧ LenV K x H n ∧ Q (.int n) H) [.str s] (.int (s.length : Int)) := rc_of (fun _ => .int _) fun S1 vs o rs Q q => by
  cases rs with
  | cons h r =>
    cases r
    cases h
    exact ⟨_, s.length, rfl, ⟨hz, rfl⟩, q⟩
theorem rc_abs {i : Int} : RC K p (fun xs H Q => ∃ i, xs = [.int i] ∧ Q (.int (if i < 0 then -i else i)) H) [.int i] (.int (if i < 0 then -i else i)) := rc_of (fun _ => .int _) fun S1 vs o rs Q q => by
  cases rs with
  | cons h r => cases r; cases h; exact ⟨_, rfl, q⟩
theorem rc_intI {i : Int} : RC K p (fun xs H Q => (∃ i, xs = [.int i] ∧ Q (.int i) H) ∨ ∃ k, xs = [.bl k] ∧ Q (.int (if k then 1 else 0)) H) [.int i] (.int i) := rc_of (fun _ => .int _) fun S1 vs o rs Q q => by
  cases rs with
  | cons h r => cases r; cases h; exact .inl ⟨_, rfl, q⟩
theorem rc_intB {b : Bool} : RC K p (fun xs H Q => (∃ i, xs = [.int i] ∧ Q (.int i) H) ∨ ∃ k, xs = [.bl k] ∧ Q (.int (if k then 1 else 0)) H) [.bl b] (.int (if b then 1 else 0)) := rc_of (fun _ => .int _) fun S1 vs o rs Q q => by
  cases rs with
  | cons h r => cases r; cases h; exact .inr ⟨_, rfl, q⟩
theorem rc_all {bs : List Bool} : RC K p (rAll K) [.lst (bs.map D.bl)] (.bl (bs.all id)) := rc_of (fun _ => .bl _) fun S1 vs o rs Q q => by
  cases rs with
  | cons h r =>
    cases r
    cases h with
    | lst h1 h2 =>
      have e := h2.bls_inv
      subst e
      exact ⟨_, bs, rfl, .of (hide_ex _ _ h1), q⟩
theorem rc_any {bs : List Bool} : RC K p (rAny K) [.lst (bs.map D.bl)] (.bl (bs.any id)) := rc_of (fun _ => .bl _) fun S1 vs o rs Q q => by
  cases rs with
  | cons h r =>
    cases r
    cases h with
    | lst h1 h2 =>
      have e := h2.bls_inv
      subst e
      exact ⟨_, bs, rfl, .of (hide_ex _ _ h1), q⟩
/-- list(x), tuple(x) -/
theorem eo_list {b : Bool} (h : EvQ K p te σ S b ds) : EvO K p (tCB (fun xs H Q => ∃ p ys, xs = [.ref p] ∧ (SqL K H p ys ∨ SqT K H p ys) ∧ ∀ l, H l = none → Q (.ref l) (upd H l (.lst ys))) (tCons te tNil)) σ S ds := fun S1 g Q q =>
  h S1 g _ fun a vs S2 g2 t2 h2 r2 => ⟨a, vs, rfl, by
    cases b with
    | true => rw [if_pos rfl] at h2; exact .inl (.of h2.1)
    | false => rw [if_neg Bool.false_ne_true] at h2; exact .inr (Evl.ex_t g2.ok.sub h2), fun l hl =>
    q l vs ⟨S2.F, upd S2.H l (.lst vs), S2.T⟩ (g2.trans (Gr.newO g2.ok hl)) t2 (g2.fresh hl) upd_same (g2.ok.freshF hl) r2⟩
theorem ed_tuple {b : Bool} (h : EvQ K p te σ S b ds) : EvD K p (tCB (fun xs H Q => ∃ p ys, xs = [.ref p] ∧ ((SqL K H p ys ∧ ∀ l, H l = none → Q (.ref l) (upd H l (.tup ys))) ∨ (SqT K H p ys ∧ Q (.ref p) H))) (tCons te tNil)) σ S (.tup ds) := fun S1 g Q q =>
  h S1 g _ fun a vs S2 g2 t2 h2 r2 => by
    refine ⟨a, vs, rfl, ?_⟩
    cases b with
    | true =>
      rw [if_pos rfl] at h2
      exact .inl ⟨.of h2.1, fun l hl => q (.ref l) ⟨upd S2.F l (.tup vs), upd S2.H l (.tup vs), S2.T⟩ (g2.trans (Gr.new g2.ok hl)) t2 (.tup (.of upd_same) (r2.mono (Ex.new (g2.ok.freshF hl))))⟩
    | false =>
      rw [if_neg Bool.false_ne_true] at h2
      exact .inr ⟨Evl.ex_t g2.ok.sub h2, q (.ref a) S2 g2 t2 (.tup h2 r2)⟩
end DL
namespace DL
open PySem L2
open Evl (Ex)

/-! ## the state of a def's body: slots that hold data, or lists and dicts of its own -/
inductive Ty where
  | dat (d : D) | own (ds : List D) | odc (kds : List (Key × D)) | val (v : V)
def Ty.ow : Ty → Bool
  | .own _ => true
  | .odc _ => true
  | _ => false
def Ty.is (K : PySem.W.Frag) (H0 : Hp) (S : Wd) (v : V) : Ty → Prop
  | .dat d => Rp K S.F v d
  | .own ds => ∃ a vs, v = .ref a ∧ S.H a = some (.lst vs) ∧ Rps K S.F vs ds ∧ S.F a = none ∧ H0 a = none
  | .odc kds => ∃ a kvs, v = .ref a ∧ S.H a = some (.dK kvs) ∧ kvs.map (·.1) = kds.map (·.1) ∧ Rps K S.F (kvs.map (·.2)) (kds.map (·.2)) ∧ S.F a = none ∧ H0 a = none
  | .val w => v = w
abbrev En := List (Nat × Ty)
def get : En → Nat → Option Ty
  | [], _ => none
  | (j, t) :: r, i => cond (Nat.beq j i) (some t) (get r i)
def del (i : Nat) : En → En
  | [] => []
  | (j, t) :: r => cond (Nat.beq j i) (del i r) ((j, t) :: del i r)
def put (i : Nat) (t : Ty) (l : En) : En := (i, t) :: del i l
def sub : En → En → Prop
  | [], _ => True
  | (i, t) :: r, l => get l i = some t ∧ sub r l
theorem get_mem : ∀ {l : En} {i : Nat} {t : Ty}, get l i = some t → (i, t) ∈ l
  | (j, u) :: r, i, t, h => by
    unfold get at h
    cases e : Nat.beq j i with
    | true =>
      rw [e] at h
      cases h
      have := Nat.eq_of_beq_eq_true e
      subst this
      exact List.mem_cons_self
    | false =>
      rw [e] at h
      exact List.mem_cons_of_mem _ (get_mem h)
theorem del_mem : ∀ {l : En} {i : Nat} {q : Nat × Ty}, q ∈ del i l → q ∈ l ∧ q.1 ≠ i
  | (j, u) :: r, i, q, h => by
    unfold del at h
    cases e : Nat.beq j i with
    | true =>
      rw [e] at h
      obtain ⟨h1, h2⟩ := del_mem h
      exact ⟨List.mem_cons_of_mem _ h1, h2⟩
    | false =>
      rw [e] at h
      rcases List.mem_cons.mp h with h | h
      · subst h
        exact ⟨List.mem_cons_self, fun z => by
          have z' : j = i := z
          subst z'
          rw [Nat.beq_refl] at e
          cases e⟩
      · obtain ⟨h1, h2⟩ := del_mem h
        exact ⟨List.mem_cons_of_mem _ h1, h2⟩
theorem del_sub : ∀ (l : En) (i : Nat), (del i l).Sublist l
  | [], _ => .slnil
  | (j, u) :: r, i => by
    unfold del
    cases e : Nat.beq j i with
    | true => exact .cons _ (del_sub r i)
    | false => exact .cons₂ _ (del_sub r i)

/-- S0: the world at the def's entry; m slots; M draws allowed, n done -/
structure Sta (K : PySem.W.Frag) (p : Option Addr) (S0 : Wd) (B : Hp) (m M n : Nat) (σ : L2.St) (S : Wd) (l : En) : Prop where
  ok0 : Ok K p S0
  g : Gr K p S0 S
  bs : Ex B S.F
  len : σ.length = m
  tb : S0.T + M ≤ 1000000000
  tn : S.T ≤ S0.T + n
  has : ∀ q ∈ l, ∃ v, σ[q.1]? = some (some v) ∧ q.2.is K S0.H S v
  sep : ∀ a ∈ l, ∀ b ∈ l, a.1 ≠ b.1 → a.2.ow = true → b.2.ow = true → ∀ v, σ[a.1]? = some (some v) → σ[b.1]? ≠ some (some v)
section
variable {K : PySem.W.Frag} {p : Option Addr} {S S0 S1 S2 S3 : Wd} {B : Hp} {σ σ' : L2.St} {te ta tb tc to : TE} {d d1 d2 d3 : D} {ds es : List D} {v : V} {m M n k : Nat} {P P1 P2 : D → Prop} {l l' : En} {i j : Nat} {t : Ty} {D : Ends}
theorem Ty.grow {H0 : Hp} (g0 : Gr K p S0 S) (ok0 : Ok K p S0) (g : Gr K p S S1) : ∀ {t : Ty}, t.is K S0.H S v → t.is K S0.H S1 v
  | .dat d, h => Rp.mono g.ff h
  | .own ds, ⟨a, vs, e, h1, h2, h3, h4⟩ => ⟨a, vs, e, g.hh _ _ h1 (ok_ne ok0 h4), h2.mono g.ff, (g.old a (by rw [h1]; simp)).trans h3, h4⟩
  | .odc kds, ⟨a, kvs, e, h1, h5, h2, h3, h4⟩ => ⟨a, kvs, e, g.hh _ _ h1 (ok_ne ok0 h4), h5, h2.mono g.ff, (g.old a (by rw [h1]; simp)).trans h3, h4⟩
  | .val w, h => h
theorem Sta.grow (h : Sta K p S0 B m M n σ S l) (g : Gr K p S S1) (ht : S1.T ≤ S.T + k) : Sta K p S0 B m M (n + k) σ S1 l :=
  ⟨h.ok0, h.g.trans g, h.bs.trans g.ff, h.len, h.tb, by have := h.tn; omega, fun q hq => let ⟨v, e, r⟩ := h.has q hq; ⟨v, e, Ty.grow (H0 := S0.H) h.g h.ok0 g r⟩, h.sep⟩
theorem Sta.grow0 (h : Sta K p S0 B m M n σ S l) (g : Gr K p S S1) (ht : S1.T ≤ S.T) : Sta K p S0 B m M n σ S1 l := h.grow (k := 0) g ht
theorem Sta.any (h : Sta K p S0 B m M n σ S l) (g : Gr K p S S1) : Sta K p S0 B m M (n + S1.T) σ S1 l := h.grow (k := S1.T) g (by omega)
theorem Sta.ok (h : Sta K p S0 B m M n σ S l) : Ok K p S := h.g.ok
theorem sub_mem : ∀ {l' l : En}, sub l' l → ∀ q ∈ l', get l q.1 = some q.2
  | (j, t) :: r, l, h, q, hq => by
    rcases List.mem_cons.mp hq with rfl | hq
    · exact h.1
    · exact sub_mem h.2 q hq
theorem Sta.weak (h : Sta K p S0 B m M n σ S l) (hs : sub l' l) : Sta K p S0 B m M n σ S l' :=
  ⟨h.ok0, h.g, h.bs, h.len, h.tb, h.tn, fun q hq => h.has q (get_mem (sub_mem hs q hq)), fun a ha b hb => h.sep a (get_mem (sub_mem hs a ha)) b (get_mem (sub_mem hs b hb))⟩
theorem Sta.more (h : Sta K p S0 B m M n σ S l) (hk : n ≤ k) : Sta K p S0 B m M k σ S l := ⟨h.ok0, h.g, h.bs, h.len, h.tb, by have := h.tn; omega, h.has, h.sep⟩
/-- a slot is stored -/
theorem Sta.set (h : Sta K p S0 B m M n σ S l) (hi : i < m) (ht : t.is K S0.H S v) (hs : t.ow = true → ∀ q ∈ del i l, q.2.ow = true → σ[q.1]? ≠ some (some v)) : Sta K p S0 B m M n (σ.set i (some v)) S (put i t l) := by
  have hi' : i < σ.length := by rw [h.len]; exact hi
  have same : ∀ q ∈ del i l, (σ.set i (some v))[q.1]? = σ[q.1]? := fun q hq => List.getElem?_set_ne (Ne.symm (del_mem hq).2)
  refine ⟨h.ok0, h.g, h.bs, by rw [List.length_set]; exact h.len, h.tb, h.tn, fun q hq => ?_, fun a ha b hb ne oa ob w ea => ?_⟩
  · rcases List.mem_cons.mp hq with rfl | hq
    · exact ⟨v, List.getElem?_set_self hi', ht⟩
    · rw [same q hq]
      exact h.has q (del_mem hq).1
  · rcases List.mem_cons.mp ha with rfl | ha
    · rw [List.getElem?_set_self hi'] at ea
      cases ea
      rcases List.mem_cons.mp hb with rfl | hb
      · exact absurd rfl ne
      · rw [same b hb]
        exact hs oa b hb ob
    · rw [same a ha] at ea
      rcases List.mem_cons.mp hb with rfl | hb
      · rw [List.getElem?_set_self hi']
        intro z
        cases z
        exact hs ob a ha oa ea
      · rw [same b hb]
        exact h.sep a (del_mem ha).1 b (del_mem hb).1 ne oa ob w ea
/-! ### what slots evaluate to -/
theorem ed_var (h : Sta K p S0 B m M n σ S l) (hg : get l i = some (.dat d)) : EvD K p (tVar i) σ S d := by
  obtain ⟨v, e, r⟩ := h.has _ (get_mem hg)
  exact ed_slot e r
theorem ev_var (h : Sta K p S0 B m M n σ S l) (hg : get l i = some (.val v)) : EvV K p (tVar i) σ S v := by
  obtain ⟨w, e, r⟩ := h.has _ (get_mem hg)
  cases r
  exact ev_slot e
theorem eq_var (h : Sta K p S0 B m M n σ S l) (hg : get l i = some (.own ds)) : EvQ K p (tVar i) σ S true ds := by
  obtain ⟨v, e, a, vs, rfl, h1, h2, h3, h4⟩ := h.has _ (get_mem hg)
  have ha := ok_ne h.ok0 h4
  exact fun S1 g Q q => ⟨_, e, q a vs S1 (Gr.refl g.ok) (Nat.le_refl _) (by rw [if_pos rfl]; exact ⟨g.hh _ _ h1 ha, ha⟩) (h2.mono g.ff)⟩
theorem eh_var (h : Sta K p S0 B m M n σ S l) (hg : get l i = some (.own ds)) : EvH K p (tVar i) σ S (.lst ds) := (eq_var h hg).hl

/-! ### statements -/
theorem s_dat (h : Sta K p S0 B m M n σ S l) (he : EvD K p te σ S d) (hi : i < m) (k : ∀ σ' S', Sta K p S0 B m M n σ' S' (put i (.dat d) l) → D.nx σ' S'.H) : tAsg te (gName i) D σ S.H :=
  he S (Gr.refl h.ok) _ fun v S2 g2 t2 r => k _ S2 ((h.grow0 g2 t2).set hi r (fun z => by cases z))
theorem s_N (h : Sta K p S0 B m M n σ S l) (he : EvN K p te σ S k P) (hi : i < m) (hn : n + k ≤ M) (kk : ∀ d σ' S', P d → Sta K p S0 B m M (n + k) σ' S' (put i (.dat d) l) → D.nx σ' S'.H) : tAsg te (gName i) D σ S.H :=
  he S (Gr.refl h.ok) (by have := h.tb; have := h.tn; omega) _ fun v d S2 g2 t2 r hp => kk d _ S2 hp ((h.grow g2 t2).set hi r (fun z => by cases z))
theorem s_own (h : Sta K p S0 B m M n σ S l) (he : EvO K p te σ S ds) (hi : i < m) (k : ∀ σ' S', Sta K p S0 B m M n σ' S' (put i (.own ds) l) → D.nx σ' S'.H) : tAsg te (gName i) D σ S.H :=
  he S (Gr.refl h.ok) _ fun a vs S2 g2 t2 h0 h1 h2 r => k _ S2 ((h.grow0 g2 t2).set hi ⟨a, vs, rfl, h1, r, h2, h.g.fresh h0⟩ (fun _ q hq ow z => by
    obtain ⟨w, e, q2⟩ := h.has q (del_mem hq).1
    rw [e] at z
    cases z
    obtain ⟨j, u⟩ := q
    cases u with
    | own es => obtain ⟨b, ws, eb, hb, _⟩ := q2; cases eb; rw [h0] at hb; cases hb
    | odc es => obtain ⟨b, ws, eb, hb, _⟩ := q2; cases eb; rw [h0] at hb; cases hb
    | dat _ => cases ow
    | val _ => cases ow))
theorem s_val (h : Sta K p S0 B m M n σ S l) (he : EvV K p te σ S v) (hi : i < m) (k : ∀ σ' S', Sta K p S0 B m M n σ' S' (put i (.val v) l) → D.nx σ' S'.H) : tAsg te (gName i) D σ S.H :=
  he S (Gr.refl h.ok) _ fun S2 g2 t2 => k _ S2 ((h.grow0 g2 t2).set hi rfl (fun z => by cases z))
theorem s_if {tt : TT} {tu tw : TS} {b : Bool} (h : Sta K p S0 B m M n σ S l) (he : EvT K p tt σ S b) (k1 : b = true → ∀ S', Sta K p S0 B m M n σ S' l → tu D σ S'.H) (k2 : b = false → ∀ S', Sta K p S0 B m M n σ S' l → tw D σ S'.H) : tIfS tt tu tw D σ S.H :=
  he S (Gr.refl h.ok) _ fun S2 g2 t2 => by
    cases b with
    | true => rw [if_pos rfl]; exact k1 rfl S2 (h.grow0 g2 t2)
    | false => rw [if_neg Bool.false_ne_true]; exact k2 rfl S2 (h.grow0 g2 t2)
theorem s_ret (h : Sta K p S0 B m M n σ S l) (he : EvD K p te σ S d) (k : ∀ v S', Gr K p S0 S' → S'.T ≤ S0.T + n → Rp K S'.F v d → D.rt v S'.H) : tRet te D σ S.H :=
  he S (Gr.refl h.ok) _ fun v S2 g2 t2 r => k v S2 (h.g.trans g2) (by have := h.tn; omega) r
theorem s_retN (h : Sta K p S0 B m M n σ S l) (he : EvN K p te σ S k P) (hn : n + k ≤ M) (kk : ∀ v d S', P d → Gr K p S0 S' → S'.T ≤ S0.T + (n + k) → Rp K S'.F v d → D.rt v S'.H) : tRet te D σ S.H :=
  he S (Gr.refl h.ok) (by have := h.tb; have := h.tn; omega) _ fun v d S2 g2 t2 r hp => kk v d S2 hp (h.g.trans g2) (by have := h.tn; omega) r
/-- a list of ours is handed out -/
theorem ed_own (h : Sta K p S0 B m M n σ S l) (hg : get l i = some (.own ds)) (k : ∀ v S', S'.H = S.H → Gr K p S0 S' → S'.T ≤ S0.T + n → Rp K S'.F v (.lst ds) → D.rt v S'.H) : tRet (tVar i) D σ S.H := by
  obtain ⟨v, e, a, vs, rfl, h1, h2, h3, h4⟩ := h.has _ (get_mem hg)
  exact ⟨_, e, k (.ref a) ⟨upd S.F a (.lst vs), S.H, S.T⟩ rfl (h.g.fix h4 h1 h3 (ok_ne h.ok0 h4)) h.tn (.lst upd_same (h2.mono (Ex.new h3)))⟩
/-- a slot of ours changes its list -/
theorem Sta.chg {a : Addr} {vs ws : List V} (h : Sta K p S0 B m M n σ S l) (hg : get l i = some (.own ds)) (e : σ[i]? = some (some (.ref a))) (h1 : S.H a = some (.lst vs)) (r : Rps K S.F ws es) :
    Sta K p S0 B m M n σ ⟨S.F, upd S.H a (.lst ws), S.T⟩ (put i (.own es) l) := by
  obtain ⟨v, e', b, us, rfl, h1', h2, h3, h4⟩ := h.has _ (get_mem hg)
  rw [e] at e'
  cases e'
  have hp := ok_ne h.ok0 h4
  have g : Gr K p S0 ⟨S.F, upd S.H a (.lst ws), S.T⟩ := by
    refine ⟨h.g.ff, fun b o q np => ?_, fun b q => ?_, h.g.old, ⟨fun b o q => ?_, fun b q => ?_⟩⟩ <;> dsimp only at *
    · have hb : b ≠ a := fun z => by subst z; rw [h4] at q; cases q
      rw [upd_ne hb]; exact h.g.hh b o q np
    · intro z
      by_cases hb : b = a
      · subst hb; rw [upd_same] at z; cases z
      · rw [upd_ne hb] at z; exact h.g.al b q z
    · have hb : b ≠ a := fun z => by subst z; rw [h3] at q; cases q
      rw [upd_ne hb]; exact h.ok.sub b o q
    · obtain ⟨⟨c, t, r', cs, q1, q2, q3⟩, q4⟩ := h.ok.pen b q
      have hb : b ≠ a := fun z => by subst z; exact hp q.symm
      exact ⟨⟨c, t, r', cs, by rw [upd_ne hb]; exact q1, q2, q3⟩, q4⟩
  have kp : ∀ {u : V} {t : Ty}, t.is K S0.H S u → (t.ow = true → u ≠ .ref a) → t.is K S0.H ⟨S.F, upd S.H a (.lst ws), S.T⟩ u := fun {u t} q no => by
    cases t with
    | dat _ => exact q
    | val _ => exact q
    | own es =>
      obtain ⟨b, us, rfl, q1, q2, q3, q4⟩ := q
      have hb : b ≠ a := fun z => no rfl (by rw [z])
      exact ⟨b, us, rfl, by show upd S.H a _ b = _; rw [upd_ne hb]; exact q1, q2, q3, q4⟩
    | odc es =>
      obtain ⟨b, us, rfl, q1, q2, q3, q4, q5⟩ := q
      have hb : b ≠ a := fun z => no rfl (by rw [z])
      exact ⟨b, us, rfl, by show upd S.H a _ b = _; rw [upd_ne hb]; exact q1, q2, q3, q4, q5⟩
  refine ⟨h.ok0, g, h.bs, h.len, h.tb, h.tn, fun q hq => ?_, fun x hx y hy ne ox oy w ex => ?_⟩
  · rcases List.mem_cons.mp hq with rfl | hq
    · exact ⟨_, e, a, ws, rfl, upd_same, r, h3, h4⟩
    · obtain ⟨u, eu, qu⟩ := h.has q (del_mem hq).1
      refine ⟨u, eu, kp qu fun ow z => ?_⟩
      subst z
      exact h.sep _ (get_mem hg) q (del_mem hq).1 (Ne.symm (del_mem hq).2) rfl ow _ e eu
  · rcases List.mem_cons.mp hx with rfl | hx
    · rcases List.mem_cons.mp hy with rfl | hy
      · exact absurd rfl ne
      · exact h.sep (i, .own ds) (get_mem hg) y (del_mem hy).1 ne rfl oy w ex
    · rcases List.mem_cons.mp hy with rfl | hy
      · exact h.sep x (del_mem hx).1 (i, .own ds) (get_mem hg) ne ox rfl w ex
      · exact h.sep x (del_mem hx).1 y (del_mem hy).1 ne ox oy w ex
/-- x.append(e) -/
theorem s_app (h : Sta K p S0 B m M n σ S l) (hg : get l i = some (.own ds)) (he : EvD K p te σ S d) (hz : ds.length < sizeLine) (k : ∀ S', Sta K p S0 B m M n σ S' (put i (.own (ds ++ [d])) l) → D.nx σ S'.H) :
    tDrop (tBM K "list" rAppend (tVar i) (tCons te tNil)) D σ S.H := by
  obtain ⟨v, e, a, vs, rfl, h1, h2, h3, h4⟩ := h.has _ (get_mem hg)
  refine ⟨_, e, .inl ⟨rfl, vs, .of h1⟩, he S (Gr.refl h.ok) _ fun x S2 g2 t2 rx => ?_⟩
  have H2 := h.grow0 g2 t2
  have e1 := g2.hh _ _ h1 (ok_ne h.ok0 h4)
  refine ⟨a, vs, x, rfl, rfl, e1, by rw [h2.length]; exact hz, ?_⟩
  exact k ⟨S2.F, upd S2.H a (.lst (vs ++ [x])), S2.T⟩ (H2.chg hg e e1 ((h2.mono g2.ff).snoc rx))
/-- x.extend(e) -/
theorem s_ext (h : Sta K p S0 B m M n σ S l) (hg : get l i = some (.own ds)) (he : EvQ K p te σ S true es) (hz : ds.length + es.length ≤ sizeLine) (k : ∀ S', Sta K p S0 B m M n σ S' (put i (.own (ds ++ es)) l) → D.nx σ S'.H) :
    tDrop (tBM K "list" rExtend (tVar i) (tCons te tNil)) D σ S.H := by
  obtain ⟨v, e, a, vs, rfl, h1, h2, h3, h4⟩ := h.has _ (get_mem hg)
  refine ⟨_, e, .inl ⟨rfl, vs, .of h1⟩, he S (Gr.refl h.ok) _ fun b xs S2 g2 t2 hb rx => ?_⟩
  rw [if_pos rfl] at hb
  have H2 := h.grow0 g2 t2
  have e1 := g2.hh _ _ h1 (ok_ne h.ok0 h4)
  refine ⟨a, b, vs, xs, rfl, rfl, e1, hb.1, by rw [h2.length, rx.length]; exact hz, ?_⟩
  exact k ⟨S2.F, upd S2.H a (.lst (vs ++ xs)), S2.T⟩ (H2.chg hg e e1 ((h2.mono g2.ff).append rx))
/-- y = x.pop() -/
theorem s_pop (h : Sta K p S0 B m M n σ S l) (hg : get l i = some (.own (ds ++ [d]))) (hj : j < m) (k : ∀ σ' S', Sta K p S0 B m M n σ' S' (put j (.dat d) (put i (.own ds) l)) → D.nx σ' S'.H) :
    tAsg (tBM0 K "list" rPop (tVar i)) (gName j) D σ S.H := by
  obtain ⟨v, e, a, vs, rfl, h1, h2, h3, h4⟩ := h.has _ (get_mem hg)
  have el : vs.length = ds.length + 1 := by rw [h2.length, List.length_append, List.length_singleton]
  obtain ⟨x, ex, rx⟩ := h2.get (i := ds.length) (d := d) (by simp)
  refine ⟨_, e, .inl ⟨rfl, vs, .of h1⟩, a, vs, x, rfl, rfl, h1, by rw [el]; exact ex, ?_⟩
  have hd : Rps K S.F vs.dropLast ds := by
    have q := h2.dropLast
    rw [List.dropLast_concat] at q
    exact q
  have H2 := h.chg hg e h1 hd
  exact k _ ⟨S.F, upd S.H a (.lst vs.dropLast), S.T⟩ (H2.set hj rx fun z => by cases z)
/-- y = x.pop(i) -/
theorem s_popAt {z : Int} {c : Nat} {ti : TE} (h : Sta K p S0 B m M n σ S l) (hg : get l i = some (.own ds)) (hi : EvD K p ti σ S (.int z)) (hb : -(2 ^ 63) ≤ z ∧ z < 2 ^ 63) (hc : seqIndex? z ds.length = some c) (hd : ds[c]? = some d) (hj : j < m)
    (k : ∀ σ' S', Sta K p S0 B m M n σ' S' (put j (.dat d) (put i (.own (ds.eraseIdx c)) l)) → D.nx σ' S'.H) :
    tAsg (tBM K "list" rPopAt (tVar i) (tCons ti tNil)) (gName j) D σ S.H := by
  obtain ⟨v, e, a, vs, rfl, h1, h2, h3, h4⟩ := h.has _ (get_mem hg)
  refine ⟨_, e, .inl ⟨rfl, vs, .of h1⟩, hi S (Gr.refl h.ok) _ fun x S2 g2 t2 rx => ?_⟩
  cases rx
  have H2 := h.grow0 g2 t2
  have e1 := g2.hh _ _ h1 (ok_ne h.ok0 h4)
  obtain ⟨x, ex, rx⟩ := h2.get hd
  refine ⟨a, vs, z, c, x, rfl, rfl, e1, hb.1, hb.2, by rw [h2.length]; exact hc, ex, ?_⟩
  have H3 := H2.chg hg e e1 ((h2.mono g2.ff).eraseIdx c)
  exact k _ ⟨S2.F, upd S2.H a (.lst (vs.eraseIdx c)), S2.T⟩ (H3.set hj (rx.mono g2.ff) fun z => by cases z)
/-- x[i] = e -/
theorem s_setL {z : Int} {c : Nat} {ti : TE} (h : Sta K p S0 B m M n σ S l) (hg : get l i = some (.own ds)) (he : EvD K p te σ S d) (hi : EvD K p ti σ S (.int z)) (hc : ixN ds.length z = some c)
    (k : ∀ S', Sta K p S0 B m M n σ S' (put i (.own (ds.set c d)) l) → D.nx σ S'.H) : tAsg te (gSub (tVar i) ti rSetL) D σ S.H := by
  obtain ⟨v, e, a, vs, rfl, h1, h2, h3, h4⟩ := h.has _ (get_mem hg)
  refine he S (Gr.refl h.ok) _ fun y S2 g2 t2 ry => ⟨_, e, hi S2 g2 _ fun x S3 g3 t3 rx => ?_⟩
  cases rx
  have H2 := h.grow0 (g2.trans g3) (by omega)
  have e1 := g3.hh _ _ (g2.hh _ _ h1 (ok_ne h.ok0 h4)) (ok_ne h.ok0 h4)
  refine ⟨a, vs, z, c, rfl, rfl, e1, by rw [h2.length]; exact hc, ?_⟩
  exact k ⟨S3.F, upd S3.H a (.lst (vs.set c y)), S3.T⟩ (H2.chg hg e e1 (Rps.set (ry.mono g3.ff) c ((h2.mono g2.ff).mono g3.ff)))
theorem s_seq {t u : TS} (h : t { D with nx := u D } σ S.H) : tSeq t u D σ S.H := h
theorem s_next (k : D.nx σ S.H) : tNext D σ S.H := k

/-! ### loops -/
/-- while: the state a of the loop, its slots e a, its measure -/
theorem s_while {α : Type} {c : TT} {tb : TS} (I : α → Prop) (e : α → En) (μ : α → Nat) (b : α → Bool) (a0 : α) (h : Sta K p S0 B m M n σ S l) (h0 : I a0) (hs : sub (e a0) l)
    (ht : ∀ a σ S, I a → Sta K p S0 B m M n σ S (e a) → EvT K p c σ S (b a))
    (hb : ∀ a σ S, I a → b a = true → Sta K p S0 B m M n σ S (e a) → ∀ D' : Ends, D'.rt = D.rt → (∀ a' σ' S' l', I a' → μ a' < μ a → Sta K p S0 B m M n σ' S' l' → sub (e a') l' → D'.nx σ' S'.H) →
      (∀ a' σ' S' l', I a' → μ a' < μ a → Sta K p S0 B m M n σ' S' l' → sub (e a') l' → D'.ct σ' S'.H) → (∀ σ' H', D'.bk σ' H' = D.nx σ' H') → tb D' σ S.H)
    (hd : ∀ a σ S, I a → b a = false → Sta K p S0 B m M n σ S (e a) → D.nx σ S.H) : tWhile c tb D σ S.H := by
  refine ⟨fun k σ' H' => ∃ a S', I a ∧ μ a = k ∧ S'.H = H' ∧ Sta K p S0 B m M n σ' S' (e a), ⟨μ a0, a0, S, h0, rfl, rfl, h.weak hs⟩, ?_⟩
  rintro k σ' H' ⟨a, S', ia, rfl, rfl, hst⟩
  refine ht a σ' S' ia hst S' (Gr.refl hst.ok) _ fun S2 g2 t2 => ?_
  have h2 := hst.grow0 g2 t2
  cases hba : b a with
  | true =>
    rw [if_pos rfl]
    have kk : ∀ a' σ' S' l', I a' → μ a' < μ a → Sta K p S0 B m M n σ' S' l' → sub (e a') l' → ∃ m', m' < μ a ∧ ∃ a S1, I a ∧ μ a = m' ∧ S1.H = S'.H ∧ Sta K p S0 B m M n σ' S1 (e a) :=
      fun a' σ' S' l' i' lt st' sb => ⟨μ a', lt, a', S', i', rfl, rfl, st'.weak sb⟩
    refine ⟨fun σ' H' => ∃ m', m' < μ a ∧ ∃ a S1, I a ∧ μ a = m' ∧ S1.H = H' ∧ Sta K p S0 B m M n σ' S1 (e a), fun σ' H' q => q, ?_⟩
    exact hb a σ' S2 ia hba h2 _ rfl kk kk fun _ _ => rfl
  | false =>
    rw [if_neg Bool.false_ne_true]
    exact hd a σ' S2 ia hba h2
theorem Sta.base {B' : Hp} (h : Sta K p S0 B m M n σ S l) (e : Ex B' S.F) : Sta K p S0 B' m M n σ S l := ⟨h.ok0, h.g, e, h.len, h.tb, h.tn, h.has, h.sep⟩
/-! ### what is walked: its items are data -/
def Src (K : PySem.W.Frag) (p : Option Addr) (J : It) (B : Hp) (ds : List DL.D) : Prop := ∀ (S' : Wd), Ex B S'.F → Ok K p S' → ∀ c : Nat,
  (c < ds.length → J.go c S'.H ∧ ∀ x H', J.yld c S'.H x H' → H' = S'.H ∧ ∃ d, ds[c]? = some d ∧ Rp K S'.F x d) ∧ (c = ds.length → J.stop c S'.H)
def EvS (K : PySem.W.Frag) (p : Option Addr) (wi : TI) (σ : L2.St) (S : Wd) (ds : List DL.D) : Prop := ∀ S1, Gr K p S S1 → ∀ R : It → Hp → Prop, (∀ J S2, Gr K p S1 S2 → S2.T ≤ S1.T → Src K p J S2.F ds → R J S2.H) → wi σ S1.H R
theorem es_list (h : EvD K p te σ S (.lst ds)) : EvS K p (iList K te) σ S ds := fun S1 g R q => h S1 g _ fun v S2 g2 t2 r => by
  cases r with
  | @lst a vs _ h1 r2 =>
  have there : ∀ S' : Wd, Ex S2.F S'.F → Ok K p S' → SqL K S'.H a vs := fun S' e o => .of (o.sub _ _ (e _ _ h1))
  refine ⟨a, rfl, ⟨vs, there S2 (fun _ _ q => q) g2.ok⟩, q _ S2 g2 t2 fun S' e o c => ⟨fun hc => ?_, fun hc => ?_⟩⟩
  · obtain ⟨x, hx, rx⟩ := r2.get (List.getElem?_eq_getElem hc)
    refine ⟨⟨vs, x, there S' e o, hx⟩, fun y H' hy => ?_⟩
    obtain ⟨e2, hy⟩ := hy
    have e3 := hy vs (there S' e o)
    rw [hx] at e3
    cases e3
    exact ⟨e2, _, List.getElem?_eq_getElem hc, rx.mono e⟩
  · exact ⟨vs, there S' e o, by rw [r2.length]; omega⟩
theorem es_tup (h : EvD K p te σ S (.tup ds)) : EvS K p (iTup K te) σ S ds := fun S1 g R q => h S1 g _ fun v S2 g2 t2 r => by
  cases r with
  | @tup a vs _ h1 r2 =>
  have there : ∀ S' : Wd, Ex S2.F S'.F → Ok K p S' → SqT K S'.H a vs := fun S' e o => Evl.ex_t (e.trans o.sub) h1
  refine ⟨a, rfl, ⟨vs, there S2 (fun _ _ q => q) g2.ok⟩, q _ S2 g2 t2 fun S' e o c => ⟨fun hc => ?_, fun hc => ?_⟩⟩
  · obtain ⟨x, hx, rx⟩ := r2.get (List.getElem?_eq_getElem hc)
    refine ⟨⟨vs, x, there S' e o, hx⟩, fun y H' hy => ?_⟩
    obtain ⟨e2, hy⟩ := hy
    have e3 := hy vs (there S' e o)
    rw [hx] at e3
    cases e3
    exact ⟨e2, _, List.getElem?_eq_getElem hc, rx.mono e⟩
  · exact ⟨vs, there S' e o, by rw [r2.length]; omega⟩
/-- the signs of a text -/
def signs (s : Str) : List DL.D := s.cps.toList.map fun c => .str ⟨#[c]⟩
theorem es_str {s : Str} (h : EvD K p te σ S (.str s)) : EvS K p (iStr te) σ S (signs s) := fun S1 g R q => h S1 g _ fun v S2 g2 t2 r => by
  cases r
  refine ⟨s, rfl, q _ S2 g2 t2 fun S' e o c => ⟨fun hc => ?_, fun hc => ?_⟩⟩
  · have hc' : c < s.cps.size := by unfold signs at hc; rw [List.length_map, Array.length_toList] at hc; exact hc
    refine ⟨hc', fun x H' hx => ?_⟩
    obtain ⟨e1, z, e2, e3⟩ := hx
    subst e3
    refine ⟨e1, .str ⟨#[z]⟩, ?_, .str _⟩
    unfold signs
    rw [List.getElem?_map, Array.getElem?_toList, e2]
    rfl
  · unfold signs at hc
    rw [List.length_map, Array.length_toList] at hc
    exact Nat.le_of_eq hc.symm
/-- lo, lo + 1, .. -/
def rng (lo : Int) (n : Nat) : List DL.D := (List.range n).map fun i => .int (lo + (i : Nat))
theorem rng_get {lo : Int} {n c : Nat} (h : c < n) : (rng lo n)[c]? = some (.int (lo + (c : Nat))) := by
  unfold rng
  rw [List.getElem?_map, List.getElem?_range h]
  rfl
theorem src_rng {lo : Int} {n : Nat} {B : Hp} : Src K p (Itr lo n) B (rng lo n) := fun S' e o c => by
  have el : (rng lo n).length = n := by unfold rng; rw [List.length_map, List.length_range]
  rw [el]
  refine ⟨fun hc => ⟨hc, fun x H' hx => ?_⟩, fun hc => Nat.le_of_eq hc.symm⟩
  obtain ⟨e1, e2⟩ := hx
  subst e2
  exact ⟨e1, _, rng_get hc, .int _⟩
theorem es_rng1 {ta : TA} {z : Int} (h : EvAH K p ta σ S [.int z]) (hz : -(2 ^ 62) ≤ z ∧ z < 2 ^ 62) : EvS K p (iRng1 ta) σ S (rng 0 z.toNat) := fun S1 g R q => h S1 g _ fun vs S2 g2 t2 r => by
  cases r with
  | cons r1 r2 => cases r2; cases r1; exact ⟨z, rfl, hz.1, hz.2, q _ S2 g2 t2 src_rng⟩
theorem es_rng2 {ta : TA} {y z : Int} (h : EvAH K p ta σ S [.int y, .int z]) (hy : -(2 ^ 62) ≤ y ∧ y < 2 ^ 62) (hz : -(2 ^ 62) ≤ z ∧ z < 2 ^ 62) : EvS K p (iRng2 ta) σ S (rng y (z - y).toNat) := fun S1 g R q => h S1 g _ fun vs S2 g2 t2 r => by
  cases r with
  | cons r1 r2 => cases r2 with
    | cons r2 r3 => cases r3; cases r1; cases r2; exact ⟨y, z, rfl, ⟨hy.1, hy.2, hz.1, hz.2⟩, q _ S2 g2 t2 src_rng⟩
/-- for x in what is walked: each turn draws at most w times -/
theorem s_for {α : Type} {wi : TI} {tb : TS} {w : Nat} (I : Nat → α → Prop) (e : α → En) (a0 : α) (h : Sta K p S0 B m M n σ S l) (hq : EvS K p wi σ S ds) (hi : i < m) (h0 : I 0 a0) (hs : sub (e a0) l)
    (hb : ∀ (B' : Hp) (c : Nat) (a : α) (d : DL.D) σ S, ds[c]? = some d → I c a → Sta K p S0 B' m M (n + c * w) σ S (put i (.dat d) (e a)) → ∀ D' : Ends, D'.rt = D.rt → (∀ a' σ' S' l', I (c + 1) a' → Sta K p S0 B' m M (n + (c + 1) * w) σ' S' l' → sub (e a') l' → D'.nx σ' S'.H) →
      (∀ a' σ' S' l', I (c + 1) a' → Sta K p S0 B' m M (n + (c + 1) * w) σ' S' l' → sub (e a') l' → D'.ct σ' S'.H) → (∀ σ' H', D'.bk σ' H' = D.nx σ' H') → tb D' σ S.H)
    (hd : ∀ a σ S, I ds.length a → Sta K p S0 B m M (n + ds.length * w) σ S (e a) → D.nx σ S.H) : tFor wi (gName i) tb D σ S.H := by
  refine hq S (Gr.refl h.ok) _ fun J S2 g2 t2 src => ?_
  have H2 := h.grow0 g2 t2
  refine ⟨fun c k σ' H' => k = ds.length - c ∧ c ≤ ds.length ∧ ∃ a S', I c a ∧ S'.H = H' ∧ Sta K p S0 S2.F m M (n + c * w) σ' S' (e a), ⟨ds.length, by simp, Nat.zero_le _, a0, S2, h0, rfl, by rw [Nat.zero_mul]; exact (H2.base (fun _ _ q => q)).weak hs⟩, ?_⟩
  rintro c k σ' H' ⟨rfl, hc, a, S', ia, rfl, st⟩
  obtain ⟨s1, s2⟩ := src S' st.bs st.ok c
  by_cases hlt : c < ds.length
  · obtain ⟨go, yl⟩ := s1 hlt
    refine .inr ⟨go, fun σ' H' => ∃ a S', I (c + 1) a ∧ S'.H = H' ∧ Sta K p S0 S2.F m M (n + (c + 1) * w) σ' S' (e a), fun σ' H' q => ⟨ds.length - (c + 1), by omega, rfl, hlt, q⟩, fun x H' y => ?_⟩
    obtain ⟨eH, d, hd', rx⟩ := yl x H' y
    subst eH
    have st2 : Sta K p S0 S2.F m M (n + c * w) (σ'.set i (some x)) S' (put i (.dat d) (e a)) := st.set hi rx (fun z => by cases z)
    exact hb S2.F c a d _ S' hd' ia st2 _ rfl (fun a' σ'' S'' l' i' st' sb => ⟨a', S'', i', rfl, st'.weak sb⟩) (fun a' σ'' S'' l' i' st' sb => ⟨a', S'', i', rfl, st'.weak sb⟩) fun _ _ => rfl
  · have ec : c = ds.length := by omega
    subst ec
    exact .inl ⟨s2 rfl, hd a σ' S' ia (st.base (h.bs.trans (g2.ff.trans st.bs)))⟩

/-! ### list comprehensions -/
theorem get_del_mem {vs : List Nat} : ∀ {l : En} {q : Nat × Ty}, q ∈ l.filter (fun q => !vs.contains q.1) → q ∈ l ∧ q.1 ∉ vs := fun {l q} h => by
  obtain ⟨h1, h2⟩ := List.mem_filter.mp h
  exact ⟨h1, fun z => by simp [z] at h2⟩
theorem wipe_get {σ : L2.St} {j : Nat} : ∀ {vs : List Nat}, j ∉ vs → (wipe σ vs)[j]? = σ[j]?
  | [], _ => rfl
  | v :: vs, h => by
    unfold wipe
    rw [List.getElem?_set_ne (fun z => h (by rw [z]; exact List.mem_cons_self))]
    exact wipe_get fun z => h (List.mem_cons_of_mem _ z)
/-- the state within a comprehension's block -/
theorem Sta.wiped (vs : List Nat) (h : Sta K p S0 B m M n σ S l) : Sta K p S0 B m M n (wipe σ vs) S (l.filter fun q => !vs.contains q.1) := by
  refine ⟨h.ok0, h.g, h.bs, by rw [wipe_length]; exact h.len, h.tb, h.tn, fun q hq => ?_, fun a ha b hb ne oa ob v ea => ?_⟩
  · obtain ⟨h1, h2⟩ := get_del_mem hq
    rw [wipe_get h2]
    exact h.has q h1
  · obtain ⟨h1, h2⟩ := get_del_mem ha
    obtain ⟨h3, h4⟩ := get_del_mem hb
    rw [wipe_get h2] at ea
    rw [wipe_get h4]
    exact h.sep a h1 b h3 ne oa ob v ea
theorem wipe_set {σ : L2.St} {i : Nat} {x : Option V} : ∀ {vs : List Nat}, i ∈ vs → wipe (σ.set i x) vs = wipe σ vs
  | v :: vs, h => by
    unfold wipe
    by_cases hv : i ∈ vs
    · rw [wipe_set hv]
    · have e : v = i := by
        rcases List.mem_cons.mp h with h | h
        · exact h.symm
        · exact absurd h hv
      subst e
      have : ∀ vs : List Nat, v ∉ vs → wipe (σ.set v x) vs = (wipe σ vs).set v x := by
        intro vs
        induction vs with
        | nil => intro _; rfl
        | cons u us ih =>
          intro hu
          unfold wipe
          rw [ih (fun z => hu (List.mem_cons_of_mem _ z)), List.set_comm]
          exact fun z => hu (by rw [z]; exact List.mem_cons_self)
      rw [this vs hv, List.set_set]
theorem wipe_wipe {σ : L2.St} : ∀ {vs us : List Nat}, (∀ v ∈ vs, v ∈ us) → wipe (wipe σ vs) us = wipe σ us
  | [], _, _ => rfl
  | v :: vs, us, h => by
    show wipe ((wipe σ vs).set v none) us = _
    rw [wipe_set (h v List.mem_cons_self), wipe_wipe fun x hx => h x (List.mem_cons_of_mem _ hx)]
/-- an object that is new since S1, and not fixed, changes -/
theorem Gr.chg {A : Addr} {o : HO} (ok1 : Ok K p S1) (g : Gr K p S1 S) (h0 : S1.H A = none) (hF : S.F A = none) : Gr K p S1 ⟨S.F, upd S.H A o, S.T⟩ := by
  refine ⟨g.ff, fun b o q np => ?_, fun b q => ?_, g.old, ⟨fun b o q => ?_, fun b q => ?_⟩⟩ <;> dsimp only at *
  · rw [upd_ne (ne_of_none q h0)]
    exact g.hh b o q np
  · have hb : b ≠ A := fun z => by subst z; exact q h0
    rw [upd_ne hb]
    exact g.al b q
  · have hb : b ≠ A := fun z => by subst z; rw [hF] at q; cases q
    rw [upd_ne hb]
    exact g.ok.sub b o q
  · obtain ⟨⟨c, t, r, cs, q1, q2, q3⟩, q4⟩ := g.ok.pen b q
    have hb : b ≠ A := fun z => by subst z; exact ok_ne ok1 h0 q.symm
    exact ⟨⟨c, t, r, cs, by rw [upd_ne hb]; exact q1, q2, q3⟩, q4⟩
/-- [f x for x in what is walked if b x] -/
theorem eo_lc {wi : TI} {tt : TT} {vs : List Nat} {b : DL.D → Bool} {f : DL.D → DL.D} (h : Sta K p S0 B m M n σ S l) (hq : EvS K p wi σ S ds) (hi : i < m) (hv : vs.contains i = true)
    (he : ∀ d ∈ ds, ∀ B' n' σ' S', Sta K p S0 B' m M n' σ' S' (put i (.dat d) (l.filter fun q => !vs.contains q.1)) → EvT K p tt σ' S' (b d) ∧ (b d = true → EvD K p te σ' S' (f d))) (hz : ds.length < sizeLine) :
    EvO K p (tLc wi (gName i) tt te vs) σ S ((ds.filter b).map f) := by
  intro S1 g1 Q q
  have hm : i ∈ vs := by simpa using hv
  refine hq S1 g1 _ fun J S2 g2 t2 src => ?_
  intro A hA
  have hF2 := g2.ok.freshF hA
  have hAp := ok_ne g2.ok hA
  refine ⟨fun c k H' => k = ds.length - c ∧ c ≤ ds.length ∧ ∃ S' acc, S'.H = H' ∧ Gr K p S2 S' ∧ S'.T ≤ S2.T ∧ S'.H A = some (.lst acc) ∧ S'.F A = none ∧ Rps K S'.F acc (((ds.take c).filter b).map f),
    ⟨ds.length, by simp, Nat.zero_le _, ⟨S2.F, upd S2.H A (.lst []), S2.T⟩, [], rfl, Gr.newO g2.ok hA, Nat.le_refl _, upd_same, hF2, by rw [List.take_zero]; exact .nil⟩, ?_⟩
  rintro c k H' ⟨rfl, hc, S', acc, rfl, g', t', hA', hF', ra⟩
  obtain ⟨s1, s2⟩ := src S' g'.ff g'.ok c
  by_cases hlt : c < ds.length
  · obtain ⟨go, yl⟩ := s1 hlt
    refine .inr ⟨go, fun H' => ∃ S' acc, S'.H = H' ∧ Gr K p S2 S' ∧ S'.T ≤ S2.T ∧ S'.H A = some (.lst acc) ∧ S'.F A = none ∧ Rps K S'.F acc (((ds.take (c + 1)).filter b).map f), fun H' q => ⟨ds.length - (c + 1), by omega, rfl, hlt, q⟩, fun x H' y => ?_⟩
    obtain ⟨eH, d, hd, rx⟩ := yl x H' y
    subst eH
    have st := (h.any ((g1.trans g2).trans g')).wiped vs
    have st2 := (st.set (t := .dat d) hi rx (fun z => by cases z)).base (fun _ _ q => q)
    obtain ⟨e1, e2⟩ := he d (List.mem_of_getElem? hd) _ _ _ _ st2
    refine ⟨by rw [wipe_set hm, wipe_wipe fun _ z => z], e1 S' (Gr.refl g'.ok) _ fun S3 g3 t3 => ?_⟩
    have tk : (ds.take (c + 1)).filter b = if b d = true then (ds.take c).filter b ++ [d] else (ds.take c).filter b := by
      rw [List.take_succ, hd, List.filter_append]
      simp only [Option.toList, List.filter_cons, List.filter_nil]
      split <;> simp
    cases hb : b d with
    | true =>
      rw [if_pos rfl]
      refine e2 hb S3 g3 _ fun y S4 g4 t4 ry => ?_
      have g5 := g3.trans g4
      have hA4 := g5.hh _ _ hA' hAp
      have hF4 : S4.F A = none := (g5.old A (by rw [hA']; simp)).trans hF'
      have hl : acc.length ≤ ds.length := by
        rw [ra.length, List.length_map]
        exact Nat.le_trans (List.length_filter_le _ _) (by rw [List.length_take]; omega)
      refine ⟨acc, hA4, by omega, ⟨S4.F, upd S4.H A (.lst (acc ++ [y])), S4.T⟩, acc ++ [y], rfl, Gr.chg g2.ok (g'.trans g5) hA hF4, by show S4.T ≤ _; omega, upd_same, hF4, ?_⟩
      rw [tk, hb, if_pos rfl, List.map_append]
      exact ((ra.mono g5.ff).snoc ry)
    | false =>
      rw [if_neg Bool.false_ne_true]
      have hA3 := g3.hh _ _ hA' hAp
      have hF3 : S3.F A = none := (g3.old A (by rw [hA']; simp)).trans hF'
      refine ⟨S3, acc, rfl, g'.trans g3, by omega, hA3, hF3, ?_⟩
      rw [tk, hb, if_neg Bool.false_ne_true]
      exact ra.mono g3.ff
  · have e : c = ds.length := by omega
    subst e
    rw [List.take_length] at ra
    exact .inl ⟨s2 rfl, q A acc S' (g2.trans g') (by omega) (g2.fresh hA) hA' hF' ra⟩
/-- [draws for x in what is walked], no test; each item draws at most w times -/
theorem en_lc {wi : TI} {vs : List Nat} {w : Nat} {R : DL.D → DL.D → Prop} (h : Sta K p S0 B m M n σ S l) (hq : EvS K p wi σ S ds) (hi : i < m) (hv : vs.contains i = true)
    (he : ∀ d ∈ ds, ∀ B' n' σ' S', Sta K p S0 B' m M n' σ' S' (put i (.dat d) (l.filter fun q => !vs.contains q.1)) → EvN K p te σ' S' w (R d)) (hz : ds.length < sizeLine) :
    EvON K p (tLc wi (gName i) tYes te vs) σ S (ds.length * w) (fun es => es.length = ds.length ∧ ∀ (c : Nat) (d e : DL.D), ds[c]? = some d → es[c]? = some e → R d e) := by
  intro S1 g1 hB Q q
  have hm : i ∈ vs := by simpa using hv
  refine hq S1 g1 _ fun J S2 g2 t2 src => ?_
  intro A hA
  have hF2 := g2.ok.freshF hA
  have hAp := ok_ne g2.ok hA
  refine ⟨fun c k H' => k = ds.length - c ∧ c ≤ ds.length ∧ ∃ S' acc es, S'.H = H' ∧ Gr K p S2 S' ∧ S'.T ≤ S2.T + c * w ∧ S'.H A = some (.lst acc) ∧ S'.F A = none ∧ Rps K S'.F acc es ∧ es.length = c ∧ ∀ (c' : Nat) (d e : DL.D), ds[c']? = some d → es[c']? = some e → R d e,
    ⟨ds.length, by simp, Nat.zero_le _, ⟨S2.F, upd S2.H A (.lst []), S2.T⟩, [], [], rfl, Gr.newO g2.ok hA, by show S2.T ≤ _; omega, upd_same, hF2, .nil, rfl, fun c' d e _ q => by simp at q⟩, ?_⟩
  rintro c k H' ⟨rfl, hc, S', acc, es, rfl, g', t', hA', hF', ra, el, hes⟩
  obtain ⟨s1, s2⟩ := src S' g'.ff g'.ok c
  by_cases hlt : c < ds.length
  · obtain ⟨go, yl⟩ := s1 hlt
    refine .inr ⟨go, fun H' => ∃ S' acc es, S'.H = H' ∧ Gr K p S2 S' ∧ S'.T ≤ S2.T + (c + 1) * w ∧ S'.H A = some (.lst acc) ∧ S'.F A = none ∧ Rps K S'.F acc es ∧ es.length = c + 1 ∧ ∀ (c' : Nat) (d e : DL.D), ds[c']? = some d → es[c']? = some e → R d e, fun H' q => ⟨ds.length - (c + 1), by omega, rfl, hlt, q⟩, fun x H' y => ?_⟩
    obtain ⟨eH, d, hd, rx⟩ := yl x H' y
    subst eH
    have st := (h.any ((g1.trans g2).trans g')).wiped vs
    have st2 := (st.set (t := .dat d) hi rx (fun z => by cases z)).base (fun _ _ q => q)
    have e2 := he d (List.mem_of_getElem? hd) _ _ _ _ st2
    have hw : c * w + w ≤ ds.length * w := by
      have : (c + 1) * w ≤ ds.length * w := Nat.mul_le_mul_right w hlt
      rw [Nat.add_mul, Nat.one_mul] at this
      exact this
    refine ⟨by rw [wipe_set hm, wipe_wipe fun _ z => z], ?_⟩
    show te _ S'.H _
    refine e2 S' (Gr.refl g'.ok) (by omega) _ fun y e S4 g4 t4 ry hR => ?_
    have hA4 := g4.hh _ _ hA' hAp
    have hF4 : S4.F A = none := (g4.old A (by rw [hA']; simp)).trans hF'
    have hl : acc.length ≤ ds.length := by rw [ra.length, el]; omega
    refine ⟨acc, hA4, by omega, ⟨S4.F, upd S4.H A (.lst (acc ++ [y])), S4.T⟩, acc ++ [y], es ++ [e], rfl, Gr.chg g2.ok (g'.trans g4) hA hF4, ?_, upd_same, hF4, (ra.mono g4.ff).snoc ry, by rw [List.length_append, el]; rfl, fun c' d' e' h1 h2 => ?_⟩
    · show S4.T ≤ _
      rw [Nat.add_mul, Nat.one_mul]
      omega
    · by_cases hcc : c' < es.length
      · rw [List.getElem?_append_left hcc] at h2
        exact hes c' d' e' h1 h2
      · have hce : c' = c := by
          have := (List.getElem?_eq_some_iff.mp h2).1
          rw [List.length_append, List.length_singleton] at this
          omega
        subst hce
        rw [List.getElem?_append_right (by omega), el, Nat.sub_self] at h2
        cases h2
        rw [hd] at h1
        cases h1
        exact hR
  · have e : c = ds.length := by omega
    subst e
    exact .inl ⟨s2 rfl, q A acc es S' (g2.trans g') (by omega) (g2.fresh hA) hA' hF' ra ⟨el, hes⟩⟩
theorem EvON.ed {P : List DL.D → Prop} (h : EvON K p te σ S n P) : EvN K p te σ S n (fun d => ∃ ds, d = .lst ds ∧ P ds) := fun S1 g hb Q q => h S1 g hb Q fun a vs ds S2 g2 t h0 h1 h2 r hp =>
  q (.ref a) _ ⟨upd S2.F a (.lst vs), S2.H, S2.T⟩ (g2.fix h0 h1 h2 (ok_ne g.ok h0)) t (.lst upd_same (r.mono (Ex.new h2))) ⟨ds, rfl, hp⟩
end
end DL
namespace DL
open PySem L2
open Evl (Ex)
variable {K : PySem.W.Frag} {p : Option Addr} {S S0 S1 S2 S3 : Wd} {B : Hp} {σ σ' : L2.St} {te ta tb tc to : TE} {d d1 d2 d3 : D} {ds es : List D} {v : V} {m M n k : Nat} {P P1 P2 : D → Prop} {l l' : En} {i j : Nat} {t : Ty}

/-! ## promises -/
/-- a def that reads data and hands back new data -/
def spP (K : PySem.W.Frag) (n : Nat) (pre : List D → Prop) (f : List D → D) : Sp := fun vs H Q _ => ∃ (F : Hp) (ds : List D), Ok K none ⟨F, H, 0⟩ ∧ Rps K F vs ds ∧ ds.length = n ∧ pre ds ∧ ∀ v F' H', Gr K none ⟨F, H, 0⟩ ⟨F', H', 0⟩ → Rp K F' v (f ds) → Q v H'
/-- a def that draws: its first argument is the pen, at most N draws -/
def spN (K : PySem.W.Frag) (n N : Nat) (pre : List D → Prop) (post : List D → D → Prop) : Sp := fun vs H Q _ => ∃ (S : Wd) (a : Addr) (ws : List V) (ds : List D), vs = .ref a :: ws ∧ S.H = H ∧ Ok K (some a) S ∧ Rps K S.F ws ds ∧ ds.length = n ∧ pre ds ∧ S.T + N ≤ 1000000000 ∧
  ∀ v d S', Gr K (some a) S S' → S'.T ≤ S.T + N → Rp K S'.F v d → post ds d → Q v S'.H
theorem spP_len {pre : List D → Prop} {f : List D → D} {vs : List V} {H : Hp} {Q : VK} {E : XK} (h : spP K n pre f vs H Q E) : vs.length = n := by
  obtain ⟨F, ds, _, r, hl, _⟩ := h
  rw [r.length, hl]
theorem spN_len {N : Nat} {pre : List D → Prop} {post : List D → D → Prop} {vs : List V} {H : Hp} {Q : VK} {E : XK} (h : spN K n N pre post vs H Q E) : vs.length = n + 1 := by
  obtain ⟨S, a, ws, ds, rfl, _, _, r, hl, _⟩ := h
  rw [List.length_cons, r.length, hl]
/-- the slots at the entry -/
def ents : Nat → List D → En
  | _, [] => []
  | k, d :: ds => (k, .dat d) :: ents (k + 1) ds
theorem ents_mem : ∀ {ds : List D} {k : Nat} {q : Nat × Ty}, q ∈ ents k ds → ∃ (c : Nat) (d : D), q = (k + c, .dat d) ∧ ds[c]? = some d
  | d :: ds, k, q, h => by
    rcases List.mem_cons.mp h with rfl | h
    · exact ⟨0, d, rfl, rfl⟩
    · obtain ⟨c, e, rfl, h2⟩ := ents_mem h
      exact ⟨c + 1, e, by rw [Nat.add_assoc, Nat.add_comm 1 c], by simpa using h2⟩
theorem start_get {N : List Str} {vs : List V} {c : Nat} {x : V} (h : vs[c]? = some x) : (L2.start N vs)[c]? = some (some x) := by
  unfold L2.start
  have hc := (List.getElem?_eq_some_iff.mp h).1
  rw [List.getElem?_append_left (by simpa using hc), List.getElem?_map, h]
  rfl
theorem start_len {N : List Str} {vs : List V} (h : vs.length ≤ N.length) : (L2.start N vs).length = N.length := by
  unfold L2.start
  rw [List.length_append, List.length_map, List.length_replicate]
  omega
theorem sta_start {N : List Str} {vs : List V} (ok : Ok K p S) (r : Rps K S.F vs ds) (hl : vs.length ≤ N.length) (hM : S.T + M ≤ 1000000000) : Sta K p S S.F N.length M 0 (L2.start N vs) S (ents 0 ds) := by
  refine ⟨ok, Gr.refl ok, fun _ _ q => q, start_len hl, hM, Nat.le_refl _, fun q hq => ?_, fun a ha b hb ne oa => ?_⟩
  · obtain ⟨c, d, rfl, hc⟩ := ents_mem hq
    obtain ⟨x, hx, rx⟩ := r.get hc
    refine ⟨x, ?_, rx⟩
    rw [Nat.zero_add]
    exact start_get hx
  · obtain ⟨c, d, rfl, hc⟩ := ents_mem ha
    cases oa
theorem sta_startN {N : List Str} {a : Addr} {vs : List V} (ok : Ok K p S) (r : Rps K S.F vs ds) (hl : vs.length + 1 ≤ N.length) (hM : S.T + M ≤ 1000000000) : Sta K p S S.F N.length M 0 (L2.start N (.ref a :: vs)) S ((0, .val (.ref a)) :: ents 1 ds) := by
  refine ⟨ok, Gr.refl ok, fun _ _ q => q, start_len (by simpa using hl), hM, Nat.le_refl _, fun q hq => ?_, fun x hx b hb ne oa => ?_⟩
  · rcases List.mem_cons.mp hq with rfl | hq
    · exact ⟨.ref a, start_get rfl, rfl⟩
    · obtain ⟨c, d, rfl, hc⟩ := ents_mem hq
      obtain ⟨x, hx, rx⟩ := r.get hc
      refine ⟨x, ?_, rx⟩
      rw [Nat.add_comm 1 c]
      exact start_get (by simpa using hx)
  · rcases List.mem_cons.mp hx with rfl | hx
    · cases oa
    · obtain ⟨c, d, rfl, hc⟩ := ents_mem hx
      cases oa
/-- f(..) of such a def -/
theorem ed_call {pre : List D → Prop} {f : List D → D} {t : TA} {E : XK} (h : EvA K p t σ S ds) (hn : ds.length = n) (hp : pre ds) : EvD K p (tCall (spP K n pre f) [] E t) σ S (f ds) := fun S1 g Q q =>
  h S1 g _ fun vs S2 g2 t2 rs => by
    rw [List.append_nil]
    refine ⟨S2.F, ds, ⟨g2.ok.sub, fun a e => by cases e⟩, rs, hn, hp, fun v F' H' g' r => ?_⟩
    have g3 : Gr K none S2 ⟨F', H', S2.T⟩ := ⟨g'.ff, g'.hh, g'.al, g'.old, ⟨g'.ok.sub, fun a e => by cases e⟩⟩
    exact q v ⟨F', H', S2.T⟩ (g2.trans (g3.up g2.ok rfl)) t2 r
/-- f(k = e, ..) -/
theorem ed_callK {pre : List D → Prop} {f : List D → D} {tk : TA} {E : XK} {gV : List V → List V → List V} {gD : List D → List D} (h : EvA K p tk σ S ds) (hg : ∀ F vs, Rps K F vs ds → Rps K F (gV [] vs) (gD ds)) (hn : (gD ds).length = n) (hp : pre (gD ds)) : EvD K p (tCallK (spP K n pre f) gV E tNil tk) σ S (f (gD ds)) := fun S1 g Q q =>
  h S1 g _ fun vs S2 g2 t2 rs => by
    refine ⟨S2.F, gD ds, ⟨g2.ok.sub, fun a e => by cases e⟩, hg _ _ rs, hn, hp, fun v F' H' g' r => ?_⟩
    have g3 : Gr K none S2 ⟨F', H', S2.T⟩ := ⟨g'.ff, g'.hh, g'.al, g'.old, ⟨g'.ok.sub, fun a e => by cases e⟩⟩
    exact q v ⟨F', H', S2.T⟩ (g2.trans (g3.up g2.ok rfl)) t2 r
/-- f(pen, ..): the arguments behind the pen draw nothing -/
theorem en_call {a : Addr} {N : Nat} {pre : List D → Prop} {post : List D → D → Prop} {t : TA} {E : XK} (hv : EvV K (some a) te σ S (.ref a)) (h : EvA K (some a) t σ S ds) (hn : ds.length = n) (hp : pre ds) : EvN K (some a) (tCall (spN K n N pre post) [] E (tCons te t)) σ S N (post ds) := fun S1 g hb Q q =>
  hv S1 g _ fun S2 g2 t2 => h S2 (g.trans g2) _ fun vs S3 g3 t3 rs => by
    show spN K n N pre post ((.ref a :: vs) ++ []) S3.H Q E
    rw [List.append_nil]
    refine ⟨S3, a, vs, ds, rfl, rfl, g3.ok, rs, hn, hp, by omega, fun v d S' g' t' r k => ?_⟩
    exact q v d S' ((g2.trans g3).trans g') (by omega) r k
/-- f(pen, e): e draws too -/
theorem en_callN {a : Addr} {N : Nat} {pre : List D → Prop} {post : List D → D → Prop} {E : XK} (hv : EvV K (some a) te σ S (.ref a)) (h : EvN K (some a) ta σ S k P) (hp : ∀ d, P d → pre [d]) : EvN K (some a) (tCall (spN K 1 N pre post) [] E (tCons te (tCons ta tNil))) σ S (k + N) (fun e => ∃ d, P d ∧ post [d] e) := fun S1 g hb Q q =>
  hv S1 g _ fun S2 g2 t2 => h S2 (g.trans g2) (by omega) _ fun v d S3 g3 t3 r3 p3 => by
    show spN K 1 N pre post _ S3.H Q E
    refine ⟨S3, a, [v], [d], rfl, rfl, g3.ok, .one r3, rfl, hp d p3, by omega, fun v' d' S' g' t' r k => ?_⟩
    exact q v' d' S' ((g2.trans g3).trans g') (by omega) r ⟨d, p3, k⟩

/-! ### isinstance -/
def tyD : D → Option String
  | .non => some "NoneType"
  | .bl _ => some "bool"
  | .int _ => some "int"
  | .str _ => some "str"
  | .lst _ => some "list"
  | .tup _ => some "tuple"
  | .dic _ => some "dict"
  | _ => none
theorem tyX_rp {H : Hp} {T : String} (r : Rp K H v d) (h : tyD d = some T) : TyX K H v (.type T) := by
  cases r with
  | non => cases h; exact .base .non
  | bl b => cases h; exact .base (.bl b)
  | int b => cases h; exact .base (.int b)
  | str b => cases h; exact .base (.str b)
  | lst h1 => cases h; exact .base (.lst h1)
  | tup h1 =>
    cases h
    rcases h1 with (h1 | ⟨o, h1⟩) | ⟨o, its, n, hk, hc, _⟩
    · exact .base (.tup h1)
    · exact .fTuple h1
    · exact .kTuple hk hc
  | dic h1 => cases h; exact .base (.dK h1)
  | ins _ => cases h
  | val _ => cases h
/-- the answer of isinstance with a built-in class -/
def isiD (U : String) (d : D) : Option Bool := (tyD d).bind fun T => kitB T U
theorem ed_isi {U : String} {b : Bool} (h : EvH K p te σ S d) (hb : isiD U d = some b) : EvD K p (tCB (rIsi K) (tCons te (tCons (tC (.ty U)) tNil))) σ S (.bl b) := fun S1 g Q q => h S1 g _ fun x S2 g2 t2 r => by
  unfold isiD at hb
  cases e : tyD d with
  | none => rw [e] at hb; cases hb
  | some T =>
    rw [e] at hb
    exact ⟨x, .ty U, .type T, .type U, b, rfl, .ty U, tyX_rp (r.mono hide_ex) e, kit_ty hb, q _ S2 g2 t2 (.bl b)⟩
def isiD2 (U W : String) (d : D) : Option Bool := (isiD U d).bind fun a => if a then some true else isiD W d
theorem ed_isi2 {U W : String} {b : Bool} (h : EvH K p te σ S d) (hb : isiD2 U W d = some b) : EvD K p (tCB (rIsiT K) (tCons te (tCons (tTup (tCons (tC (.ty U)) (tCons (tC (.ty W)) tNil))) tNil))) σ S (.bl b) := fun S1 g Q q => h S1 g _ fun x S2 g2 t2 r => by
  unfold isiD2 isiD at hb
  cases e : tyD d with
  | none => rw [e] at hb; cases hb
  | some T =>
    rw [e] at hb
    refine ⟨by show 2 ≤ sizeLine; decide, fun A hA => ?_⟩
    have g3 : Gr K p S2 ⟨S2.F, upd S2.H A (.tup [.ty U, .ty W]), S2.T⟩ := Gr.newO g2.ok hA
    refine ⟨x, A, [.ty U, .ty W], .type T, [.type U, .type W], b, rfl, upd_same, .cons (.ty U) (.cons (.ty W) .nil), tyX_rp (r.mono (hide_ex.trans (Ex.new hA))) e, ?_, q _ _ (g2.trans g3) t2 (.bl b)⟩
    cases e1 : kitB T U with
    | none => simp [e1] at hb
    | some a =>
      refine kitAny_cons (kit_ty e1) (fun ha => ?_) (fun ha => ?_)
      · subst ha
        simp [e1] at hb
        refine kitAny_cons (kit_ty hb) (fun hb' => by rw [hb']; exact kitAny_nil) (fun hb' => hb')
      · subst ha
        simp [e1] at hb
        exact hb
def isStr : D → Option Bool
  | .str _ => some true
  | .ins _ _ => none
  | .val _ => none
  | _ => some false
def isRow : D → Option Bool
  | .lst _ => some true
  | .tup _ => some true
  | .ins _ _ => none
  | .val _ => none
  | _ => some false
def isTup : D → Option Bool
  | .tup _ => some true
  | .ins _ _ => none
  | .val _ => none
  | _ => some false
def isIntB : D → Option Bool
  | .int _ => some true
  | .bl _ => some true
  | .ins _ _ => none
  | .val _ => none
  | _ => some false
def isBl : D → Option Bool
  | .bl _ => some true
  | .ins _ _ => none
  | .val _ => none
  | _ => some false
theorem isi_str (d : D) : isiD "str" d = isStr d := by cases d <;> first | rfl | (unfold isiD tyD isStr; decide +kernel)
theorem isi_tup (d : D) : isiD "tuple" d = isTup d := by cases d <;> first | rfl | (unfold isiD tyD isTup; decide +kernel)
theorem isi_int (d : D) : isiD "int" d = isIntB d := by cases d <;> first | rfl | (unfold isiD tyD isIntB; decide +kernel)
theorem isi_bl (d : D) : isiD "bool" d = isBl d := by cases d <;> first | rfl | (unfold isiD tyD isBl; decide +kernel)
theorem isi_row (d : D) : isiD2 "list" "tuple" d = isRow d := by cases d <;> first | rfl | (unfold isiD2 isiD tyD isRow; decide +kernel)

/-! ### a call with keywords alone -/
section
variable {X : Cx} {CX : CXT} {f : Addr} {fd : FuncData} {ps ks : List Str} {sp : Sp} {E : XK} {x : Str} {pp pos : Pos} {kws : List Keyword} {tk : TA} {gs : List Value → List Value → List Value} {gV : List V → List V → List V}
theorem pe_callK0 (F : FnOk X.prog X.w X.K X.mg X.base CX k f fd ps sp) (hr : Room k X.A) (hg : Gl X x) (hm : X.mg x = some (.ref f)) (hk : PySem.W.keepIn X.K (.ref f) = true) (hb : KBinds X.K fd ps ks gs gV) (hx : Passes CX X E)
    (hkw : PK X kws tk) (hall : (backToKw pos (keywordEach kws X.env)).all (·.1.isSome) = true := by rfl) (hks : (backToKw pos (keywordEach kws X.env)).filterMap (·.1) = ks := by rfl)
    (hdb : (x == ("__debug__" : Str)) = false := by decide)
    (hpl : ((backTo pos (starEach [] X.env)).any (·.1) || (backToKw pos (keywordEach kws X.env)).any (·.1.isNone)) = false := by rfl) :
    PE X (.Call (.Name x pp) [] kws pos) (tCallK sp gV E tNil tk) := by
  refine ⟨fun pins s σ H Q I h => ?_⟩
  refine wpAny_Call_Name_kw (ld_glob I hg hm ?_ hdb)
  refine PySem.W.callWith_KW0 (h₀ := X.base) I.ok.mod.kin hk hall ?_ hpl
  refine thn (hkw.run pos pins s σ H _ I h) fun ws s2 hws => ?_
  obtain ⟨zs, H2, I2, rz, q2⟩ := hws
  refine ⟨I2.kIn, ?_⟩
  rw [hks]
  exact run_fnk F hr hb hx I2 .nil rz q2
end
end DL
namespace DL
open PySem L2
open Evl (Ex)
/-! ## operators that choose by the values -/
def rAddS : R2 := fun x y H Q => ∃ i j, x = .str i ∧ y = .str j ∧ i.length + j.length ≤ sizeLine ∧ Q (.str (i ++ j)) H
def rAddU (K : PySem.W.Frag) : R2 := fun x y H Q => rI0 (fun i j => .int (i + j)) x y H Q ∨ (rAddS x y H Q ∨ (rCat x y H Q ∨ rCatT K x y H Q))
def rMulU : R2 := fun x y H Q => rI IntMulOk (fun i j => .int (i * j)) x y H Q ∨ rRep x y H Q
/-- == of a list and an empty one -/
def rEqNil (K : PySem.W.Frag) : R2 := fun x y H Q => ∃ a b xs, x = .ref a ∧ y = .ref b ∧ SqL K H a xs ∧ SqL K H b [] ∧ Q (.bl xs.isEmpty) H
def rNeNil (K : PySem.W.Frag) : R2 := fun x y H Q => ∃ a b xs, x = .ref a ∧ y = .ref b ∧ SqL K H a xs ∧ SqL K H b [] ∧ Q (.bl (!xs.isEmpty)) H
def rEqU (K : PySem.W.Frag) : R2 := fun x y H Q => rEq x y H Q ∨ (rEqD K x y H Q ∨ rEqNil K x y H Q)
def rNeU (K : PySem.W.Frag) : R2 := fun x y H Q => rNe x y H Q ∨ (rNeD K x y H Q ∨ rNeNil K x y H Q)
def rSign : R2 := fun x y H Q => ∃ (c : Nat) (z : Str), x = .str ⟨#[c]⟩ ∧ y = .str z ∧ Q (.bl (decide (c ∈ z.cps.toList))) H
def rNSign : R2 := fun x y H Q => ∃ (c : Nat) (z : Str), x = .str ⟨#[c]⟩ ∧ y = .str z ∧ Q (.bl (!decide (c ∈ z.cps.toList))) H
def rInU (K : PySem.W.Frag) : R2 := fun x y H Q => rIn K false x y H Q ∨ rSign x y H Q
def rNinU (K : PySem.W.Frag) : R2 := fun x y H Q => rIn K true x y H Q ∨ rNSign x y H Q
def rIsN : R2 := fun x y H Q => y = .non ∧ Q (.bl (decide (x = .non))) H
def rNotN : R2 := fun x y H Q => y = .non ∧ Q (.bl (!decide (x = .non))) H
def CPowI (i n : Int) : Prop := 0 ≤ n ∧ (Builtin.Int.intBits i : Int) * n ≤ 2 ^ 27
def rLenU (K : PySem.W.Frag) : List V → Hp → VK → Prop := fun xs H Q => ∃ x n, xs = [x] ∧ LenV K x H n ∧ Q (.int n) H
def rAbs : List V → Hp → VK → Prop := fun xs H Q => ∃ i, xs = [.int i] ∧ Q (.int (if i < 0 then -i else i)) H
def rInt1 : List V → Hp → VK → Prop := fun xs H Q => (∃ i, xs = [.int i] ∧ Q (.int i) H) ∨ ∃ k, xs = [.bl k] ∧ Q (.int (if k then 1 else 0)) H
def rList (K : PySem.W.Frag) : List V → Hp → VK → Prop := fun xs H Q => ∃ p ys, xs = [.ref p] ∧ (SqL K H p ys ∨ SqT K H p ys) ∧ ∀ l, H l = none → Q (.ref l) (upd H l (.lst ys))
def rTuple (K : PySem.W.Frag) : List V → Hp → VK → Prop := fun xs H Q => ∃ p ys, xs = [.ref p] ∧ ((SqL K H p ys ∧ ∀ l, H l = none → Q (.ref l) (upd H l (.tup ys))) ∨ (SqT K H p ys ∧ Q (.ref p) H))
/-- the signs of a text as values -/
def signsV (s : Str) : List V := s.cps.toList.map fun c => .str ⟨#[c]⟩
def rListS : List V → Hp → VK → Prop := fun xs H Q => ∃ s, xs = [.str s] ∧ s.cps.size ≤ sizeLine ∧ ∀ l, H l = none → Q (.ref l) (upd H l (.lst (signsV s)))
/-- repr of nested data -/
def rRepr (K : PySem.W.Frag) : List V → Hp → VK → Prop := fun xs H Q => ∃ a d, xs = [.ref a] ∧ Dp K H (.ref a) d ∧ d.showable = true ∧ d.canLay0 = true ∧ d.depth ≤ 64 ∧ d.shown.length ≤ sizeLine ∧ Q (.str d.shown) H
section
variable {X : Cx}
theorem op_addU : OpR X (binaryOp .Add) (rAddU X.K) := op_add.or (op_add_str.or (op_cat.or op_catT))
theorem op_mulI : OpR X (binaryOp .Mult) (rI IntMulOk fun i j => .int (i * j)) := opI fun _ _ _ _ _ _ _ hc q => PyProof.Rows.mul_int q hc
theorem op_mulU : OpR X (binaryOp .Mult) rMulU := op_mulI.or op_rep
theorem op_eqNil (hu : X.A.units + 64 < cLine) : OpR X (compareOp .Eq) (rEqNil X.K) := by
  intro pins s σ H x y v u Q I rx ry h
  obtain ⟨a, b, xs, rfl, rfl, h1, h2, q⟩ := h
  cases (show v = Value.ref a from rx)
  cases (show u = Value.ref b from ry)
  obtain ⟨its, r, pl, hz⟩ := I.list h1
  obtain ⟨jts, r', pl', hz'⟩ := I.list h2
  cases r'
  cases r with
  | nil => exact PySem.SeqAt.eq_listAt (e := fun _ => true) pl.isList pl'.isList rfl (by omega) (fun j h1 _ => absurd h1 (Nat.not_lt_zero _)) ⟨.bl _, H, I, rfl, q⟩
  | cons _ _ => exact PySem.SeqAt.eq_list_lengthsAt pl.isList pl'.isList (by simp) (by omega) ⟨.bl _, H, I, rfl, q⟩
theorem op_neNil (hu : X.A.units + 64 < cLine) : OpR X (compareOp .NotEq) (rNeNil X.K) := by
  intro pins s σ H x y v u Q I rx ry h
  obtain ⟨a, b, xs, rfl, rfl, h1, h2, q⟩ := h
  cases (show v = Value.ref a from rx)
  cases (show u = Value.ref b from ry)
  obtain ⟨its, r, pl, hz⟩ := I.list h1
  obtain ⟨jts, r', pl', hz'⟩ := I.list h2
  cases r'
  cases r with
  | nil => exact PySem.SeqAt.RcNeAt.lists (e := fun _ => true) pl.isList pl'.isList rfl (by omega) (fun j h1 _ => absurd h1 (Nat.not_lt_zero _)) _ _ _ _ ⟨.bl _, H, I, rfl, q⟩
  | cons _ _ => exact PySem.SeqAt.RcNeAt.lists_lengths pl.isList pl'.isList (by simp) (by omega) _ _ _ _ ⟨.bl _, H, I, rfl, q⟩
theorem op_eqU (hu : X.A.units + 64 < cLine) : OpR X (compareOp .Eq) (rEqU X.K) := op_eq.or ((op_eqD hu).or (op_eqNil hu))
theorem op_neU (hu : X.A.units + 64 < cLine) : OpR X (compareOp .NotEq) (rNeU X.K) := op_ne.or ((op_neD hu).or (op_neNil hu))
theorem op_inU : OpR X (compareOp .In) (rInU X.K) := op_in_seq.or op_in_sign
theorem op_ninU : OpR X (compareOp .NotIn) (rNinU X.K) := op_notIn_seq.or op_notIn_sign
theorem op_powI : OpR X (binaryOp .Pow) (rI CPowI fun i j => .int (i ^ j.toNat)) := opI fun _ _ _ _ _ _ _ hc q => PyProof.Rows.pow_int hc.1 hc.2 q
theorem call_listS (hc : X.calm = true) : CallR X (.type "list") rListS := by
  intro pins s σ H xs us Q I r h
  obtain ⟨z, rfl, hz, q⟩ := h
  obtain ⟨u, rfl, t, rfl⟩ := vals1 r
  refine PySem.call_list_str (I.ok.hd hc) z t (fun h' tk acc' c' hk hl hi => ?_) hz
  have hf := I.hok.fresh (Nat.le_refl _)
  refine ⟨.ref s.heap.objs.size, upd H s.heap.objs.size (.lst (signsV z)), I.laid (t' := tk) hk (Nat.le_refl _) ?_, rfl, q _ hf⟩
  have hv : Vals (signsV z) acc'.toList := by
    refine L2.vals_of_at ?_ fun j x u hx hu => ?_
    · unfold signsV
      rw [List.length_map, Array.length_toList, Array.length_toList]
      exact hi.1.symm
    · unfold signsV at hx
      rw [List.getElem?_map, Array.getElem?_toList] at hx
      rw [Array.getElem?_toList] at hu
      obtain ⟨c, k, e1, e2⟩ := hi.2 j u hu
      rw [e1] at hx
      cases hx
      exact ⟨k, e2⟩
  exact ⟨by unfold signsV; rw [List.length_map, Array.length_toList]; exact hz, acc'.toList, c', hv, by simpa using hl⟩
theorem call_repr (hg : X.A.guards = some []) (hu : X.A.units + 66 < cLine) : CallR X (.builtin "repr") (rRepr X.K) := by
  intro pins s σ H xs us Q I r h
  obtain ⟨a, d, rfl, hd, h1, h2, h3, h4, q⟩ := h
  obtain ⟨u, rfl, rx⟩ := vals1 r
  obtain ⟨as, rd⟩ := Dp.reads I d _ u hd rx
  cases (show u = Value.ref a from rx)
  exact PySem.repr_of_reads' rd h1 (PySem.PyData.noDict_hsm (PySem.PyData.hasDict_of_canLay d h2)) hg (by omega) (fun _ _ e => e) (fun h' u tk hk => ⟨.str _, H, I.kept (t' := tk) hk, ⟨_, rfl⟩, q⟩) h4
end

/-! ### what they ask, over data -/
section
variable {K : PySem.W.Frag} {p : Option Addr} {S : Wd} {σ : L2.St} {te ta tb : TE} {d d1 d2 : D} {ds es : List D} {r r' : R2}
theorem RD.inl (h : RD K p r d1 d2 d) : RD K p (fun x y H Q => r x y H Q ∨ r' x y H Q) d1 d2 d := fun S1 x y o rx ry Q q => .inl (h S1 x y o rx ry Q q)
theorem RD.inr (h : RD K p r' d1 d2 d) : RD K p (fun x y H Q => r x y H Q ∨ r' x y H Q) d1 d2 d := fun S1 x y o rx ry Q q => .inr (h S1 x y o rx ry Q q)
theorem rd_add {i j : Int} : RD K p (rAddU K) (.int i) (.int j) (.int (i + j)) := RD.inl rd_I0
theorem rd_addS {a b : Str} (hz : a.length + b.length ≤ sizeLine) : RD K p (rAddU K) (.str a) (.str b) (.str (a ++ b)) := RD.inr (RD.inl (rd_adds hz))
theorem rd_mul {i j : Int} (h : IntMulOk i j) : RD K p rMulU (.int i) (.int j) (.int (i * j)) := RD.inl (rd_I h)
theorem rd_eqU (h1 : d1.sh = true) (h2 : d2.sh = true) : RD K p (rEqU K) d1 d2 (.bl (eqD d1 d2)) := RD.inr (RD.inl (rd_eq h1 h2))
theorem rd_neU (h1 : d1.sh = true) (h2 : d2.sh = true) : RD K p (rNeU K) d1 d2 (.bl (!eqD d1 d2)) := RD.inr (RD.inl (rd_ne h1 h2))
theorem rd_eqNil : RD K p (rEqU K) (.lst ds) (.lst []) (.bl ds.isEmpty) := RD.inr (RD.inr (rd_of (fun _ => .bl _) fun S1 x y o rx ry Q q => by
  cases rx with
  | lst h1 r1 => cases ry with
    | lst h2 r2 => cases r2; exact ⟨_, _, _, rfl, rfl, .of (hide_ex _ _ h1), .of (hide_ex _ _ h2), by cases r1 <;> exact q⟩))
theorem rd_neNil : RD K p (rNeU K) (.lst ds) (.lst []) (.bl (!ds.isEmpty)) := RD.inr (RD.inr (rd_of (fun _ => .bl _) fun S1 x y o rx ry Q q => by
  cases rx with
  | lst h1 r1 => cases ry with
    | lst h2 r2 => cases r2; exact ⟨_, _, _, rfl, rfl, .of (hide_ex _ _ h1), .of (hide_ex _ _ h2), by cases r1 <;> exact q⟩))
theorem rd_eqUs {a b : Str} : RD K p (rEqU K) (.str a) (.str b) (.bl (decide (a = b))) := RD.inl rd_eqs
theorem rd_nes {a b : Str} : RD K p rNe (.str a) (.str b) (.bl (!decide (a = b))) := rd_of (fun _ => .bl _) fun S1 x y o rx ry Q q => by
  cases rx; cases ry
  have e : decide (V.str a = V.str b) = decide (a = b) := by
    by_cases h : a = b
    · subst h; simp
    · rw [decide_eq_false h, decide_eq_false (fun z => h (V.str.inj z))]
  exact ⟨rfl, by rw [e]; exact q⟩
theorem rd_neUs {a b : Str} : RD K p (rNeU K) (.str a) (.str b) (.bl (!decide (a = b))) := RD.inl rd_nes
theorem rd_inUT (h1 : flatD d1 = true) (h2 : ds.all flatD = true) : RD K p (rInU K) d1 (.tup ds) (.bl (inD d1 ds)) := RD.inl (rd_inT (neg := false) h1 h2)
theorem rd_inUL (h1 : flatD d1 = true) (h2 : ds.all flatD = true) : RD K p (rInU K) d1 (.lst ds) (.bl (inD d1 ds)) := RD.inl (rd_inL (neg := false) h1 h2)
theorem rd_ninUT (h1 : flatD d1 = true) (h2 : ds.all flatD = true) : RD K p (rNinU K) d1 (.tup ds) (.bl (!inD d1 ds)) := RD.inl (rd_inT (neg := true) h1 h2)
theorem rd_ninUL (h1 : flatD d1 = true) (h2 : ds.all flatD = true) : RD K p (rNinU K) d1 (.lst ds) (.bl (!inD d1 ds)) := RD.inl (rd_inL (neg := true) h1 h2)
theorem rd_inUS {c : Nat} {z : Str} : RD K p (rInU K) (.str ⟨#[c]⟩) (.str z) (.bl (decide (c ∈ z.cps.toList))) := RD.inr rd_sign
theorem rd_ninUS {c : Nat} {z : Str} : RD K p (rNinU K) (.str ⟨#[c]⟩) (.str z) (.bl (!decide (c ∈ z.cps.toList))) := RD.inr rd_nsign
theorem rd_isN {b : Bool} (h : isNon d1 = some b) : RD K p rIsN d1 .non (.bl b) := rd_isNon h
theorem rd_notN {b : Bool} (h : isNon d1 = some b) : RD K p rNotN d1 .non (.bl (!b)) := rd_notNon h
theorem eo_catU (ha : EvQ K p ta σ S true ds) (hb : EvQ K p tb σ S true es) (hz : ds.length + es.length ≤ sizeLine) : EvO K p (tOp (rAddU K) ta tb) σ S (ds ++ es) := fun S1 g Q q =>
  ha S1 g _ fun a xs S2 g2 t2 h2 r2 => hb S2 (g.trans g2) _ fun b ys S3 g3 t3 h3 r3 => by
    rw [if_pos rfl] at h2 h3
    have e1 := r2.length
    have e2 := r3.length
    refine .inr (.inr (.inl ⟨a, b, xs, ys, rfl, rfl, g3.hh _ _ h2.1 h2.2, h3.1, by omega, fun q' hq' => ?_⟩))
    exact q q' (xs ++ ys) ⟨S3.F, upd S3.H q' (.lst (xs ++ ys)), S3.T⟩ ((g2.trans g3).trans (Gr.newO g3.ok hq')) (by show S3.T ≤ _; omega) ((g2.trans g3).fresh hq') upd_same (g3.ok.freshF hq') ((r2.mono g3.ff).append r3)
theorem eo_repU {k : Int} (ha : EvQ K p ta σ S true ds) (hb : EvD K p tb σ S (.int k)) (hk : -(2 ^ 63) ≤ k ∧ k < 2 ^ 63) (hz : ds.length * k.toNat ≤ sizeLine) : EvO K p (tOp rMulU ta tb) σ S (List.replicate k.toNat ds).flatten := fun S1 g Q q =>
  ha S1 g _ fun a xs S2 g2 t2 h2 r2 => hb S2 (g.trans g2) _ fun b S3 g3 t3 r3 => by
    rw [if_pos rfl] at h2
    cases r3
    refine .inr ⟨a, k, xs, rfl, rfl, g3.hh _ _ h2.1 h2.2, hk.1, hk.2, by rw [r2.length]; exact hz, fun q' hq' => ?_⟩
    exact q q' _ ⟨S3.F, upd S3.H q' (.lst (List.replicate k.toNat xs).flatten), S3.T⟩ ((g2.trans g3).trans (Gr.newO g3.ok hq')) (by show S3.T ≤ _; omega) ((g2.trans g3).fresh hq') upd_same (g3.ok.freshF hq') (rps_rep (r2.mono g3.ff) _)
/-- list(text) -/
theorem rps_signs {F : Hp} (s : Str) : Rps K F (signsV s) (signs s) := by
  unfold signsV signs
  generalize s.cps.toList = l
  induction l with
  | nil => exact .nil
  | cons c r ih => exact .cons (.str _) ih
theorem eo_listS {s : Str} (h : EvD K p te σ S (.str s)) (hz : s.cps.size ≤ sizeLine) : EvO K p (tCB rListS (tCons te tNil)) σ S (signs s) := fun S1 g Q q => h S1 g _ fun v S2 g2 t2 r => by
  cases r
  exact ⟨s, rfl, hz, fun a ha => q a (signsV s) ⟨S2.F, upd S2.H a (.lst (signsV s)), S2.T⟩ (g2.trans (Gr.newO g2.ok ha)) t2 (g2.fresh ha) upd_same (g2.ok.freshF ha) (rps_signs s)⟩
/-- repr of a list or tuple -/
theorem rc_repr (hr : ∀ F v, Rp K F v d → ∃ a, v = .ref a) (h0 : d.pl = true) (h1 : d.py.showable = true) (h2 : d.py.canLay0 = true) (h3 : d.py.depth ≤ 64) (h4 : d.py.shown.length ≤ sizeLine) : RC K p (rRepr K) [d] (.str d.py.shown) := rc_of (fun _ => .str _) fun S1 vs o rs Q q => by
  cases rs with
  | cons h r =>
    cases r
    obtain ⟨a, rfl⟩ := hr _ _ h
    exact ⟨a, d.py, rfl, (h.mono hide_ex).dp h0, h1, h2, h3, h4, q⟩
theorem rc_reprL (h0 : (D.lst ds).pl = true) (h1 : (D.lst ds).py.showable = true) (h2 : (D.lst ds).py.canLay0 = true) (h3 : (D.lst ds).py.depth ≤ 64) (h4 : (D.lst ds).py.shown.length ≤ sizeLine) : RC K p (rRepr K) [.lst ds] (.str (D.lst ds).py.shown) :=
  rc_repr (fun F v h => by cases h; exact ⟨_, rfl⟩) h0 h1 h2 h3 h4
end
end DL
namespace DL
open PySem PySem.Spec PyProof.Rows L2
open Evl (Ex)
/-! ## promises of defs that may ask repr: no repr is running -/
structure GnOk (P : Program) (w : World) (K : PySem.W.Frag) (mg : Str → Option Value) (base : Heap) (CX : CXT) (k : Nat) (f : Addr) (fd : FuncData) (ps : List Str) (sp : Sp) : Prop where
  len : ∀ vs H Q E, sp vs H Q E → vs.length = ps.length
  go : ∀ (A : Around) (outer : List Env) (s : Shared) (H : Hp) (args : Args) (us : List Value) (vs : List V) (Q : VK) (E : XK), A.guards = some [] → Room k A → Env0 P w K mg base A outer s H → BindsTo s fd args (ps.zip us) → Vals vs us → sp vs H Q E →
    codeAny (model P w) A (.call (.ref f) args) (CR CX outer P w H s Q E) s
section
variable {P : Program} {w : World} {K : PySem.W.Frag} {mg : Str → Option Value} {base : Heap} {CX : CXT} {k j : Nat} {f : Addr} {fd : FuncData} {ps : List Str} {sp : Sp}
theorem GnOk.of (F : FnOk P w K mg base CX k f fd ps sp) : GnOk P w K mg base CX k f fd ps sp := ⟨F.len, fun A outer s H args us vs Q E _ hr e0 hb r h => F.run A outer s H args us vs Q E hr e0 hb r h⟩
/-- under a context whose repr guards are known, such a def is as any other -/
theorem run_gn {X : Cx} {pins : List (Addr × Obj)} {σ : L2.St} {H : Hp} {s : Shared} {Q : VK} {us : List Value} {vs : List V} {E : XK} (G : GnOk X.prog X.w X.K X.mg X.base CX k f fd ps sp) (hG : X.A.guards = some []) (hr : Room k X.A) (hb : Binds X.K fd ps []) (hx : Passes CX X E)
    (I : Inv X pins σ H s) (r : Vals vs us) (h : sp vs H Q E) : wpAny (model X.prog X.w) X.A (call (.ref f) us) (EP X pins σ Q) X.xe s := by
  have hl : us.length = ps.length := by rw [← r.length]; exact G.len _ _ _ _ h
  have hb2 := hb s us I.kIn (by rw [List.append_nil]; exact hl)
  rw [List.append_nil] at hb2
  refine wpAny_call (codeAny_mono (G.go X.A X.stack s H ⟨us, []⟩ us vs Q E hG hr I.env0 hb2 r h) fun r s' hq => ?_)
  cases r with
  | error e => exact hx pins σ H s e s' I hq
  | ok fl =>
    cases fl with
    | ret u => exact I.after hq
    | next => exact False.elim hq
    | brk => exact False.elim hq
    | cont => exact False.elim hq
theorem pe_callG {X : Cx} {E : XK} {x : Str} {p pos : Pos} {e : Expr} {es : List Expr} {t : TA} (G : GnOk X.prog X.w X.K X.mg X.base CX k f fd ps sp) (hG : X.A.guards = some []) (hr : Room k X.A) (hg : Gl X x) (hm : X.mg x = some (.ref f)) (hk : PySem.W.keepIn X.K (.ref f) = true)
    (hb : Binds X.K fd ps []) (hx : Passes CX X E) (ha : PA X (e :: es) t) (hdb : (x == ("__debug__" : Str)) = false := by decide) (he : starEach (e :: es) X.env = (false, eval e X.env) :: starEach es X.env := by rfl) (hpl : (backTo pos (starEach es X.env)).any (·.1) = false := by rfl) :
    PE X (.Call (.Name x p) (e :: es) [] pos) (tCall sp [] E t) := by
  refine ⟨fun pins s σ H Q I h => ?_⟩
  refine wpAny_Call_Name_kw (ld_glob I hg hm ?_ hdb)
  refine PySem.W.callWith_K (h₀ := X.base) I.ok.mod.kin hk (thn (ha.run pos pins s σ H _ I h) fun us s1 hvs => ?_) he hpl
  obtain ⟨vs, H1, I1, r, q⟩ := hvs
  refine ⟨I1.kIn, ?_⟩
  rw [List.append_nil] at q
  exact run_gn G hG hr hb hx I1 r q
/-- a def by its body, the guards known -/
theorem gn_of {name qual : Str} {params : Arguments} {body : List Stmt} {scope : Scope} {dV kV doc pm cdv ct oc : Value} {an od : Option Addr} {osl : Array (Option Value)} {N : List Str}
    (lk : K.lookup f = some ⟨oc, od, .func (PySem.W.fnOf name qual params body scope dV kV doc pm an cdv ct), osl⟩) (hcd : PySem.W.codeIn K cdv qual = true) (S : FnScope N ps scope) (len : ∀ vs H Q E, sp vs H Q E → vs.length = ps.length)
    (hbody : ∀ (A : Around) (outer : List Env) (s : Shared) (H : Hp) (vs : List V) (Q : VK) (E : XK), A.guards = some [] → Room k (A.deeper (envOfC qual scope s.heap.objs.size f cdv)) → sp vs H Q E →
      ∃ t, PSs (cxOf CX P w K mg base N qual scope f cdv A outer s H E) body t ∧ t { nx := fun _ H' => Q .non H', rt := Q } (L2.start N vs) H) :
    GnOk P w K mg base CX (k + 1) f (PySem.W.fnOf name qual params body scope dV kV doc pm an cdv ct) ps sp := by
  refine ⟨len, fun A outer s H args us vs Q E hG hr e0 hb r hsp => ?_⟩
  have nl := len _ _ _ _ hsp
  have kept : ∀ b o, base.get? b = some o → s.heap.get? b = some o := fun b o e => (e0.bs b o e).1
  have bound : ∀ y ∈ ps.zip us, scope.names.lookup y.1 = some .local ∨ (scope.names.lookup y.1 = some .cell ∧ ((cellsFrom (s.heap.objs.size + 1) scope.names []).lookup y.1).isSome = true) := by
    rintro ⟨y, v⟩ hy
    have hp := S.par y (List.of_mem_zip hy).1
    exact hp.imp id fun q => ⟨q, PySem.W.cellsFrom_some _ _ _ (.inl q)⟩
  have KX : K.In s.heap := e0.mod.kin.keeps kept
  refine codeAny_call_function hr.depth (KX _ _ lk) rfl S.co S.gen rfl (PySem.W.codeRec_of KX hcd) (hb _ _ _ _ ?_)
  refine wpAny_newFunctionEnv_cells S.kind bound fun env he s1 x => ?_
  cases he
  refine ⟨(e0.mod.nolimit.keeps kept).keeps x.toInCall.keep, codeAny_func ?_⟩
  obtain ⟨t, ht, hq⟩ := hbody A outer s H vs Q E hG (hr.deeper _) hsp
  have I0 : Inv (cxOf CX P w K mg base N qual scope f cdv A outer s H E) [] (L2.start N vs) H s1 := inv_start S hr.hd e0 nl r x
  refine wpAny_mono (ht.run [] s1 (L2.start N vs) H _ I0 hq) (fun fl s' hs => ?_) fun e s' hs => hs
  cases fl with
  | brk => obtain ⟨_, _, _, no⟩ := hs; exact no.elim
  | cont => obtain ⟨_, _, _, no⟩ := hs; exact no.elim
  | next =>
    obtain ⟨σ', H', J, q⟩ := hs
    exact ⟨.non, H', J.os, J.bare, J.base, J.hok, rfl, q⟩
  | ret u =>
    obtain ⟨v, σ', H', J, rv, q⟩ := hs
    exact ⟨v, H', J.os, J.bare, J.base, J.hok, rv, q⟩
/-- a def of the text that lets no exception out, the guards known -/
theorem gn_ok {x qual : Str} {st : Stmt} {N : List Str} (F : Fun K x qual st f fd) (S : FnScope N ps (defScope st)) (len : ∀ vs H Q E, sp vs H Q E → vs.length = ps.length)
    (hbody : ∀ (cdv : Value) (A : Around) (outer : List Env) (s : Shared) (H : Hp) (vs : List V) (Q : VK) (E : XK), A.guards = some [] → Room k (A.deeper (envOfC qual (defScope st) s.heap.objs.size f cdv)) → sp vs H Q E →
      ∃ t, PSs (cxOf CX0 P w K mg base N qual (defScope st) f cdv A outer s H E).nox (defBody st) t ∧ t { nx := fun _ H' => Q .non H', rt := Q } (L2.start N vs) H) : GnOk P w K mg base CX0 (k + 1) f fd ps sp := by
  obtain ⟨oc, od, kV, doc, pm, an, cdv, ct, osl, rfl, lk, hcd⟩ := F.ex
  refine gn_of lk hcd S len fun A outer s H vs Q E hG hr hsp => ?_
  obtain ⟨t, h, q⟩ := hbody cdv A outer s H vs Q E hG hr hsp
  exact ⟨t, h.nox, q⟩
end
end DL
namespace DL
open PySem PySem.Spec PyProof.Rows L2
/-- the heap at the law's entry: nothing is tracked but the script -/
structure Start (P : Program) (w : World) (K : PySem.W.Frag) (s : Shared) (a : Addr) (ns : List Int) (H : Hp) : Prop where
  only : Only H
  sq : SqL K H a (ns.map V.int)
  hok : HOk P w H s.heap
  one : ∀ b, H b ≠ none → b = a
  kno : H a ≠ none → K.lookup a = none
theorem start_ex {P : Program} {w : World} {K : PySem.W.Frag} {s : Shared} {a : Addr} {vs : List Value} {ns : List Int} (KX : K.In s.heap) (ha : s.heap.get? a = some { cls := .type "list", data := .seq vs.toArray }) (hi : IntsAre vs ns) (hl : ns.length ≤ sizeLine) :
    ∃ H, Start P w K s a ns H := by
  have rv := vals_ints hi
  cases hk : K.lookup a with
  | some o =>
    have e := KX a o hk
    rw [ha] at e
    cases e
    exact ⟨fun _ => none, fun _ => .inl rfl, .inr ⟨_, vs.toArray, _, hk, rfl, rfl, rfl, by rw [List.size_toArray, hi.length]; exact hl, by simpa using rv⟩, (fun b u z => nomatch (show (none : Option HO) = some u from z)), fun b z => absurd rfl z, fun z => absurd rfl z⟩
  | none =>
    refine ⟨fun b => if b = a then some (.frz { cls := .type "list", data := .seq vs.toArray } (.lst (ns.map V.int))) else none, fun b => ?_, .inl (.inr ⟨{ cls := .type "list", data := .seq vs.toArray }, if_pos rfl⟩), fun b u z => ?_, fun b z => ?_, fun _ => hk⟩
    · by_cases hb : b = a
      · exact .inr ⟨_, _, if_pos hb⟩
      · exact .inl (if_neg hb)
    · by_cases hb : b = a
      · cases hb
        have z' := (if_pos rfl).symm.trans z
        cases z'
        exact ⟨ha, by rw [List.length_map]; exact hl, vs, _, rv, ha⟩
      · cases (if_neg hb).symm.trans z
    · by_cases hb : b = a
      · exact hb
      · exact absurd (if_neg hb) z
theorem callG {P : Program} {w : World} {K : PySem.W.Frag} {mg mb : Str → Option Value} {k : Nat} {fa a : Addr} {fd : FuncData} {x : Str} {sp : Sp} {s₁ : Shared} {vs : List Value} {ns : List Int}
    (KX : K.In s₁.heap) (hns : s₁.heap.Ns mainGlobals mg) (hb : s₁.heap.Ns builtinsNs mb) (hbb : ∀ x : Str, x ≠ "__name__" → mb x = bootBuiltins x) (hlim : s₁.heap.NoLimit) (hg : s₁.gens = #[])
    (ha : s₁.heap.get? a = some { cls := .type "list", data := .seq vs.toArray }) (hi : IntsAre vs ns) (hl : ns.length ≤ sizeLine) (hr : Room k callerA)
    (F : ∀ base : Heap, K.In base → base.Ns mainGlobals mg → GnOk P w K mg base CX0 k fa fd [x] sp) (hbind : ∀ (s : Shared) (u : Value), BindsTo s fd ⟨[u], []⟩ [(x, u)])
    (hsp : ∀ H : Hp, Only H → SqL K H a (ns.map V.int) → sp [.ref a] H (fun v _ => v = .bl true) fun _ _ _ => False) :
    codeAny (model P w) callerA (.call (.ref fa) ⟨[.ref a], []⟩) (fun r s' => r = .ok (.ret (.bool true)) ∧ OldK s₁.heap s'.heap ∧ s'.os = s₁.os ∧ AllBare s'.gens) s₁ := by
  obtain ⟨H, Z⟩ := start_ex (P := P) (w := w) KX ha hi hl
  have tr : ∀ {b : Addr} {o : Obj}, s₁.heap.get? b = some o → H b ≠ none → o = { cls := .type "list", data := .seq vs.toArray } := fun {b o} e n => by
    have q := Z.one b n
    subst q
    rw [ha] at e
    cases e
    rfl
  have hide : ∀ {b : Addr} {o : Obj}, s₁.heap.get? b = some o → (H b ≠ none → False) → (hidT s₁.heap H).get? b = some o := fun {b o} e n => hidT_get e (by
    cases q : H b with
    | none => rfl
    | some u => exact (n (by rw [q]; simp)).elim)
  have ns1 : ∀ {b : Addr} {m : Str → Option Value}, s₁.heap.Ns b m → (hidT s₁.heap H).Ns b m := fun {b m} ⟨o, es, ep, e, d, r⟩ => ⟨o, es, ep, hide e (fun n => by rw [tr e n] at d; cases d), d, r⟩
  have kb : K.In (hidT s₁.heap H) := fun b o e => hide (KX b o e) fun n => by
    have q := Z.one b n
    subst q
    rw [Z.kno n] at e
    cases e
  have M : Mod K mg (hidT s₁.heap H) := ⟨kb, ns1 hns, ⟨mb, ns1 hb, hbb⟩, hlim.imp fun mc h => ⟨ns1 h.1, h.2⟩⟩
  have e0 : Env0 P w K mg (hidT s₁.heap H) callerA [] s₁ H := ⟨rfl, M, fun b o e => of_hidT e, Nat.le_of_eq (hidT_size _ _), trivial, (fun b hb => nomatch (show b ∈ ([] : List Addr) from hb)), Z.hok, .of_eq hg⟩
  refine codeAny_mono ((F _ kb (ns1 hns)).go callerA [] s₁ H ⟨[.ref a], []⟩ [.ref a] [.ref a] _ _ rfl hr e0 (hbind s₁ (.ref a)) (.cons rfl .nil) (hsp H Z.only Z.sq)) fun r s' h => ?_
  cases r with
  | error e => exact h.elim
  | ok fl =>
    cases fl with
    | next => exact h.elim
    | brk => exact h.elim
    | cont => exact h.elim
    | ret u =>
      obtain ⟨v, H', os, bare, un, hok', r', q⟩ := h
      cases (show v = .bl true from q)
      cases (show u = Value.bool true from r')
      refine ⟨rfl, OldK.of_keep fun b o e => ?_, os, bare⟩
      rcases Z.only b with z | ⟨ob, xs, z⟩
      · exact un.keep b o e z (fun z => nomatch (show b ∈ ([] : List Addr) from z)) (by simp)
      · have e1 := (Z.hok b _ z).1
        have e2 := (hok' b _ (un.frzs b ob _ z)).1
        rw [e] at e1
        cases e1
        exact e2
/-- the goal that k_head leaves, from the law's promise where the guards are known -/
theorem walk_ofG {l : PySem.W.OpenLaw} {n k : Nat} {q : Program} {loose : List Str} {XP : (Str → Option Value) → Heap → Prop} {YP : World → Heap → Prop} {d : DefRec} {K : Params → PySem.W.Frag} {sp : World → Sp} {x : Str}
    (hn : l.most = some n) (hn2 : n ≤ sizeLine) (hdf : d.params.defaults = []) (hr : Room k callerA) (hY : ∀ (w : World) (h : Heap), YP w h → (K w.params).In h)
    (F : ∀ (w : World) (mg : Str → Option Value) (fa : Addr) (h : Heap), (K w.params).In h → h.Ns mainGlobals mg → mg d.name = some (.ref fa) →
      ∃ fd : FuncData, (∀ (s : Shared) (u : Value), BindsTo s fd ⟨[u], []⟩ [(x, u)]) ∧ ∀ base : Heap, (K w.params).In base → base.Ns mainGlobals mg → GnOk l.prog w (K w.params) mg base CX0 k fa fd [x] (sp w))
    (hsp : ∀ (w : World) (H : Hp) (a : Addr) (ns : List Int), ns.length ≤ n → Only H → SqL (K w.params) H a (ns.map V.int) → sp w [.ref a] H (fun v _ => v = .bl true) fun _ _ _ => False) :
    PySem.W.WalkO q loose XP YP l.row.toRowW d [] (fun f vs => PySem.call f vs) := by
  refine Att.attach_call hn hdf fun w s₀ s₁ mg mb fa o pm cd doc a vs ns G Y ho hd hcd hmg hobj hints hlen hg => ?_
  have KX := hY w _ Y
  obtain ⟨fd, hb, hF⟩ := F w mg fa _ KX G.T.g hmg
  exact callG KX G.T.g G.T.b G.T.builtins G.T.nolimit hg hobj hints (Nat.le_trans hlen hn2) hr hF hb (fun H hO hS => hsp w H a ns hlen hO hS)
end DL
namespace DL
open PySem L2
open Evl (Ex)
/-! ## what the printed terms name -/
section
variable {X : Cx} {x : Str} {pos : Pos}
theorem pe_gs {s : Str} (hg : Gl X x) (h : ∃ t, X.mg x = some (.str s t)) (hd : (x == ("__debug__" : Str)) = false := by decide) : PE X (.Name x pos) (tC (.str s)) := by
  obtain ⟨t, e⟩ := h
  exact pe_glob hg e ⟨t, rfl⟩ hd
theorem pe_gi {i : Int} (hg : Gl X x) (h : ∃ t, X.mg x = some (.int i t)) (hd : (x == ("__debug__" : Str)) = false := by decide) : PE X (.Name x pos) (tC (.int i)) := by
  obtain ⟨t, e⟩ := h
  exact pe_glob hg e ⟨t, rfl⟩ hd
theorem pe_gr {a : Addr} (hg : Gl X x) (h : X.mg x = some (.ref a)) (hd : (x == ("__debug__" : Str)) = false := by decide) : PE X (.Name x pos) (tC (.ref a)) := pe_glob hg h rfl hd
end
def KTup (K : PySem.W.Frag) (a : Addr) (ss : List Str) : Prop := ∃ (o : Obj) (its : Array Value) (n : Nat), K.lookup a = some o ∧ o.cls = .type "tuple" ∧ o.data = .seq its n ∧ its.size ≤ sizeLine ∧ Vals (ss.map V.str) its.toList
def strsB : List Value → List Str → Bool
  | [], [] => true
  | .str x _ :: r, s :: t => decide (x = s) && strsB r t
  | _, _ => false
def tupStr (o : Obj) (ss : List Str) : Bool := match o with
  | ⟨.type n, _, .seq its _, _⟩ => (n == "tuple") && decide (its.size ≤ 1000) && strsB its.toList ss
  | _ => false
theorem strsB_vals (us : List Value) (ss : List Str) (h : strsB us ss = true) : Vals (ss.map V.str) us := by
  fun_induction strsB us ss with
  | case1 => exact .nil
  | case2 x k r s t ih =>
    rw [Bool.and_eq_true] at h
    have e := of_decide_eq_true h.1
    subst e
    exact .cons ⟨k, rfl⟩ (ih h.2)
  | case3 => cases h
theorem KTup.of {K : PySem.W.Frag} {a : Addr} {o : Obj} {ss : List Str} (l : K.lookup a = some o) (h : tupStr o ss = true) : KTup K a ss := by
  obtain ⟨c, d, dt, sl⟩ := o
  unfold tupStr at h
  split at h
  · rename_i n _ its k _ e
    cases e
    rw [Bool.and_eq_true, Bool.and_eq_true] at h
    have e1 : n = "tuple" := by simpa using h.1.1
    subst e1
    exact ⟨_, its, k, l, rfl, rfl, Nat.le_trans (of_decide_eq_true h.1.2) (by decide), strsB_vals _ _ h.2⟩
  · cases h
theorem KTup.rp {K : PySem.W.Frag} {a : Addr} {ss : List Str} (h : KTup K a ss) : ∀ F, Rp K F (.ref a) (.tup (ss.map D.str)) := fun F => by
  obtain ⟨o, its, n, h1, h2, h3, h4, h5⟩ := h
  exact .tup (.inr ⟨o, its, n, h1, h2, h3, h4, h5⟩) (Rps.strs ss)
theorem hu66_of {A : Around} {k : Nat} (hr : Room k A) : A.units + 66 < cLine := Nat.lt_of_le_of_lt (by omega) hr.un
/-! keywords -/
theorem kbinds_mk {K : PySem.W.Frag} {x qual : Str} {st : Stmt} {f : Addr} {fd : FuncData} {ps ks : List Str} {g : List Value → List Value → List Value} {gV : List V → List V → List V} (F : Fun K x qual st f fd)
    (h : ∀ (kV doc pm : Value) (an : Option Addr) (cdv ct : Value) (us ws : List Value), (g us ws).length = ps.length → bindArgs (PySem.W.fnOf x qual (defArgs st) (defBody st) (defScope st) .none kV doc pm an cdv ct) ⟨us, ks.zip ws⟩ = pure (ps.zip (g us ws)))
    (hr : ∀ {vs : List V} {us : List Value} {zs : List V} {ws : List Value}, Vals vs us → Vals zs ws → Vals (gV vs zs) (g us ws)) : KBinds K fd ps ks g gV := by
  obtain ⟨oc, od, kV, doc, pm, an, cdv, ct, osl, rfl, lk, hcd⟩ := F.ex
  exact ⟨fun s us ws _ hl => .of_eq (h kV doc pm an cdv ct us ws hl), fun r q => hr r q⟩
theorem vals_1 {x : V} {us : List Value} (r : Vals [x] us) : ∃ u, us = [u] ∧ RelV x u := by cases r with | cons h t => cases t; exact ⟨_, rfl, h⟩
def rSplit : V → List V → Hp → VK → Prop := fun x xs H Q => ∃ a b, x = .str a ∧ xs = [.str b] ∧ (b.length == 0) = false ∧ a.length + 2 ≤ sizeLine ∧ rNewStrs (Txt.split a b) H Q
def rJoin (K : PySem.W.Frag) : V → List V → Hp → VK → Prop := fun x xs H Q => ∃ a p, ∃ ys : List Str, x = .str a ∧ xs = [.ref p] ∧ (SqL K H p (ys.map V.str) ∨ SqT K H p (ys.map V.str)) ∧ (ys.map (·.length)).sum + ys.length * a.length ≤ 16777216 ∧ Q (.str (Txt.join a ys)) H
def tTru (K : PySem.W.Frag) (ta : TE) : TT := fun σ H Q => ta σ H fun x H' => ∃ k, TruV K x H' k ∧ Q k H'
/-! a def's reading from its promise -/
section
variable {K : PySem.W.Frag} {n N : Nat} {t : TS} {Ns : List Str} {vs : List V} {H : Hp} {Q : VK} {E : XK}
theorem fnP {pre : List D → Prop} {f : List D → D} (h : spP K n pre f vs H Q E) (hN : n ≤ Ns.length)
    (body : ∀ (S0 : Wd) (ds : List D) (σ : L2.St) (D : Ends), ds.length = n → pre ds → Sta K none S0 S0.F Ns.length 0 0 σ S0 (ents 0 ds) → (∀ v S', Gr K none S0 S' → S'.T ≤ S0.T + 0 → Rp K S'.F v (f ds) → D.rt v S'.H) → t D σ S0.H) :
    t { nx := fun _ H' => Q .non H', rt := Q } (L2.start Ns vs) H := by
  obtain ⟨F, ds, ok, r, hn, hp, k⟩ := h
  refine body ⟨F, H, 0⟩ ds _ _ hn hp (sta_start ok r (by rw [r.length, hn]; exact hN) (by show 0 + 0 ≤ 1000000000; decide)) fun v S' g ht rv => ?_
  refine k v S'.F S'.H ⟨g.ff, g.hh, g.al, g.old, ⟨g.ok.sub, fun a e => by cases e⟩⟩ rv
theorem fnP1 {pre : List D → Prop} {f : List D → D} (h : spP K 1 pre f vs H Q E) (hN : 1 ≤ Ns.length)
    (body : ∀ (S0 : Wd) (d : D) (σ : L2.St) (D : Ends), pre [d] → Sta K none S0 S0.F Ns.length 0 0 σ S0 [(0, .dat d)] → (∀ v S', Gr K none S0 S' → S'.T ≤ S0.T + 0 → Rp K S'.F v (f [d]) → D.rt v S'.H) → t D σ S0.H) :
    t { nx := fun _ H' => Q .non H', rt := Q } (L2.start Ns vs) H := fnP h hN fun S0 ds σ D hn hp st k => match ds, hn, hp, st, k with
  | [d], _, hp, st, k => body S0 d σ D hp st k
theorem fnP2 {pre : List D → Prop} {f : List D → D} (h : spP K 2 pre f vs H Q E) (hN : 2 ≤ Ns.length)
    (body : ∀ (S0 : Wd) (d e : D) (σ : L2.St) (D : Ends), pre [d, e] → Sta K none S0 S0.F Ns.length 0 0 σ S0 [(0, .dat d), (1, .dat e)] → (∀ v S', Gr K none S0 S' → S'.T ≤ S0.T + 0 → Rp K S'.F v (f [d, e]) → D.rt v S'.H) → t D σ S0.H) :
    t { nx := fun _ H' => Q .non H', rt := Q } (L2.start Ns vs) H := fnP h hN fun S0 ds σ D hn hp st k => match ds, hn, hp, st, k with
  | [d, e], _, hp, st, k => body S0 d e σ D hp st k
theorem fnP3 {pre : List D → Prop} {f : List D → D} (h : spP K 3 pre f vs H Q E) (hN : 3 ≤ Ns.length)
    (body : ∀ (S0 : Wd) (d e c : D) (σ : L2.St) (D : Ends), pre [d, e, c] → Sta K none S0 S0.F Ns.length 0 0 σ S0 [(0, .dat d), (1, .dat e), (2, .dat c)] → (∀ v S', Gr K none S0 S' → S'.T ≤ S0.T + 0 → Rp K S'.F v (f [d, e, c]) → D.rt v S'.H) → t D σ S0.H) :
    t { nx := fun _ H' => Q .non H', rt := Q } (L2.start Ns vs) H := fnP h hN fun S0 ds σ D hn hp st k => match ds, hn, hp, st, k with
  | [d, e, c], _, hp, st, k => body S0 d e c σ D hp st k
theorem fnN {pre : List D → Prop} {post : List D → D → Prop} (h : spN K n N pre post vs H Q E) (hN : n + 1 ≤ Ns.length)
    (body : ∀ (S0 : Wd) (a : Addr) (ds : List D) (σ : L2.St) (D : Ends), ds.length = n → pre ds → Sta K (some a) S0 S0.F Ns.length N 0 σ S0 ((0, .val (.ref a)) :: ents 1 ds) → (∀ v d S', post ds d → Gr K (some a) S0 S' → S'.T ≤ S0.T + N → Rp K S'.F v d → D.rt v S'.H) → t D σ S0.H) :
    t { nx := fun _ H' => Q .non H', rt := Q } (L2.start Ns vs) H := by
  obtain ⟨S, a, ws, ds, rfl, rfl, ok, r, hn, hp, hb, k⟩ := h
  exact body S a ds _ _ hn hp (sta_startN ok r (by rw [r.length, hn]; exact hN) hb) fun v d S' po g ht rv => k v d S' g ht rv po
end
end DL
namespace DL
open PySem L2
open Evl (Ex)
variable {K : PySem.W.Frag} {p : Option Addr} {S S0 S1 S2 S3 : Wd} {B : Hp} {σ σ' : L2.St} {te ta tb tc to : TE} {d d1 d2 d3 : D} {ds es : List D} {v : V} {m M n k : Nat} {l l' : En} {i j : Nat}
theorem ed_chain {r r' : R2} {a b : Bool} (ha : EvH K p ta σ S d1) (hb : EvH K p tb σ S d2) (h1 : RD K p r d1 d2 (.bl a)) (hc : a = true → EvH K p tc σ S d3) (h2 : RD K p r' d2 d3 (.bl b)) : EvD K p (tChain r r' ta tb tc) σ S (.bl (a && b)) := fun S1 g Q q =>
  ha S1 g _ fun x S2 g2 t2 rx => hb S2 (g.trans g2) _ fun y S3 g3 t3 ry => h1 S3 x y g3.ok (rx.mono g3.hid) ry _ fun z S4 g4 t4 rz => by
    cases rz
    refine ⟨a, rfl, ?_⟩
    cases a with
    | false =>
      rw [if_neg Bool.false_ne_true]
      exact q _ S4 ((g2.trans g3).trans g4) (by omega) (.bl _)
    | true =>
      rw [if_pos rfl]
      refine hc rfl S4 (((g.trans g2).trans g3).trans g4) _ fun w S5 g5 t5 rw' => h2 S5 y w g5.ok (ry.mono (g4.hid.trans g5.hid)) rw' Q fun u S6 g6 t6 r6 => ?_
      exact q u S6 ((((g2.trans g3).trans g4).trans g5).trans g6) (by omega) r6
end DL
namespace DL
open PySem L2
open Evl (Ex)
/-! ## what is walked: a list or a tuple, by the value -/
def iRow (K : PySem.W.Frag) (tl : TE) : TI := fun σ H R => tl σ H fun x H1 => (∃ a, x = .ref a ∧ (∃ xs, SqL K H1 a xs) ∧ R (Itl K a) H1) ∨ ∃ a, x = .ref a ∧ (∃ xs, SqT K H1 a xs) ∧ R (Itt K a) H1
section
variable {X : Cx} {tg : Expr}
theorem pi_row {l : Expr} {tl : TE} (hl : PE X l tl) : PI X tg l (iRow X.K tl) := by
  refine ⟨fun pins s σ H R I h => ?_⟩
  refine thn (hl.run pins s σ H _ I h) fun v s1 ⟨x, H1, I1, r1, q1⟩ => ?_
  rcases q1 with ⟨a, e, ⟨xs, hq⟩, q⟩ | ⟨a, e, ⟨xs, hq⟩, q⟩
  · subst e
    cases r1
    obtain ⟨its, rv, p, hz⟩ := I1.list hq
    refine wpAny_pyIter_list p.isList ?_
    refine ⟨s1.heap.objs.size, [s1.heap.objs.size], _, _, H1, rfl, I1.kept (t' := s1.toks) fun b o e => Heap.get?_push_of_some _ e, turn_list a _, ⟨_, Heap.get?_push_size _ rfl, rfl, rfl⟩, fun b hb => ?_, q⟩
    have e : b = s1.heap.objs.size := by simpa using hb
    subst e
    exact I1.fpOk (Nat.le_refl _) (I1.hok.fresh (Nat.le_refl _))
  · subst e
    cases r1
    obtain ⟨its, rv, p, hz⟩ := I1.tuple hq
    refine wpAny_pyIter_tuple (show s1.heap.IsTuple a its.toArray from p) ?_
    refine ⟨s1.heap.objs.size, [s1.heap.objs.size], _, _, H1, rfl, I1.kept (t' := s1.toks) fun b o e => Heap.get?_push_of_some _ e, turn_tuple a _, ⟨_, Heap.get?_push_size _ rfl, rfl, rfl⟩, fun b hb => ?_, q⟩
    have e : b = s1.heap.objs.size := by simpa using hb
    subst e
    exact I1.fpOk (Nat.le_refl _) (I1.hok.fresh (Nat.le_refl _))
/-! ## len of whatever -/
def rLenA (K : PySem.W.Frag) : List V → Hp → VK → Prop := fun xs H Q => rLenU K xs H Q ∨ ∃ a kvs, xs = [V.ref a] ∧ H a = some (.dK kvs) ∧ Q (.int (kvs : List (Key × V)).length) H
theorem call_lenA : CallR X (.builtin "len") (rLenA X.K) := CallR.or call_len call_lenD
/-! ## in, not in: dicts too -/
def rInD : R2 := fun y x H Q => ∃ a o, x = .ref a ∧ DGet H a y o ∧ Q (.bl o.isSome) H
def rNinD : R2 := fun y x H Q => ∃ a o, x = .ref a ∧ DGet H a y o ∧ Q (.bl (!o.isSome)) H
theorem op_inD (hu : X.A.units + 1 < cLine) : OpR X (compareOp .In) rInD := by
  intro pins s σ H y x u v Q I ry rx h
  obtain ⟨a, ov, rfl, g, q⟩ := h
  obtain rfl : v = Value.ref a := rx
  exact d_in hu I g ry fun s3 I3 => ⟨.bl ov.isSome, H, I3, rfl, q⟩
theorem op_ninD (hu : X.A.units + 1 < cLine) : OpR X (compareOp .NotIn) rNinD := by
  intro pins s σ H y x u v Q I ry rx h
  obtain ⟨a, ov, rfl, g, q⟩ := h
  obtain rfl : v = Value.ref a := rx
  exact d_notIn hu I g ry fun s3 I3 => ⟨.bl (!ov.isSome), H, I3, rfl, q⟩
def rInV (K : PySem.W.Frag) : R2 := fun x y H Q => rInU K x y H Q ∨ rInD x y H Q
def rNinV (K : PySem.W.Frag) : R2 := fun x y H Q => rNinU K x y H Q ∨ rNinD x y H Q
theorem op_inV (hu : X.A.units + 1 < cLine) : OpR X (compareOp .In) (rInV X.K) := op_inU.or (op_inD hu)
theorem op_ninV (hu : X.A.units + 1 < cLine) : OpR X (compareOp .NotIn) (rNinV X.K) := op_ninU.or (op_ninD hu)
end
section
variable {K : PySem.W.Frag} {p : Option Addr} {S S0 S1 S2 S3 : Wd} {B : Hp} {σ σ' : L2.St} {te ta tb tc to : TE} {d d1 d2 d3 : D} {ds es : List D} {v : V} {m M n k : Nat} {P P1 P2 : D → Prop} {l l' : En} {i j : Nat} {t : Ty} {G : Ends}
theorem es_rowL (h : EvD K p te σ S (.lst ds)) : EvS K p (iRow K te) σ S ds := fun S1 g R q => h S1 g _ fun v S2 g2 t2 r => by
  cases r with
  | @lst a vs _ h1 r2 =>
  have there : ∀ S' : Wd, Ex S2.F S'.F → Ok K p S' → SqL K S'.H a vs := fun S' e o => .of (o.sub _ _ (e _ _ h1))
  refine .inl ⟨a, rfl, ⟨vs, there S2 (fun _ _ q => q) g2.ok⟩, q _ S2 g2 t2 fun S' e o c => ⟨fun hc => ?_, fun hc => ?_⟩⟩
  · obtain ⟨x, hx, rx⟩ := r2.get (List.getElem?_eq_getElem hc)
    refine ⟨⟨vs, x, there S' e o, hx⟩, fun y H' hy => ?_⟩
    obtain ⟨e2, hy⟩ := hy
    have e3 := hy vs (there S' e o)
    rw [hx] at e3
    cases e3
    exact ⟨e2, _, List.getElem?_eq_getElem hc, rx.mono e⟩
  · exact ⟨vs, there S' e o, by rw [r2.length]; omega⟩
theorem es_rowT (h : EvD K p te σ S (.tup ds)) : EvS K p (iRow K te) σ S ds := fun S1 g R q => h S1 g _ fun v S2 g2 t2 r => by
  cases r with
  | @tup a vs _ h1 r2 =>
  have there : ∀ S' : Wd, Ex S2.F S'.F → Ok K p S' → SqT K S'.H a vs := fun S' e o => Evl.ex_t (e.trans o.sub) h1
  refine .inr ⟨a, rfl, ⟨vs, there S2 (fun _ _ q => q) g2.ok⟩, q _ S2 g2 t2 fun S' e o c => ⟨fun hc => ?_, fun hc => ?_⟩⟩
  · obtain ⟨x, hx, rx⟩ := r2.get (List.getElem?_eq_getElem hc)
    refine ⟨⟨vs, x, there S' e o, hx⟩, fun y H' hy => ?_⟩
    obtain ⟨e2, hy⟩ := hy
    have e3 := hy vs (there S' e o)
    rw [hx] at e3
    cases e3
    exact ⟨e2, _, List.getElem?_eq_getElem hc, rx.mono e⟩
  · exact ⟨vs, there S' e o, by rw [r2.length]; omega⟩
/-- the items of a row -/
def rowD : D → Option (List D)
  | .lst ds => some ds
  | .tup ds => some ds
  | _ => none
theorem es_row (h : EvD K p te σ S d) (hd : rowD d = some ds) : EvS K p (iRow K te) σ S ds := by
  cases d with
  | lst xs => cases hd; exact es_rowL h
  | tup xs => cases hd; exact es_rowT h
  | _ => cases hd
theorem RC.inl {r r' : List V → Hp → VK → Prop} (h : RC K p r ds d) : RC K p (fun xs H Q => r xs H Q ∨ r' xs H Q) ds d := fun S1 vs o rs Q q => .inl (h S1 vs o rs Q q)
theorem RC.inr {r r' : List V → Hp → VK → Prop} (h : RC K p r' ds d) : RC K p (fun xs H Q => r xs H Q ∨ r' xs H Q) ds d := fun S1 vs o rs Q q => .inr (h S1 vs o rs Q q)
theorem rl_L (hz : ds.length ≤ sizeLine := by decide) : RC K p (rLenA K) [.lst ds] (.int (ds.length : Int)) := RC.inl (rc_lenL hz)
theorem rl_T : RC K p (rLenA K) [.tup ds] (.int (ds.length : Int)) := RC.inl rc_lenT
theorem rl_S {s : Str} (hz : s.length ≤ sizeLine) : RC K p (rLenA K) [.str s] (.int (s.length : Int)) := RC.inl (rc_lenS hz)
theorem rl_row (hd : rowD d = some ds) (hz : ds.length ≤ sizeLine) : RC K p (rLenA K) [d] (.int (ds.length : Int)) := by
  cases d with
  | lst xs => cases hd; exact rl_L hz
  | tup xs => cases hd; exact rl_T
  | _ => cases hd
theorem rl_D {kds : List (Key × D)} : RC K p (rLenA K) [.dic kds] (.int (kds.length : Int)) := RC.inr (rc_of (fun _ => .int _) fun S1 vs o rs Q q => by
  cases rs with
  | cons h r =>
    cases r
    cases h with
    | @dic a kvs _ h1 h2 h3 =>
      have e : kvs.length = kds.length := by have := congrArg List.length h2; simpa using this
      exact ⟨a, kvs, rfl, hide_ex _ _ h1, by rw [e]; exact q⟩)
theorem ed_len (h : EvH K p te σ S d) (hr : RC K p (rLenA K) [d] d2) : EvD K p (tCB (rLenA K) (tCons te tNil)) σ S d2 := ed_cb (eh_cons h eh_nil) hr
/-! ## membership -/
theorem rd_inT2 (h1 : flatD d1 = true) (h2 : ds.all flatD = true) : RD K p (rInV K) d1 (.tup ds) (.bl (inD d1 ds)) := RD.inl (rd_inUT h1 h2)
theorem rd_inL2 (h1 : flatD d1 = true) (h2 : ds.all flatD = true) : RD K p (rInV K) d1 (.lst ds) (.bl (inD d1 ds)) := RD.inl (rd_inUL h1 h2)
theorem rd_inS2 {c : Nat} {z : Str} : RD K p (rInV K) (.str ⟨#[c]⟩) (.str z) (.bl (decide (c ∈ z.cps.toList))) := RD.inl rd_inUS
theorem rd_ninT2 (h1 : flatD d1 = true) (h2 : ds.all flatD = true) : RD K p (rNinV K) d1 (.tup ds) (.bl (!inD d1 ds)) := RD.inl (rd_ninUT h1 h2)
theorem rd_ninL2 (h1 : flatD d1 = true) (h2 : ds.all flatD = true) : RD K p (rNinV K) d1 (.lst ds) (.bl (!inD d1 ds)) := RD.inl (rd_ninUL h1 h2)
theorem rd_ninS2 {c : Nat} {z : Str} : RD K p (rNinV K) (.str ⟨#[c]⟩) (.str z) (.bl (!decide (c ∈ z.cps.toList))) := RD.inl rd_ninUS
def kD : Key → D
  | .inl i => .int i
  | .inr x => .str x
theorem kD_kV {F : Hp} {x : V} {k : Key} (h : Rp K F x (kD k)) : x = kV k := by
  cases k with
  | inl i => cases h; rfl
  | inr i => cases h; rfl
theorem rp_kV {F : Hp} (k : Key) : Rp K F (kV k) (kD k) := by
  cases k with
  | inl i => exact .int i
  | inr i => exact .str i
theorem valV_some {α : Type} {kvs : List (Key × V)} {kds : List (Key × α)} (h : kvs.map (·.1) = kds.map (·.1)) (k : Key) : (valV kvs k).isSome = (kds.map (·.1)).any (fun z => decide (z = k)) := by
  rw [← h]
  unfold valV
  rw [Option.isSome_map, List.any_map]
  induction kvs generalizing kds with
  | nil => rfl
  | cons q r ih =>
    rw [List.find?_cons, List.any_cons]
    by_cases e : q.1 = k
    · simp [e]
    · simp only [e, decide_false, Function.comp, Bool.false_or]
      cases kds with
      | nil => cases h
      | cons q2 r2 => exact ih (kds := r2) (by simpa using congrArg List.tail h)
theorem rd_inD2 {k : Key} {kds : List (Key × D)} : RD K p (rInV K) (kD k) (.dic kds) (.bl ((kds.map (·.1)).any fun z => decide (z = k))) := RD.inr (rd_of (fun _ => .bl _) fun S1 x y o rx ry Q q => by
  have ex := kD_kV rx
  subst ex
  cases ry with
  | @dic a kvs _ h1 h2 h3 => exact ⟨a, _, rfl, .k (hide_ex _ _ h1), by rw [valV_some h2]; exact q⟩)
theorem rd_ninD2 {k : Key} {kds : List (Key × D)} : RD K p (rNinV K) (kD k) (.dic kds) (.bl (!(kds.map (·.1)).any fun z => decide (z = k))) := RD.inr (rd_of (fun _ => .bl _) fun S1 x y o rx ry Q q => by
  have ex := kD_kV rx
  subst ex
  cases ry with
  | @dic a kvs _ h1 h2 h3 => exact ⟨a, _, rfl, .k (hide_ex _ _ h1), by rw [valV_some h2]; exact q⟩)
/-! ## logic, short -/
theorem et_orT {t u : TT} (h1 : EvT K p t σ S true) : EvT K p (tOr t u) σ S true := EvT.is (et_or (b := true) h1 fun z => by cases z) rfl
theorem et_andF {t u : TT} (h1 : EvT K p t σ S false) : EvT K p (tAnd t u) σ S false := EvT.is (et_and (b := true) h1 fun z => by cases z) rfl
theorem ed_orT (h1 : EvD K p ta σ S (.bl true)) : EvD K p (tOrV ta tb) σ S (.bl true) := EvD.is (ed_or (b := true) h1 fun z => by cases z) rfl
theorem ed_andF (h1 : EvD K p ta σ S (.bl false)) : EvD K p (tAndV ta tb) σ S (.bl false) := EvD.is (ed_and (b := true) h1 fun z => by cases z) rfl
theorem ed_neg {z : Int} (h : EvD K p te σ S (.int z)) : EvD K p (tUn (rU fun i => .int (-i)) te) σ S (.int (-z)) := fun S1 g Q q => h S1 g _ fun v S2 g2 t2 r => by
  cases r
  exact ⟨z, rfl, q _ S2 g2 t2 (.int _)⟩
/-! ## items, slices -/
theorem ixN_get {α : Type} {xs : List α} {i : Int} {x : α} (h : atI xs i = some x) : ∃ c, ixN xs.length i = some c ∧ xs[c]? = some x := by
  unfold atI at h
  exact Option.bind_eq_some_iff.mp h
theorem ed_ix {b : Bool} {z : Int} (ha : EvQ K p ta σ S b ds) (hb : EvD K p tb σ S (.int z)) (hd : atI ds z = some d) : EvD K p (tOp (rIx K) ta tb) σ S d := fun S1 g Q q =>
  ha S1 g _ fun a xs S2 g2 t2 h2 r2 => hb S2 (g.trans g2) _ fun y S3 g3 t3 r3 => by
    cases r3
    obtain ⟨c, h4, h5⟩ := ixN_get hd
    obtain ⟨x, hx, rx⟩ := r2.get h5
    have ex : atI xs z = some x := by unfold atI; rw [r2.length, h4]; exact hx
    cases b with
    | true =>
      rw [if_pos rfl] at h2
      exact .inl ⟨a, xs, z, x, rfl, rfl, .of (g3.hh _ _ h2.1 h2.2), ex, q x S3 (g2.trans g3) (by omega) (rx.mono g3.ff)⟩
    | false =>
      rw [if_neg Bool.false_ne_true] at h2
      exact .inr (.inl ⟨a, xs, z, x, rfl, rfl, Evl.ex_t (g3.ff.trans g3.ok.sub) h2, ex, q x S3 (g2.trans g3) (by omega) (rx.mono g3.ff)⟩)
theorem ed_ixS {z : Int} {s : Str} {c : Nat} (ha : EvD K p ta σ S (.str s)) (hb : EvD K p tb σ S (.int z)) (hz : s.length ≤ sizeLine) (hd : atI s.cps.toList z = some c) : EvD K p (tOp (rIx K) ta tb) σ S (.str ⟨#[c]⟩) := fun S1 g Q q =>
  ha S1 g _ fun a S2 g2 t2 r2 => hb S2 (g.trans g2) _ fun y S3 g3 t3 r3 => by
    cases r2; cases r3
    exact .inr (.inr ⟨s, z, c, rfl, rfl, hz, hd, q _ S3 (g2.trans g3) (by omega) (.str _)⟩)
def cutL {α : Type} (xs : List α) (lo hi : Option Int) : List α := (xs.drop (HT.sIx xs.length 0 lo)).take (HT.sIx xs.length xs.length hi - HT.sIx xs.length 0 lo)
theorem Rps.cut {F : Hp} {vs : List V} (r : Rps K F vs ds) (lo hi : Option Int) : Rps K F (cutV vs lo hi) (cutL ds lo hi) := by
  unfold cutV cutL
  rw [r.length]
  exact (r.drop _).take _
/-- a slice's bound -/
def EvB (K : PySem.W.Frag) (p : Option Addr) (tt : TO) (σ : L2.St) (S : Wd) (z : Option Int) : Prop := ∀ S1, Gr K p S S1 → ∀ Q : Option Int → Hp → Prop, (∀ S2, Gr K p S1 S2 → S2.T ≤ S1.T → Q z S2.H) → tt σ S1.H Q
theorem eb_no : EvB K p tNoPart σ S none := fun S1 g Q q => q S1 (Gr.refl g.ok) (Nat.le_refl _)
theorem eb_int {z : Int} (h : EvD K p te σ S (.int z)) : EvB K p (tPart te) σ S (some z) := fun S1 g Q q => h S1 g _ fun v S2 g2 t2 r => by cases r; exact ⟨z, rfl, q S2 g2 t2⟩
theorem eo_sl {tl th : TO} {lo hi : Option Int} (ha : EvQ K p ta σ S true ds) (hl : EvB K p tl σ S lo) (hh : EvB K p th σ S hi) : EvO K p (tSl (rSlL K) ta tl th) σ S (cutL ds lo hi) := fun S1 g Q q =>
  ha S1 g _ fun a xs S2 g2 t2 h2 r2 => hl S2 (g.trans g2) _ fun S3 g3 t3 => hh S3 ((g.trans g2).trans g3) _ fun S4 g4 t4 => by
    rw [if_pos rfl] at h2
    refine ⟨a, xs, rfl, .of (g4.hh _ _ (g3.hh _ _ h2.1 h2.2) h2.2), fun q' hq' => ?_⟩
    exact q q' (cutV xs lo hi) ⟨S4.F, upd S4.H q' (.lst (cutV xs lo hi)), S4.T⟩ (((g2.trans g3).trans g4).trans (Gr.newO g4.ok hq')) (by show S4.T ≤ _; omega) (((g2.trans g3).trans g4).fresh hq') upd_same (g4.ok.freshF hq') (((r2.mono g3.ff).mono g4.ff).cut lo hi)
/-! ## texts split and joined -/
theorem eo_split {a b : Str} (ha : EvD K p ta σ S (.str a)) (hb : EvD K p tb σ S (.str b)) (h1 : (b.length == 0) = false) (h2 : a.length + 2 ≤ sizeLine) : EvO K p (tM1 rSplit ta tb) σ S ((Txt.split a b).map D.str) := fun S1 g Q q =>
  ha S1 g _ fun x S2 g2 t2 r2 => by
    cases r2
    refine ⟨⟨a, rfl⟩, hb S2 (g.trans g2) _ fun y S3 g3 t3 r3 => ?_⟩
    cases r3
    refine ⟨a, b, rfl, rfl, h1, h2, fun q' hq' => ?_⟩
    exact q q' _ ⟨S3.F, upd S3.H q' (.lst ((Txt.split a b).map V.str)), S3.T⟩ ((g2.trans g3).trans (Gr.newO g3.ok hq')) (by show S3.T ≤ _; omega) ((g2.trans g3).fresh hq') upd_same (g3.ok.freshF hq') (Rps.strs _)
theorem ed_join {b : Bool} {a : Str} {ys : List Str} (ha : EvD K p ta σ S (.str a)) (hb : EvQ K p tb σ S b (ys.map D.str)) (hz : (ys.map (·.length)).sum + ys.length * a.length ≤ 16777216) : EvD K p (tM1 (rJoin K) ta tb) σ S (.str (Txt.join a ys)) := fun S1 g Q q =>
  ha S1 g _ fun x S2 g2 t2 r2 => by
    cases r2
    refine ⟨⟨a, rfl⟩, hb S2 (g.trans g2) _ fun y xs S3 g3 t3 h3 r3 => ?_⟩
    have e := r3.strs_inv
    subst e
    refine ⟨a, y, ys, rfl, rfl, ?_, hz, q _ S3 (g2.trans g3) (by omega) (.str _)⟩
    cases b with
    | true => rw [if_pos rfl] at h3; exact .inl (.of h3.1)
    | false => rw [if_neg Bool.false_ne_true] at h3; exact .inr (Evl.ex_t g3.ok.sub h3)
/-! ## draws within arguments and displays -/
def EvAN (K : PySem.W.Frag) (p : Option Addr) (ta : TA) (σ : L2.St) (S : Wd) (n : Nat) (P : List D → Prop) : Prop := ∀ S1, Gr K p S S1 → S1.T + n ≤ 1000000000 → ∀ Q : List V → Hp → Prop, (∀ vs ds S2, Gr K p S1 S2 → S2.T ≤ S1.T + n → Rps K S2.F vs ds → P ds → Q vs S2.H) → ta σ S1.H Q
theorem ean_nil : EvAN K p tNil σ S 0 (fun ds => ds = []) := fun S1 g _ Q q => q [] [] S1 (Gr.refl g.ok) (Nat.le_refl _) .nil rfl
theorem ean_cons {tr : TA} {PS : List D → Prop} (h : EvN K p te σ S n P) (hr : EvAN K p tr σ S k PS) : EvAN K p (tCons te tr) σ S (n + k) (fun es => ∃ d ds, es = d :: ds ∧ P d ∧ PS ds) := fun S1 g hb Q q =>
  h S1 g (by omega) _ fun x d S2 g2 t2 rx px => hr S2 (g.trans g2) (by omega) _ fun xs ds S3 g3 t3 rs ps => q (x :: xs) (d :: ds) S3 (g2.trans g3) (by omega) (.cons (rx.mono g3.ff) rs) ⟨d, ds, rfl, px, ps⟩
theorem EvA.toN {tr : TA} (h : EvA K p tr σ S ds) : EvAN K p tr σ S 0 (fun es => es = ds) := fun S1 g _ Q q => h S1 g Q fun vs S2 g2 t r => q vs ds S2 g2 t r rfl
theorem EvAN.le {tr : TA} {PS PS' : List D → Prop} (h : EvAN K p tr σ S n PS) (hn : n ≤ m) (hP : ∀ d, PS d → PS' d) : EvAN K p tr σ S m PS' := fun S1 g b Q q => h S1 g (by omega) Q fun v d S2 g2 t r k => q v d S2 g2 (by omega) r (hP d k)
theorem en_lst {tr : TA} {PS : List D → Prop} (h : EvAN K p tr σ S n PS) (hz : ∀ ds, PS ds → ds.length ≤ sizeLine) : EvN K p (tLst tr) σ S n (fun d => ∃ ds, d = .lst ds ∧ PS ds) := fun S1 g hb Q q =>
  h S1 g hb _ fun xs ds S2 g2 t2 rs ps => ⟨by rw [rs.length]; exact hz ds ps, fun a ha => q (.ref a) (.lst ds) ⟨upd S2.F a (.lst xs), upd S2.H a (.lst xs), S2.T⟩ (g2.trans (Gr.new g2.ok ha)) t2 (.lst upd_same (rs.mono (Ex.new (g2.ok.freshF ha)))) ⟨ds, rfl, ps⟩⟩
theorem en_tup {tr : TA} {PS : List D → Prop} (h : EvAN K p tr σ S n PS) (hz : ∀ ds, PS ds → ds.length ≤ sizeLine) : EvN K p (tTup tr) σ S n (fun d => ∃ ds, d = .tup ds ∧ PS ds) := fun S1 g hb Q q =>
  h S1 g hb _ fun xs ds S2 g2 t2 rs ps => ⟨by rw [rs.length]; exact hz ds ps, fun a ha => q (.ref a) (.tup ds) ⟨upd S2.F a (.tup xs), upd S2.H a (.tup xs), S2.T⟩ (g2.trans (Gr.new g2.ok ha)) t2 (.tup (.of upd_same) (rs.mono (Ex.new (g2.ok.freshF ha)))) ⟨ds, rfl, ps⟩⟩
/-- a draw, then something of data -/
theorem en_op1 {r : R2} {P' : D → Prop} (ha : EvN K p ta σ S n P) (hb : EvD K p tb σ S d2) (hr : ∀ d, P d → ∃ e, P' e ∧ RD K p r d d2 e) : EvN K p (tOp r ta tb) σ S n P' := fun S1 g hB Q q =>
  ha S1 g hB _ fun x d S2 g2 t2 rx px => hb S2 (g.trans g2) _ fun y S3 g3 t3 ry => by
    obtain ⟨e, pe, hr'⟩ := hr d px
    exact hr' S3 x y g3.ok ((rx.mono g3.ff).mono g3.ok.subh) (ry.mono g3.ok.subh) Q fun v S4 g4 t4 r4 => q v e S4 ((g2.trans g3).trans g4) (by omega) r4 pe
theorem en_op2 {r : R2} {P' : D → Prop} (ha : EvD K p ta σ S d1) (hb : EvN K p tb σ S n P) (hr : ∀ d, P d → ∃ e, P' e ∧ RD K p r d1 d e) : EvN K p (tOp r ta tb) σ S n P' := fun S1 g hB Q q =>
  ha S1 g _ fun x S2 g2 t2 rx => hb S2 (g.trans g2) (by omega) _ fun y d S3 g3 t3 ry px => by
    obtain ⟨e, pe, hr'⟩ := hr d px
    exact hr' S3 x y g3.ok ((rx.mono g3.ff).mono g3.ok.subh) (ry.mono g3.ok.subh) Q fun v S4 g4 t4 r4 => q v e S4 ((g2.trans g3).trans g4) (by omega) r4 pe
/-- f(pen, ..) whose arguments draw too -/
theorem en_callA {a : Addr} {nn N : Nat} {pre : List D → Prop} {post : List D → D → Prop} {t : TA} {E : XK} {PS : List D → Prop} (hv : EvV K (some a) te σ S (.ref a)) (h : EvAN K (some a) t σ S k PS) (hn : ∀ ds, PS ds → ds.length = nn ∧ pre ds) : EvN K (some a) (tCall (spN K nn N pre post) [] E (tCons te t)) σ S (k + N) (fun e => ∃ ds, PS ds ∧ post ds e) := fun S1 g hb Q q =>
  hv S1 g _ fun S2 g2 t2 => h S2 (g.trans g2) (by omega) _ fun vs ds S3 g3 t3 rs ps => by
    show spN K nn N pre post ((.ref a :: vs) ++ []) S3.H Q E
    rw [List.append_nil]
    refine ⟨S3, a, vs, ds, rfl, rfl, g3.ok, rs, (hn ds ps).1, (hn ds ps).2, by omega, fun v d S' g' t' r k => ?_⟩
    exact q v d S' ((g2.trans g3).trans g') (by omega) r ⟨ds, ps, k⟩
/-- if not (a draw that is true): goes on -/
theorem s_ifN {tu tw : TS} (h : Sta K p S0 B m M n σ S l) (he : EvN K p te σ S k (fun d => d = .bl true)) (hn : n + k ≤ M) (kk : ∀ S', Sta K p S0 B m M (n + k) σ S' l → tw G σ S'.H) : tIfS (tNot (tB te)) tu tw G σ S.H :=
  he S (Gr.refl h.ok) (by have := h.tb; have := h.tn; omega) _ fun v d S2 g2 t2 r e => by
    subst e
    cases r
    exact ⟨true, rfl, by
      show if (!true) = true then _ else _
      rw [if_neg (by decide)]
      exact kk S2 (h.grow g2 t2)⟩
theorem en_if {t : TT} {b : Bool} (h : EvT K p t σ S b) (h1 : b = true → EvN K p ta σ S n P) (h2 : b = false → EvN K p tb σ S n P) : EvN K p (tIf t ta tb) σ S n P := fun S1 g hB Q q => h S1 g _ fun S2 g2 t2 => by
  cases b with
  | true =>
    rw [if_pos rfl]
    exact h1 rfl S2 (g.trans g2) (by omega) Q fun v d S3 g3 t3 r3 p3 => q v d S3 (g2.trans g3) (by omega) r3 p3
  | false =>
    rw [if_neg Bool.false_ne_true]
    exact h2 rfl S2 (g.trans g2) (by omega) Q fun v d S3 g3 t3 r3 p3 => q v d S3 (g2.trans g3) (by omega) r3 p3
/-! ## x, y = e, f -/
/-- something that a slot may take -/
def EvX (K : PySem.W.Frag) (p : Option Addr) (te : TE) (σ : L2.St) (S : Wd) (n : Nat) (P : Ty → Prop) : Prop := ∀ S1, Gr K p S S1 → S1.T + n ≤ 1000000000 → ∀ Q : VK, (∀ v t S2, Gr K p S1 S2 → S2.T ≤ S1.T + n → Ty.is K S1.H S2 v t → P t → Q v S2.H) → te σ S1.H Q
theorem EvD.x (h : EvD K p te σ S d) : EvX K p te σ S 0 (fun t => t = .dat d) := fun S1 g _ Q q => h S1 g Q fun v S2 g2 t r => q v (.dat d) S2 g2 t r rfl
theorem EvO.x (h : EvO K p te σ S ds) : EvX K p te σ S 0 (fun t => t = .own ds) := fun S1 g _ Q q => h S1 g Q fun a vs S2 g2 t h0 h1 h2 r => q (.ref a) (.own ds) S2 g2 t ⟨a, vs, rfl, h1, r, h2, h0⟩ rfl
theorem EvN.x (h : EvN K p te σ S n P) : EvX K p te σ S n (fun t => ∃ d, t = .dat d ∧ P d) := fun S1 g hb Q q => h S1 g hb Q fun v d S2 g2 t r pd => q v (.dat d) S2 g2 t r ⟨d, rfl, pd⟩
/-- what a value may be, seen from an earlier heap -/
theorem Ty.back {H0 H1 : Hp} {t : Ty} (hb : ∀ a, H1 a = none → H0 a = none) (h : Ty.is K H1 S v t) : Ty.is K H0 S v t := by
  cases t with
  | dat _ => exact h
  | val _ => exact h
  | own ds => obtain ⟨a, vs, e, h1, h2, h3, h4⟩ := h; exact ⟨a, vs, e, h1, h2, h3, hb a h4⟩
  | odc ds => obtain ⟨a, vs, e, h1, h2, h3, h5, h4⟩ := h; exact ⟨a, vs, e, h1, h2, h3, h5, hb a h4⟩
theorem Ty.ref_of {H1 : Hp} {t : Ty} (h : Ty.is K H1 S v t) (o : t.ow = true) : ∃ a, v = .ref a ∧ H1 a = none ∧ S.H a ≠ none := by
  cases t with
  | dat _ => cases o
  | val _ => cases o
  | own ds => obtain ⟨a, vs, e, h1, h2, h3, h4⟩ := h; exact ⟨a, e, h4, by rw [h1]; simp⟩
  | odc ds => obtain ⟨a, vs, e, h1, h2, h3, h5, h4⟩ := h; exact ⟨a, e, h4, by rw [h1]; simp⟩
/-- a value made behind the state at S is stored -/
theorem Sta.setX {H1 : Hp} (h : Sta K p S0 B m M n σ S l) (hi : i < m) (ht : Ty.is K H1 S v t) (hb : ∀ a, H1 a = none → S0.H a = none) (hs : ∀ q ∈ del i l, q.2.ow = true → ∀ a, σ[q.1]? = some (some (.ref a)) → H1 a ≠ none) : Sta K p S0 B m M n (σ.set i (some v)) S (put i t l) :=
  h.set hi (Ty.back hb ht) fun o q hq oq e => by
    obtain ⟨a, rfl, h1, _⟩ := Ty.ref_of ht o
    exact hs q hq oq a e h1
theorem Sta.alive (h : Sta K p S0 B m M n σ S l) {q : Nat × Ty} (hq : q ∈ l) (oq : q.2.ow = true) {a : Addr} (e : σ[q.1]? = some (some (.ref a))) : S.H a ≠ none := by
  obtain ⟨v, e2, r⟩ := h.has q hq
  rw [e2] at e
  cases e
  obtain ⟨b, e3, _, h3⟩ := Ty.ref_of r oq
  cases e3
  exact h3
theorem s_par {k2 : Nat} {P1 P2 : Ty → Prop} (h : Sta K p S0 B m M n σ S l) (h1 : EvX K p ta σ S k P1) (h2 : EvX K p tb σ S k2 P2) (hi : i < m) (hj : j < m) (hij : i ≠ j) (hn : n + (k + k2) ≤ M)
    (kk : ∀ t1 t2 σ' S', P1 t1 → P2 t2 → Sta K p S0 B m M (n + (k + k2)) σ' S' (put j t2 (put i t1 l)) → G.nx σ' S'.H) : tPar i j (tCons ta (tCons tb tNil)) G σ S.H :=
  h1 S (Gr.refl h.ok) (by have := h.tb; have := h.tn; omega) _ fun v t1 S2 g2 q2 r1 p1 => h2 S2 g2 (by have := h.tb; have := h.tn; omega) _ fun w t2 S3 g3 q3 r2 p2 => by
    have ht := h.tb
    have hn' := h.tn
    have H3 : Sta K p S0 B m M (n + (k + k2)) σ S3 l := h.grow (g2.trans g3) (by omega)
    refine ⟨v, w, rfl, kk t1 t2 _ S3 p1 p2 ?_⟩
    have f0 : ∀ a, S.H a = none → S0.H a = none := fun a e => h.g.fresh e
    have r1' : Ty.is K S.H S3 v t1 := Ty.grow (H0 := S.H) g2 h.ok g3 r1
    have A := H3.setX (t := t1) hi r1' f0 fun q hq oq a e => h.alive (del_mem hq).1 oq e
    refine A.setX (t := t2) hj r2 (fun a e => f0 a (g2.fresh e)) fun q hq oq a e => ?_
    obtain ⟨hq1, hq2⟩ := del_mem hq
    rcases List.mem_cons.mp hq1 with rfl | hq1
    · rw [List.getElem?_set_self (by rw [h.len]; exact hi)] at e
      cases e
      obtain ⟨b, e3, _, h3⟩ := Ty.ref_of r1 oq
      cases e3
      exact h3
    · have hq1' := del_mem hq1
      rw [List.getElem?_set_ne (Ne.symm hq1'.2)] at e
      exact g2.al a (h.alive hq1'.1 oq e)
/-- i = x.pop(), j = .. -/
theorem s_popPar (h : Sta K p S0 B m M n σ S l) {c : Nat} (hg : get l c = some (.own (ds ++ [d]))) (hi : i < m) (hj : j < m) (hij : i ≠ j) (hb : ∀ S', Sta K p S0 B m M n σ S' (put c (.own ds) l) → EvD K p tb σ S' d2)
    (kk : ∀ σ' S', Sta K p S0 B m M n σ' S' (put j (.dat d2) (put i (.dat d) (put c (.own ds) l))) → G.nx σ' S'.H) : tPar i j (tCons (tBM0 K "list" rPop (tVar c)) (tCons tb tNil)) G σ S.H := by
  obtain ⟨v, e, a, vs, rfl, h1, h2, h3, h4⟩ := h.has _ (get_mem hg)
  have el : vs.length = ds.length + 1 := by rw [h2.length, List.length_append, List.length_singleton]
  obtain ⟨x, ex, rx⟩ := h2.get (i := ds.length) (d := d) (by simp)
  refine ⟨_, e, .inl ⟨rfl, vs, .of h1⟩, a, vs, x, rfl, rfl, h1, by rw [el]; exact ex, ?_⟩
  have hd : Rps K S.F vs.dropLast ds := by
    have q := h2.dropLast
    rw [List.dropLast_concat] at q
    exact q
  have H2 := h.chg hg e h1 hd
  have e2 := hb ⟨S.F, upd S.H a (.lst vs.dropLast), S.T⟩ H2
  refine e2 _ (Gr.refl H2.ok) _ fun w S3 g3 t3 r3 => ⟨x, w, rfl, kk _ S3 ?_⟩
  have H3 := H2.grow0 g3 t3
  exact (H3.set hi (t := .dat d) (rx.mono g3.ff) fun z => by cases z).set hj (t := .dat d2) r3 fun z => by cases z
/-- i, j = x.pop(), the popped a pair -/
theorem s_popPair (h : Sta K p S0 B m M n σ S l) {c : Nat} (hg : get l c = some (.own (ds ++ [.tup [d1, d2]]))) (hi : i < m) (hj : j < m)
    (kk : ∀ σ' S', Sta K p S0 B m M n σ' S' (put j (.dat d2) (put i (.dat d1) (put c (.own ds) l))) → G.nx σ' S'.H) : tAsg (tBM0 K "list" rPop (tVar c)) (gTup K 2 (gCons (gName i) (gCons (gName j) gNil))) G σ S.H := by
  obtain ⟨v, e, a, vs, rfl, h1, h2, h3, h4⟩ := h.has _ (get_mem hg)
  have el : vs.length = ds.length + 1 := by rw [h2.length, List.length_append, List.length_singleton]
  obtain ⟨x, ex, rx⟩ := h2.get (i := ds.length) (d := .tup [d1, d2]) (by simp)
  refine ⟨_, e, .inl ⟨rfl, vs, .of h1⟩, a, vs, x, rfl, rfl, h1, by rw [el]; exact ex, ?_⟩
  have hd : Rps K S.F vs.dropLast ds := by
    have q := h2.dropLast
    rw [List.dropLast_concat] at q
    exact q
  have H2 := h.chg hg e h1 hd
  cases rx with
  | @tup b us _ hb hr =>
    cases hr with
    | @cons x1 _ _ _ r1 hr =>
      cases hr with
      | @cons x2 _ _ _ r2 hr =>
        cases hr
        refine ⟨b, _, rfl, Evl.ex_t H2.ok.sub hb, rfl, ?_⟩
        refine ⟨_, _, rfl, _, _, rfl, rfl, ?_⟩
        exact kk _ ⟨S.F, upd S.H a (.lst vs.dropLast), S.T⟩ ((H2.set hi (t := .dat d1) r1 fun z => by cases z).set hj (t := .dat d2) r2 fun z => by cases z)
end
end DL
namespace DL
open PySem L2
open Evl (Ex)
/-! ## dicts made -/
def putG {α : Type} (kds : List (Key × α)) (k : Key) (d : α) : List (Key × α) :=
  if (kds.any fun kv => decide (kv.1 = k)) = true then kds.map (fun kv => if kv.1 = k then (kv.1, d) else kv) else kds ++ [(k, d)]
theorem any_keys {α β : Type} {kvs : List (Key × α)} {kds : List (Key × β)} (h : kvs.map (·.1) = kds.map (·.1)) (k : Key) : (kvs.any fun kv => decide (kv.1 = k)) = (kds.any fun kv => decide (kv.1 = k)) := by
  have e1 : (kvs.any fun kv => decide (kv.1 = k)) = (kvs.map (·.1)).any fun z => decide (z = k) := by rw [List.any_map]; rfl
  have e2 : (kds.any fun kv => decide (kv.1 = k)) = (kds.map (·.1)).any fun z => decide (z = k) := by rw [List.any_map]; rfl
  rw [e1, e2, h]
theorem rps_upd {K : PySem.W.Frag} {F : Hp} {k : Key} {v : V} {d : D} (hv : Rp K F v d) : ∀ {kvs : List (Key × V)} {kds : List (Key × D)}, kvs.map (·.1) = kds.map (·.1) → Rps K F (kvs.map (·.2)) (kds.map (·.2)) →
    (kvs.map fun kv => if kv.1 = k then (kv.1, v) else kv).map (·.1) = (kds.map fun kv => if kv.1 = k then (kv.1, d) else kv).map (·.1) ∧
    Rps K F ((kvs.map fun kv => if kv.1 = k then (kv.1, v) else kv).map (·.2)) ((kds.map fun kv => if kv.1 = k then (kv.1, d) else kv).map (·.2))
  | [], [], _, _ => ⟨rfl, .nil⟩
  | [], _ :: _, h, _ => by cases h
  | _ :: _, [], h, _ => by cases h
  | (k1, v1) :: r, (k2, d2) :: r2, h, q => by
    have h1 : k1 = k2 := (List.cons.inj h).1
    have h2 : r.map (·.1) = r2.map (·.1) := (List.cons.inj h).2
    subst h1
    cases q with
    | cons q1 q2 =>
      obtain ⟨e1, e2⟩ := rps_upd (k := k) hv h2 q2
      by_cases e : k1 = k
      · subst e
        simp only [List.map_cons, if_true]
        exact ⟨by rw [e1], .cons hv e2⟩
      · simp only [List.map_cons, if_neg e]
        exact ⟨by rw [e1], .cons q1 e2⟩
theorem rps_put {K : PySem.W.Frag} {F : Hp} {k : Key} {v : V} {d : D} {kvs : List (Key × V)} {kds : List (Key × D)} (hk : kvs.map (·.1) = kds.map (·.1)) (r : Rps K F (kvs.map (·.2)) (kds.map (·.2))) (hv : Rp K F v d) :
    (putK kvs k v).map (·.1) = (putG kds k d).map (·.1) ∧ Rps K F ((putK kvs k v).map (·.2)) ((putG kds k d).map (·.2)) := by
  unfold putK putG
  rw [any_keys hk k]
  split
  · exact rps_upd hv hk r
  · rw [List.map_append, List.map_append, List.map_append, List.map_append, hk]
    exact ⟨rfl, r.append (.cons hv .nil)⟩
theorem putG_len {α : Type} (kds : List (Key × α)) (k : Key) (d : α) : (putG kds k d).length ≤ kds.length + 1 := by
  unfold putG
  split
  · rw [List.length_map]; omega
  · rw [List.length_append]; simp
def mkD (ks : List (Key × D)) : List (Key × D) := ks.foldl (fun acc kd => putG acc kd.1 kd.2) []
theorem mkD_snoc (ks : List (Key × D)) (k : Key) (d : D) : mkD (ks ++ [(k, d)]) = putG (mkD ks) k d := by
  unfold mkD
  rw [List.foldl_append]
  rfl
theorem mkD_len (ks : List (Key × D)) : (mkD ks).length ≤ ks.length := by
  unfold mkD
  have : ∀ (ks acc : List (Key × D)), (ks.foldl (fun acc kd => putG acc kd.1 kd.2) acc).length ≤ acc.length + ks.length := by
    intro ks
    induction ks with
    | nil => intro acc; exact Nat.le_refl _
    | cons q r ih =>
      intro acc
      rw [List.foldl_cons]
      have h1 := ih (putG acc q.1 q.2)
      have h2 := putG_len acc q.1 q.2
      rw [List.length_cons]
      omega
  have h := this ks []
  simpa using h
section
variable {K : PySem.W.Frag} {p : Option Addr} {S S0 S1 S2 S3 : Wd} {B : Hp} {σ σ' : L2.St} {te ta tb tc to tk tv : TE} {d d1 d2 d3 : D} {ds es : List D} {v : V} {m M n k : Nat} {P P1 P2 : D → Prop} {l l' : En} {i j : Nat} {t : Ty} {kds : List (Key × D)}
def EvOD (K : PySem.W.Frag) (p : Option Addr) (te : TE) (σ : L2.St) (S : Wd) (kds : List (Key × D)) : Prop := ∀ S1, Gr K p S S1 → ∀ Q : VK, (∀ a kvs S2, Gr K p S1 S2 → S2.T ≤ S1.T → S1.H a = none → S2.H a = some (.dK kvs) → S2.F a = none → kvs.map (·.1) = kds.map (·.1) → Rps K S2.F (kvs.map (·.2)) (kds.map (·.2)) → Q (.ref a) S2.H) → te σ S1.H Q
theorem EvOD.ed (h : EvOD K p te σ S kds) : EvD K p te σ S (.dic kds) := fun S1 g Q q => h S1 g Q fun a kvs S2 g2 t h0 h1 h2 hk r =>
  q (.ref a) ⟨upd S2.F a (.dK kvs), S2.H, S2.T⟩ (g2.fix h0 h1 h2 (ok_ne g.ok h0)) t (.dic upd_same hk (r.mono (Ex.new h2)))
theorem EvOD.x (h : EvOD K p te σ S kds) : EvX K p te σ S 0 (fun t => t = .odc kds) := fun S1 g _ Q q => h S1 g Q fun a kvs S2 g2 t h0 h1 h2 hk r => q (.ref a) (.odc kds) S2 g2 t ⟨a, kvs, rfl, h1, hk, r, h2, h0⟩ rfl
theorem eod_new : EvOD K p tDNewK σ S [] := fun S1 g Q q => fun a ha => q a [] ⟨S1.F, upd S1.H a (.dK []), S1.T⟩ (Gr.newO g.ok ha) (Nat.le_refl _) ha upd_same (g.ok.freshF ha) rfl .nil
theorem eod_dc {wi : TI} {tt : TT} {vs : List Nat} {b : DL.D → Bool} {kf : DL.D → Key} {f : DL.D → DL.D} (h : Sta K p S0 B m M n σ S l) (hq : EvS K p wi σ S ds) (hi : i < m) (hv : vs.contains i = true)
    (he : ∀ d ∈ ds, ∀ B' n' σ' S', Sta K p S0 B' m M n' σ' S' (put i (.dat d) (l.filter fun q => !vs.contains q.1)) → EvT K p tt σ' S' (b d) ∧ (b d = true → EvD K p tk σ' S' (kD (kf d)) ∧ EvD K p tv σ' S' (f d))) (hz : ds.length < sizeLine) :
    EvOD K p (tDc wi (gName i) tt tk tv vs) σ S (mkD ((ds.filter b).map fun d => (kf d, f d))) := by
  intro S1 g1 Q q
  have hm : i ∈ vs := by simpa using hv
  refine hq S1 g1 _ fun J S2 g2 t2 src => ?_
  intro A hA
  have hF2 := g2.ok.freshF hA
  have hAp := ok_ne g2.ok hA
  refine ⟨fun c k H' => k = ds.length - c ∧ c ≤ ds.length ∧ ∃ (S' : Wd) (acc : List (Key × V)), S'.H = H' ∧ Gr K p S2 S' ∧ S'.T ≤ S2.T ∧ S'.H A = some (.dK acc) ∧ S'.F A = none ∧ acc.map (·.1) = (mkD (((ds.take c).filter b).map fun d => (kf d, f d))).map (·.1) ∧ Rps K S'.F (acc.map (·.2)) ((mkD (((ds.take c).filter b).map fun d => (kf d, f d))).map (·.2)),
    ⟨ds.length, by simp, Nat.zero_le _, ⟨S2.F, upd S2.H A (.dK []), S2.T⟩, [], rfl, Gr.newO g2.ok hA, Nat.le_refl _, upd_same, hF2, by rw [List.take_zero]; rfl, by rw [List.take_zero]; exact .nil⟩, ?_⟩
  rintro c k H' ⟨rfl, hc, S', acc, rfl, g', t', hA', hF', ka, ra⟩
  obtain ⟨s1, s2⟩ := src S' g'.ff g'.ok c
  by_cases hlt : c < ds.length
  · obtain ⟨go, yl⟩ := s1 hlt
    refine .inr ⟨go, fun H' => ∃ (S' : Wd) (acc : List (Key × V)), S'.H = H' ∧ Gr K p S2 S' ∧ S'.T ≤ S2.T ∧ S'.H A = some (.dK acc) ∧ S'.F A = none ∧ acc.map (·.1) = (mkD (((ds.take (c + 1)).filter b).map fun d => (kf d, f d))).map (·.1) ∧ Rps K S'.F (acc.map (·.2)) ((mkD (((ds.take (c + 1)).filter b).map fun d => (kf d, f d))).map (·.2)), fun H' q => ⟨ds.length - (c + 1), by omega, rfl, hlt, q⟩, fun x H' y => ?_⟩
    obtain ⟨eH, d, hd, rx⟩ := yl x H' y
    subst eH
    have st := (h.any ((g1.trans g2).trans g')).wiped vs
    have st2 := (st.set (t := .dat d) hi rx (fun z => by cases z)).base (fun _ _ q => q)
    obtain ⟨e1, e2⟩ := he d (List.mem_of_getElem? hd) _ _ _ _ st2
    refine ⟨by rw [wipe_set hm, wipe_wipe fun _ z => z], e1 S' (Gr.refl g'.ok) _ fun S3 g3 t3 => ?_⟩
    have tk : (ds.take (c + 1)).filter b = if b d = true then (ds.take c).filter b ++ [d] else (ds.take c).filter b := by
      rw [List.take_succ, hd, List.filter_append]
      simp only [Option.toList, List.filter_cons, List.filter_nil]
      split <;> simp
    cases hb : b d with
    | true =>
      rw [if_pos rfl]
      obtain ⟨ek, ev⟩ := e2 hb
      refine ek S3 g3 _ fun y S4 g4 t4 ry => ev S4 (g3.trans g4) _ fun z S5 g5 t5 rz => ?_
      have g6 := (g3.trans g4).trans g5
      have hA5 := g6.hh _ _ hA' hAp
      have hF5 : S5.F A = none := (g6.old A (by rw [hA']; simp)).trans hF'
      have hl : acc.length ≤ ds.length := by
        have e : acc.length = (mkD (((ds.take c).filter b).map fun d => (kf d, f d))).length := by have := congrArg List.length ka; simpa using this
        rw [e]
        refine Nat.le_trans (mkD_len _) ?_
        rw [List.length_map]
        exact Nat.le_trans (List.length_filter_le _ _) (by rw [List.length_take]; omega)
      have ey := kD_kV ry
      obtain ⟨w1, w2⟩ := rps_put (k := kf d) ka (ra.mono g6.ff) rz
      refine ⟨acc, kf d, ey, hA5, by omega, ⟨S5.F, upd S5.H A (.dK (putK acc (kf d) z)), S5.T⟩, putK acc (kf d) z, rfl, Gr.chg g2.ok (g'.trans g6) hA hF5, by show S5.T ≤ _; omega, upd_same, hF5, ?_, ?_⟩
      · rw [tk, hb, if_pos rfl, List.map_append]
        show _ = (mkD (_ ++ [(kf d, f d)])).map _
        rw [mkD_snoc]
        exact w1
      · rw [tk, hb, if_pos rfl, List.map_append]
        show Rps K S5.F _ ((mkD (_ ++ [(kf d, f d)])).map _)
        rw [mkD_snoc]
        exact w2
    | false =>
      rw [if_neg Bool.false_ne_true]
      have hA3 := g3.hh _ _ hA' hAp
      have hF3 : S3.F A = none := (g3.old A (by rw [hA']; simp)).trans hF'
      refine ⟨S3, acc, rfl, g'.trans g3, by omega, hA3, hF3, ?_, ?_⟩
      · rw [tk, hb, if_neg Bool.false_ne_true]
        exact ka
      · rw [tk, hb, if_neg Bool.false_ne_true]
        exact ra.mono g3.ff
  · have e : c = ds.length := by omega
    subst e
    rw [List.take_length] at ra ka
    exact .inl ⟨s2 rfl, q A acc S' (g2.trans g') (by omega) (g2.fresh hA) hA' hF' ka ra⟩
end
/-! how many keys -/
def addU {α : Type} [DecidableEq α] (acc : List α) (k : α) : List α := if (acc.any fun z => decide (z = k)) = true then acc else acc ++ [k]
theorem putG_keys {α : Type} (kds : List (Key × α)) (k : Key) (d : α) : (putG kds k d).map (·.1) = addU (kds.map (·.1)) k := by
  have e1 : (kds.any fun kv => decide (kv.1 = k)) = (kds.map (·.1)).any fun z => decide (z = k) := by rw [List.any_map]; rfl
  unfold putG addU
  rw [e1]
  split
  · rw [List.map_map]
    apply List.map_congr_left
    intro q _
    show (if q.1 = k then (q.1, d) else q).1 = q.1
    split <;> rfl
  · rw [List.map_append]; rfl
/-- the first of each -/
def uniq {α : Type} [DecidableEq α] (l : List α) : List α := l.foldl addU []
theorem mkD_keys (ks : List (Key × D)) : (mkD ks).map (·.1) = uniq (ks.map (·.1)) := by
  unfold mkD uniq
  have : ∀ (ks acc : List (Key × D)) (a2 : List Key), acc.map (·.1) = a2 → (ks.foldl (fun acc kd => putG acc kd.1 kd.2) acc).map (·.1) = (ks.map (·.1)).foldl addU a2 := by
    intro ks
    induction ks with
    | nil => intro acc a2 h; exact h
    | cons q r ih =>
      intro acc a2 h
      rw [List.foldl_cons, List.map_cons, List.foldl_cons]
      refine ih _ _ ?_
      rw [putG_keys, h]
  exact this ks [] [] rfl
theorem uniq_map {α β : Type} [DecidableEq α] [DecidableEq β] (f : α → β) (hf : ∀ x y, f x = f y → x = y) (l : List α) : uniq (l.map f) = (uniq l).map f := by
  unfold uniq
  have : ∀ (l acc : List α), (l.map f).foldl addU (acc.map f) = (l.foldl addU acc).map f := by
    intro l
    induction l with
    | nil => intro acc; rfl
    | cons q r ih =>
      intro acc
      rw [List.map_cons, List.foldl_cons, List.foldl_cons]
      have e : addU (acc.map f) (f q) = (addU acc q).map f := by
        unfold addU
        have e2 : ((acc.map f).any fun z => decide (z = f q)) = acc.any fun z => decide (z = q) := by
          rw [List.any_map]
          congr 1
          funext z
          show decide (f z = f q) = decide (z = q)
          exact decide_eq_decide.mpr ⟨hf z q, fun h => by rw [h]⟩
        rw [e2]
        split
        · rfl
        · rw [List.map_append]; rfl
      rw [e, ih]
  exact this l []
end DL
/-! ## sum of a list of lists -/
namespace DL.SumL
open PySem PySem.Spec PyProof.Rows
section
variable {prog : Program} {w : World} {A : Around} {R : Result → Shared → Prop} {I : Addr} {fp wr : List Addr} {G : Array GenState → Array GenState → Prop} {n : Nat} {P : Nat → Value → Prop} {St : Nat → Shared → Prop}
def flat (vs : Nat → List Value) : Nat → Nat → List Value
  | _, 0 => []
  | i, k + 1 => vs i ++ flat vs (i + 1) k
theorem loop (W : WalksS prog w A.in1 I fp wr G n P St) (S : Addr) (hSf : S ∉ fp) (b0 : Nat) (hSb : b0 ≤ S) (hw : ∀ b ∈ wr, b0 ≤ b) (hw2 : ∀ b ∈ wr, b < S) (val : Nat → Addr) (hval : ∀ i v, P i v → v = Value.ref (val i)) (hb : ∀ i, i < n → val i < b0) (vs : Nat → List Value) :
    ∀ (k i : Nat) (s : Shared) (T : Addr) (acc : List Value) (c m : Nat), n - i = k → i ≤ n → St i s → s.heap.get? S = some { cls := .type "list", dict := none, data := .seq #[.ref T] c, slots := #[] } →
    s.heap.get? T = some { cls := .type "list", data := .seq acc.toArray m } → T ≠ S → (T < b0 ∨ S < T) → (∀ j, j < n → ∃ m, s.heap.get? (val j) = some { cls := .type "list", data := .seq (vs j).toArray m }) → (acc ++ flat vs i k).length ≤ sizeLine →
    (∀ s' T' m', Moved (S :: wr) G s s' → s'.heap.get? T' = some { cls := .type "list", data := .seq (acc ++ flat vs i k).toArray m' } → ((k = 0 ∧ T' = T) ∨ S < T') → R (.ok (.ret (.ref T'))) s') → codeAny (model prog w) A (.builtin "sum.loop" ⟨[.ref I, .ref S, rawInt 2, rawInt 0], []⟩) R s := by
  have hSw : S ∉ wr := fun h => hSf (W.sub _ h)
  have hsub : ∀ b ∈ wr, b ∈ S :: wr := fun b hb => List.mem_cons_of_mem _ hb
  intro k
  induction k with
  | zero =>
    intro i s T acc c m hk hi hst hS hT hTS hTw hL hz hR
    have hin : i = n := by omega
    subst hin
    refine codeAny_builtin F.entry_sum_loop ?_
    rw [Around.under_plainId F.plain_sum_loop _]
    show wpAny _ A.in1 (seqItems? (.ref S) >>= _) _ _ s
    refine wpAny_bind (wpAny_seqItems hS rfl ?_)
    show wpAny _ A.in1 (tryCatch (pyNext (.ref I)) _ >>= _) _ _ s
    refine wpAny_bind (wpAny_tryCatch (W.done s _ _ hst fun s' hm => ?_))
    have hTw' : T ∉ wr := by
      rcases hTw with h | h
      · exact fun z => absurd (hw _ z) (Nat.not_le_of_lt h)
      · exact fun z => absurd (hw2 _ z) (Nat.not_lt_of_lt h)
    exact wpAny_pure (hR s' T m (hm.mono hsub) (by show _ = some ({ cls := .type "list", data := .seq (acc ++ []).toArray m } : Obj); rw [List.append_nil]; exact hm.heap T _ hTw' hT) (.inl ⟨rfl, rfl⟩))
  | succ k ih =>
    intro i s T acc c m hk hi hst hS hT hTS hTw hL hz hR
    have hlt : i < n := by omega
    have hTw' : T ∉ wr := by
      rcases hTw with h | h
      · exact fun z => absurd (hw _ z) (Nat.not_le_of_lt h)
      · exact fun z => absurd (hw2 _ z) (Nat.not_lt_of_lt h)
    refine codeAny_builtin F.entry_sum_loop ?_
    rw [Around.under_plainId F.plain_sum_loop _]
    show wpAny _ A.in1 (seqItems? (.ref S) >>= _) _ _ s
    refine wpAny_bind (wpAny_seqItems hS rfl ?_)
    show wpAny _ A.in1 (tryCatch (pyNext (.ref I)) _ >>= _) _ _ s
    refine wpAny_bind (wpAny_tryCatch (W.item i s _ _ hlt hst fun v s' hP hst' hm => ?_))
    have ev := hval i v hP
    subst ev
    have old : ∀ b, b < b0 → ∀ o, s.heap.get? b = some o → s'.heap.get? b = some o := fun b hb o e => hm.heap b o (fun z => absurd (hw _ z) (Nat.not_le_of_lt hb)) e
    have hS' := hm.heap S _ hSw hS
    have hT' := hm.heap T _ hTw' hT
    obtain ⟨m2, hv⟩ := hL i hlt
    have hv' := old _ (hb i hlt) _ hv
    have hz1 : acc.length + (vs i).length ≤ sizeLine := by
      have e : (acc ++ flat vs i (k + 1)).length = acc.length + ((vs i).length + (flat vs (i + 1) k).length) := by
        rw [List.length_append]
        show _ + (vs i ++ flat vs (i + 1) k).length = _
        rw [List.length_append]
      omega
    show wpAny _ A.in1 ((holding [Value.ref (val i)] (binaryOp .Add (.ref T) (.ref (val i)))).attempt >>= _) _ _ _
    refine wpAny_bind (wpAny_attempt (wpAny_holding (PySem.P.add_list hT' hv' ?_ (by rw [List.size_toArray, List.size_toArray]; exact hz1))))
    have ea : acc.toArray ++ (vs i).toArray = (acc ++ vs i).toArray := by simp
    rw [ea]
    have hSp := Heap.get?_push_of_some ({ cls := .type "list", data := .seq (acc ++ vs i).toArray } : Obj) hS'
    show wpAny _ A.in1 (updateSeq S (fun _ => #[.ref s'.heap.objs.size]) >>= _) _ _ _
    refine wpAny_bind (wpAny_updateSeq hSp rfl ?_)
    have hS₂ := Heap.get?_update_self (Obj.mapSeq fun _ => #[Value.ref s'.heap.objs.size]) hSp rfl
    refine wpAny_bind (wpAny_letGo ?_)
    have hSz : S < s'.heap.objs.size := Heap.lt_size hS'
    have oth : ∀ b, b ≠ S → ∀ o, s'.heap.get? b = some o → (((s'.heap.push { cls := .type "list", data := .seq (acc ++ vs i).toArray }).update S (Obj.mapSeq fun _ => #[Value.ref s'.heap.objs.size])).update S (Obj.mapSeq fun _ => #[Value.ref s'.heap.objs.size])).get? b = some o := fun b hb o e =>
      (Heap.get?_update_other _ _ (fun h : S = b => hb h.symm)).trans ((Heap.get?_update_other _ _ (fun h : S = b => hb h.symm)).trans (Heap.get?_push_of_some _ e))
    refine wpAny_bind (wpAny_updateSeq hS₂ rfl (wpAny_pure ⟨plainId_quiet F.plain_sum_loop _, ih (i + 1) _ s'.heap.objs.size (acc ++ vs i) _ 0 (by omega) hlt (W.frame _ s' _ _ hst' (by first | exact Nat.le_refl _ | exact Nat.le_succ _ | omega) fun b hb o e => ?_) (Heap.get?_update_self _ hS₂ rfl) ?_ ?_ ?_ (fun j hj => ?_) ?_ fun s'' T'' m'' hm'' hT'' hor => ?_⟩))
    · exact oth b (fun z => hSf (z ▸ hb)) o e
    · have hne : s'.heap.objs.size ≠ S := Nat.ne_of_gt hSz
      exact (Heap.get?_update_other _ _ (fun h : S = _ => hne h.symm)).trans ((Heap.get?_update_other _ _ (fun h : S = _ => hne h.symm)).trans (Heap.get?_push_size _ rfl))
    · exact Nat.ne_of_gt hSz
    · exact .inr hSz
    · obtain ⟨m3, h3⟩ := hL j hj
      exact ⟨m3, oth _ (fun z => by have q := hb j hj; rw [z] at q; exact absurd hSb (Nat.not_le_of_lt q)) _ (old _ (hb j hj) _ h3)⟩
    · rw [List.append_assoc]; exact hz
    · refine hR s'' T'' m'' (Moved.trans W.gtrans ((hm.mono hsub).then_heap (by first | exact Nat.le_refl _ | exact Nat.le_succ _ | omega) fun b o hb e => ?_) hm'') ?_ ?_
      · exact oth b (fun h => hb (by rw [h]; exact List.mem_cons_self)) o e
      · rw [List.append_assoc] at hT''; exact hT''
      · rcases hor with h | h
        · exact .inr (by rw [h.2]; exact hSz)
        · exact .inr h
end
section
variable {prog : Program} {w : World} {A : Around} {E : Value → Shared → Prop} {s : Shared}
theorem args_sum2 (a b : Value) : argsOk "sum" ⟨[a, b], []⟩ := by unfold argsOk; kernel_rfl
theorem call_sum {x : Addr} {b : Addr} {its : Array Value} {m : Nat} {Q : Value → Shared → Prop} (hh : A.handled = none) (hl : s.heap.IsList x its) (val : Nat → Addr) (vs : Nat → List Value) (hval : ∀ i v, its[i]? = some v → v = Value.ref (val i))
    (hL : ∀ j, j < its.size → ∃ m, s.heap.get? (val j) = some { cls := .type "list", data := .seq (vs j).toArray m }) (hb : s.heap.get? b = some { cls := .type "list", data := .seq #[] m }) (hn : 0 < its.size) (hz : (flat vs 0 its.size).length ≤ sizeLine)
    (h : ∀ (h' : Heap) (tk : Nat) (T m' : Nat), (∀ a o, s.heap.get? a = some o → h'.get? a = some o) → s.heap.objs.size ≤ T → h'.get? T = some { cls := .type "list", data := .seq (flat vs 0 its.size).toArray m' } → Q (.ref T) { s with heap := h', toks := tk }) :
    wpAny (model prog w) A (call (.builtin "sum") [.ref x, .ref b]) Q E s := by
  refine call_function_tree F.kind_sum F.plain_sum F.entry_sum (args_sum2 _ _) ?_
  unfold Builtin.«sum»
  simp only [List.length_cons, List.length_nil]
  rw [if_neg (by decide)]
  refine wpAny_bind (wpAny_of_eq (show Builtin.Builtins.bindParams "sum" ["start"] 0 ⟨[.ref b], []⟩ = pure [some (.ref b)] from rfl) ?_)
  have hx : x < s.heap.objs.size := by obtain ⟨o, ho, _⟩ := hl; exact Heap.lt_size ho
  have hbx : b < s.heap.objs.size := Heap.lt_size hb
  refine wpAny_bind (wpAny_pyIter_list hl ?_)
  refine wpAny_bind (wpAny_pure ?_)
  have hb2 : (s.heap.push { cls := .type "list_iterator", data := .fields #[.ref x, .int 0 0] }).get? b = some { cls := .type "list", data := .seq #[] m } := Heap.get?_push_of_some _ hb
  have tb : Shared.TypeIs { s with heap := s.heap.push { cls := .type "list_iterator", data := .fields #[.ref x, .int 0 0] } } (.ref b) "list" := ⟨_, hb2, rfl⟩
  simp only [List.forIn_cons, List.forIn_nil]
  refine wpAny_bind (wpAny_bind (wpAny_bind (wpAny_isInstance (T := "list") (b := false) tb F.sub_list_str ?_)))
  simp only [Bool.false_eq_true, if_false]
  refine wpAny_pure (wpAny_bind (wpAny_bind (wpAny_isInstance (T := "list") (b := false) tb F.sub_list_bytes ?_)))
  simp only [Bool.false_eq_true, if_false]
  refine wpAny_pure (wpAny_bind (wpAny_bind (wpAny_isInstance (T := "list") (b := false) tb F.sub_list_bytearray ?_)))
  simp only [Bool.false_eq_true, if_false]
  refine wpAny_pure (wpAny_pure ?_)
  refine wpAny_bind (wpAny_newObj_type ?_)
  have hs1 : (s.heap.push { cls := .type "list_iterator", data := .fields #[.ref x, .int 0 0] }).objs.size = s.heap.objs.size + 1 := Heap.size_push ..
  have hne : x ≠ s.heap.objs.size := Nat.ne_of_lt hx
  have kp : ∀ a o, s.heap.get? a = some o → ((s.heap.push { cls := .type "list_iterator", data := .fields #[.ref x, .int 0 0] }).push { cls := .type "list", data := .seq [Value.ref b].toArray }).get? a = some o := fun a o e => Heap.get?_push_of_some _ (Heap.get?_push_of_some _ e)
  refine wpAny_pure ⟨plainId_quiet F.plain_sum_loop _, loop ((Walks.list (A := A.in1) hh s.heap.objs.size x hne its).toS) (s.heap.push { cls := .type "list_iterator", data := .fields #[.ref x, .int 0 0] }).objs.size ?_ s.heap.objs.size ?_ ?_ ?_ val (fun i v hv => hval i v hv) (fun i hi => ?_) vs its.size 0 _ b [] _ m (by omega) (Nat.zero_le _) ?_ (Heap.get?_push_size _ rfl) (kp _ _ hb) ?_ (.inl hbx) (fun j hj => ?_) (by rw [List.nil_append]; exact hz) fun s' T' m' hm hT hor => ?_⟩
  · rw [hs1]
    simp only [List.mem_cons, List.not_mem_nil, or_false, not_or]
    exact ⟨Nat.succ_ne_self _, Nat.ne_of_gt (Nat.lt_succ_of_lt hx)⟩
  · rw [hs1]; exact Nat.le_succ _
  · intro q hq
    rw [List.mem_singleton.mp hq]
    exact Nat.le_refl _
  · intro q hq
    rw [List.mem_singleton.mp hq, hs1]
    exact Nat.lt_succ_self _
  · obtain ⟨m, e⟩ := hL i hi
    exact Heap.lt_size e
  · exact ⟨⟨_, Heap.get?_push_of_some _ (Heap.get?_push_size _ rfl), rfl, rfl⟩, (hl.push _).push _⟩
  · rw [hs1]; exact Nat.ne_of_lt (Nat.lt_succ_of_lt hbx)
  · obtain ⟨m, e⟩ := hL j hj
    exact ⟨m, kp _ _ e⟩
  · rw [List.nil_append] at hT
    have hT2 : s.heap.objs.size ≤ T' := by
      rcases hor with z | z
      · omega
      · rw [hs1] at z; exact Nat.le_of_lt (Nat.lt_trans (Nat.lt_succ_self _) z)
    obtain ⟨h', g', d', tk', os'⟩ := s'
    have eg : g' = s.gens := hm.gens
    have ed : d' = s.drawn := hm.drawn
    have eo : os' = s.os := hm.os
    subst eg; subst ed; subst eo
    refine h h' tk' T' m' (fun a o e => hm.heap a o ?_ (kp a o e)) hT2 hT
    have ha := Heap.lt_size e
    rw [hs1]
    simp only [List.mem_cons, List.not_mem_nil, or_false, not_or]
    exact ⟨Nat.ne_of_lt (Nat.lt_succ_of_lt ha), Nat.ne_of_lt ha⟩
end
end DL.SumL
namespace DL
open PySem PySem.Spec PyProof.Rows L2
theorem pick_fun {α β : Type} {P : α → β → Prop} (h : ∀ x, ∃ y, P x y) : ∃ f : α → β, ∀ x, P x (f x) := ⟨fun x => (h x).choose, fun x => (h x).choose_spec⟩
theorem flat_vals {vs : List (List V)} {us : Nat → List Value} : ∀ (k i : Nat), i + k = vs.length → (∀ j xs, vs[j]? = some xs → Vals xs (us j)) → Vals (vs.drop i).flatten (SumL.flat us i k)
  | 0, i, h, _ => by
    rw [List.drop_eq_nil_of_le (by omega)]
    exact .nil
  | k + 1, i, h, hv => by
    have hi : i < vs.length := by omega
    rw [List.drop_eq_getElem_cons hi, List.flatten_cons]
    exact (hv i _ (List.getElem?_eq_getElem hi)).append (flat_vals k (i + 1) (by omega) hv)
/-- sum(a list of lists, []), one list or more -/
def rSumL (K : PySem.W.Frag) : List V → Hp → VK → Prop := fun xs H Q => ∃ (a b : Addr) (ls : List Addr) (vs : List (List V)), xs = [.ref a, .ref b] ∧ SqL K H a (ls.map V.ref) ∧ H b = some (.lst []) ∧ 0 < ls.length ∧ ls.length = vs.length ∧ (∀ (i l : Nat) (ys : List V), ls[i]? = some l → vs[i]? = some ys → H l = some (.lst ys)) ∧ vs.flatten.length ≤ sizeLine ∧
  ∀ p, H p = none → Q (.ref p) (upd H p (.lst vs.flatten))
theorem call_sumL {X : Cx} (hc : X.calm = true) : CallR X (.builtin "sum") (rSumL X.K) := by
  intro pins s σ H xs us Q I r h
  obtain ⟨a, b, ls, vs, rfl, ha, hb, h0, hlen, hl, hz, q⟩ := h
  cases r with
  | cons r1 r =>
    cases r with
    | cons r2 r =>
      cases r
      cases r1
      cases r2
      obtain ⟨its, rv, pl, _⟩ := I.list ha
      obtain ⟨its2, n2, rv2, e2, _⟩ := I.lst hb
      cases rv2
      have hil : its.length = ls.length := by rw [← rv.length, List.length_map]
      have hat : ∀ (i l : Nat), ls[i]? = some l → its[i]? = some (Value.ref l) := fun i l e => by
        obtain ⟨u, hu, ru⟩ := rv.get (i := i) (x := .ref l) (by rw [List.getElem?_map, e]; rfl)
        cases ru
        exact hu
      have hv : ∀ (i : Nat), ∃ us : List Value, ∀ ys, vs[i]? = some ys → ∀ l, ls[i]? = some l → Vals ys us ∧ ∃ m, s.heap.get? l = some { cls := .type "list", data := .seq us.toArray m } := fun i => by
        by_cases hi : i < ls.length
        · obtain ⟨us, m, rr, e, _⟩ := I.lst (hl i ls[i] (vs[i]'(by omega)) (List.getElem?_eq_getElem hi) (List.getElem?_eq_getElem (by omega)))
          refine ⟨us, fun ys hy l hl' => ?_⟩
          rw [List.getElem?_eq_getElem (by omega)] at hy
          rw [List.getElem?_eq_getElem hi] at hl'
          cases hy; cases hl'
          exact ⟨rr, m, e⟩
        · exact ⟨[], fun ys _ l hl' => absurd (List.getElem?_eq_some_iff.mp hl').1 hi⟩
      obtain ⟨uf, huf⟩ := pick_fun hv
      have hfl := flat_vals (vs := vs) (us := uf) vs.length 0 (by omega) (fun j xs e => by
        have hj : j < ls.length := by rw [hlen]; exact (List.getElem?_eq_some_iff.mp e).1
        exact (huf j xs e _ (List.getElem?_eq_getElem hj)).1)
      rw [List.drop_zero] at hfl
      have es : its.toArray.size = vs.length := by rw [List.size_toArray, hil, hlen]
      refine SumL.call_sum (its := its.toArray) (I.ok.hd hc) pl.isList (fun i => ls.getD i 0) uf (fun i v e => ?_) (fun j hj => ?_) e2 (by rw [es]; omega) (by rw [es, ← hfl.length]; exact hz) fun h' tk T m' hk hT hT2 => ?_
      · have e' : its[i]? = some v := by simpa using e
        have hi : i < ls.length := by rw [← hil]; exact (List.getElem?_eq_some_iff.mp e').1
        have e3 := hat i ls[i] (List.getElem?_eq_getElem hi)
        rw [e'] at e3
        cases e3
        rw [List.getD_eq_getElem?_getD, List.getElem?_eq_getElem hi]
        rfl
      · rw [es, ← hlen] at hj
        rw [List.getD_eq_getElem?_getD, List.getElem?_eq_getElem hj]
        exact (huf j _ (List.getElem?_eq_getElem (by omega)) ls[j] (List.getElem?_eq_getElem hj)).2
      · rw [es] at hT2
        have hTn : H T = none := I.hok.fresh hT
        refine ⟨.ref T, upd H T (.lst vs.flatten), I.laid (t' := tk) hk hT ?_, rfl, q T hTn⟩
        exact ⟨hz, _, m', hfl, hT2⟩
end DL
/-! ## sets of texts -/
namespace DL.SetT
open PySem PySem.Spec PyProof.Rows
def cnt (val : Nat → Str) (i : Nat) : List Str := uniq ((List.range i).map val)
theorem cnt_succ (val : Nat → Str) (i : Nat) : cnt val (i + 1) = addU (cnt val i) (val i) := by
  unfold cnt uniq
  rw [List.range_succ, List.map_append, List.foldl_append]
  rfl
theorem addU_any (l : List Str) (x k : Str) : ((addU l x).any fun z => decide (z = k)) = ((l.any fun z => decide (z = k)) || decide (k = x)) := by
  unfold addU
  split
  · rename_i h
    by_cases e : k = x
    · subst e; simp [h]
    · simp [e]
  · rw [List.any_append]
    simp [eq_comm]
theorem addU_len (l : List Str) (x : Str) : (addU l x).length = if (l.any fun z => decide (z = x)) = true then l.length else l.length + 1 := by
  unfold addU
  split <;> simp
theorem cnt_le (val : Nat → Str) : ∀ i, (cnt val i).length ≤ i
  | 0 => Nat.le_refl _
  | i + 1 => by
    have := cnt_le val i
    rw [cnt_succ, addU_len]
    split <;> omega
section
variable {prog : Program} {w : World} {A : Around} {R : Result → Shared → Prop} {I : Addr} {fp wr : List Addr} {G : Array GenState → Array GenState → Prop} {n : Nat} {P : Nat → Value → Prop} {St : Nat → Shared → Prop}
theorem loop (W : WalksS prog w A.in1 I fp wr G n P St) (S : Addr) (hSf : S ∉ fp) (val : Nat → Str) (hn1 : n + 1 < scanBound)
    (hval : ∀ i v, P i v → ∃ t, v = .str (val i) t) :
    ∀ (k i : Nat) (s : Shared), n - i = k → i ≤ n → St i s →
      s.heap.SetOf (PySem.strKind prog w) S (fun k' => (cnt val i).any fun z => decide (z = k')) (cnt val i).length →
      (∀ s', Moved (S :: wr) G s s' → s'.heap.SetOf (PySem.strKind prog w) S (fun k' => (cnt val n).any fun z => decide (z = k')) (cnt val n).length → R (.ok (.ret .none)) s') →
      codeAny (model prog w) A (.builtin "set.update.loop" ⟨[.ref S, .ref I], []⟩) R s := by
  have hSw : S ∉ wr := fun h => hSf (W.sub _ h)
  have hsub : ∀ b ∈ wr, b ∈ S :: wr := fun b hb => List.mem_cons_of_mem _ hb
  intro k
  induction k with
  | zero =>
    intro i s hk hi hst hS hR
    have hin : i = n := by omega
    subst hin
    refine codeAny_builtin PyProof.Rows.F.entry_set_update_loop ?_
    rw [Around.under_plainId PyProof.Rows.F.plain_set_update_loop _]
    show wpAny _ A.in1 (pyNext (.ref I) >>= _) _ _ s
    refine wpAny_bind (W.done s _ _ hst fun s' hm => ?_)
    show wpAny _ A.in1 (ret Value.none) _ _ s'
    exact wpAny_pure (hR s' (hm.mono hsub) (by
      obtain ⟨o, es, ep, t, ho, rest⟩ := hS
      exact ⟨o, es, ep, t, hm.heap S _ hSw ho, rest⟩))
  | succ k ih =>
    intro i s hk hi hst hS hR
    have hlt : i < n := by omega
    refine codeAny_builtin PyProof.Rows.F.entry_set_update_loop ?_
    rw [Around.under_plainId PyProof.Rows.F.plain_set_update_loop _]
    show wpAny _ A.in1 (pyNext (.ref I) >>= _) _ _ s
    refine wpAny_bind (W.item i s _ _ hlt hst fun v s' hP hst' hm => ?_)
    obtain ⟨t, rfl⟩ := hval i v hP
    have hS' : s'.heap.SetOf (PySem.strKind prog w) S (fun k' => (cnt val i).any fun z => decide (z = k')) (cnt val i).length := by
      obtain ⟨o, es, ep, tb, ho, rest⟩ := hS
      exact ⟨o, es, ep, tb, hm.heap S _ hSw ho, rest⟩
    show wpAny _ A.in1 (holding [Value.str (val i) t] (setAdd S (.str (val i) t)) >>= _) _ _ s'
    refine wpAny_bind (wpAny_holding ?_)
    unfold setAdd
    refine wpAny_holding ?_
    refine wpAny_bind ((PySem.strKind prog w).pyHash (k := val i) (strKind_is _ _ _ _) ?_)
    refine wpAny_setAddHashed_of (knd := PySem.strKind prog w) (s := { s' with toks := s'.toks + 1 }) (strKind_is _ _ _ _) rfl hS' (by have := cnt_le val i; omega) fun h' hsb hS2 => ?_
    have hSi : h'.SetOf (PySem.strKind prog w) S (fun k' => (cnt val (i + 1)).any fun z => decide (z = k')) (cnt val (i + 1)).length :=
      SetOf_congr hS2 (fun k' => by rw [cnt_succ, addU_any]) (by rw [cnt_succ, addU_len])
    refine wpAny_pure ⟨plainId_quiet PyProof.Rows.F.plain_set_update_loop _, ih (i + 1) _ (by omega) hlt (W.frame _ s' _ _ hst' (Nat.le_succ _) fun b hb o e => ?_) hSi fun s'' hm'' hS'' => ?_⟩
    · rw [hsb.2 b (fun h : b = S => hSf (by rw [← h]; exact hb))]; exact e
    · refine hR s'' (Moved.trans W.gtrans ((hm.mono hsub).then_heap (Nat.le_succ _) fun b o hb e => ?_) hm'') hS''
      rw [hsb.2 b (fun h : b = S => hb (by rw [h]; exact List.mem_cons_self))]; exact e
end
section
variable {prog : Program} {w : World} {A : Around} {E : Value → Shared → Prop} {s : Shared}
theorem call_set {l : Addr} {items : Array Value} {val : Nat → Str} {Q : Value → Shared → Prop}
    (hh : A.handled = none) (hl : s.heap.IsList l items) (hval : ∀ (i : Nat) (v : Value), items[i]? = some v → ∃ t, v = .str (val i) t) (hn1 : items.size + 1 < scanBound)
    (h : ∀ (h' : Heap) (tk : Nat), h'.SetOf (PySem.strKind prog w) s.heap.objs.size (fun k' => (cnt val items.size).any fun z => decide (z = k')) (cnt val items.size).length →
      (∀ b o, b < s.heap.objs.size → s.heap.get? b = some o → h'.get? b = some o) → Q (.ref s.heap.objs.size) { s with heap := h', toks := tk }) :
    wpAny (model prog w) A (call (.type "set") [.ref l]) Q E s := by
  obtain ⟨c, tl, hmro⟩ := PySem.F.called_set.mro
  have hmade := PySem.F.called_set.made
  have hsub := PySem.F.called_set.sub
  refine wpAny_call (codeAny_of_tree ?_)
  show wpAny _ _ (callAny (.type "set") _) _ _ _
  refine wpAny_pure ⟨Code.quiet_builtin _ (by decide +kernel), codeAny_builtin PySem.F.entry_type_call ?_⟩
  rw [Around.under_plain (weight_type_call_type "set" [.ref l] []) rfl]
  have h1 := PySem.F.called_set.notType
  have h2 := PySem.F.called_set.canCreate
  have hct := PySem.F.typeCall_set_1 (.ref l)
  repeat (any_goals (first | assumption | wp_step))
  refine codeAny_mono (code_set_new_1 (.ref l) (E := E) (Q₁ := fun obj s₁ => ∃ led : Bool, obj = .ref s.heap.objs.size ∧ s₁ = { s with heap := s.heap.push { cls := .type "set", dict := none, data := .set #[] 0 (.fresh 0 0 led) } }) fun led => ⟨led, rfl, rfl⟩) fun r s₁ hr => ?_
  cases r with
  | error e => exact hr
  | ok fl =>
    cases fl with
    | ret obj =>
      obtain ⟨led, rfl, rfl⟩ := hr
      have hS : (s.heap.push { cls := .type "set", dict := none, data := .set #[] 0 (.fresh 0 0 led) }).get? s.heap.objs.size = some { cls := .type "set", dict := none, data := .set #[] 0 (.fresh 0 0 led) } := Heap.get?_push_size _ rfl
      have hT : Shared.TypeIs { s with heap := s.heap.push { cls := .type "set", dict := none, data := .set #[] 0 (.fresh 0 0 led) } } (.ref s.heap.objs.size) "set" := ⟨_, hS, rfl⟩
      have hli := PySem.F.called_set.init.lookup
      have hbi := PySem.F.called_set.init.bind (.ref s.heap.objs.size)
      repeat (any_goals (first | assumption | wp_step))
      refine codeAny_mono (codeAny_call_builtin (R := wants (fun r s₂ => r = .none ∧ ∃ h' tk, s₂ = { s with heap := h', toks := tk } ∧
          h'.SetOf (PySem.strKind prog w) s.heap.objs.size (fun k' => (cnt val items.size).any fun z => decide (z = k')) (cnt val items.size).length ∧
          (∀ b o, b < s.heap.objs.size → s.heap.get? b = some o → h'.get? b = some o)) E) PySem.F.called_set.init.plain PySem.F.entry_set_init (check_set_init_1 hT ?_)) fun r₂ s₂ hr₂ => ?_
      · obtain ⟨ol, hol, hcl, nl, hdl⟩ := hl
        obtain ⟨ocls, odict, odata, oslots⟩ := ol
        simp only at hcl hdl
        subst hcl; subst hdl
        have hol' : (s.heap.push { cls := .type "set", dict := none, data := .set #[] 0 (.fresh 0 0 led) }).get? l = some { cls := .type "list", dict := odict, data := .seq items nl, slots := oslots } := Heap.get?_push_of_some _ hol
        have hsls := PySem.F.sub_list_set
        have hslf := PySem.F.sub_list_frozenset
        have hne : (Value.type "list" == Value.type "dict") = false := by decide
        have hl1 : (s.heap.push { cls := .type "set", dict := none, data := .set #[] 0 (.fresh 0 0 led) }).IsList l items := ⟨_, hol', rfl, nl, rfl⟩
        unfold Builtin.«set.__init__» noKeywords Builtin.Frozenset.updateFrom
        generalize hPI : pyIter = PI
        wp_walk
        subst hPI
        refine wpAny_pyIter_list hl1 ?_
        refine wpAny_bind (wpAny_runValue ?_)
        have hlS : l < s.heap.objs.size := Heap.lt_size hol
        have hh3 : A.in1.in1.in1.handled = none := by simp [hh]
        have hneI : l ≠ (s.heap.push { cls := .type "set", dict := none, data := .set #[] 0 (.fresh 0 0 led) }).objs.size := by
          rw [Heap.size_push]; exact Nat.ne_of_lt (Nat.lt_succ_of_lt hlS)
        have hSf : s.heap.objs.size ∉ [(s.heap.push { cls := .type "set", dict := none, data := .set #[] 0 (.fresh 0 0 led) }).objs.size, l] := by
          rw [Heap.size_push]; simp only [List.mem_cons, List.mem_singleton, List.not_mem_nil, or_false, not_or]
          exact ⟨Nat.ne_of_lt (Nat.lt_succ_self _), Nat.ne_of_gt hlS⟩
        refine loop ((Walks.list hh3 _ l hneI items).toS) s.heap.objs.size
          hSf val hn1 hval (items.size - 0) 0 _ (by omega) (Nat.zero_le _)
          ⟨⟨_, Heap.get?_push_size _ rfl, rfl, rfl⟩, (hl1.push _)⟩ ?hS0 ?hR
        case hS0 =>
          have hget : ((s.heap.push { cls := .type "set", dict := none, data := .set #[] 0 (.fresh 0 0 led) }).push { cls := .type "list_iterator", data := .fields #[.ref l, .int 0 0] }).get? s.heap.objs.size
              = some { cls := .type "set", dict := none, data := .set #[] 0 (.fresh 0 0 led) } := Heap.get?_push_of_some _ hS
          exact PyProof.Rows.SetOf_congr ((PyProof.Rows.setObjOf_fresh (knd := PySem.strKind prog w) led).setOf hget (by unfold scanBound; omega)) (fun _ => rfl) rfl
        case hR =>
          intro s' hm hS'
          obtain ⟨h', g', d', tk', os'⟩ := s'
          have eg : g' = s.gens := hm.gens
          have ed : d' = s.drawn := hm.drawn
          have eo : os' = s.os := hm.os
          subst eg; subst ed; subst eo
          show wpAny _ _ _ _ _ _
          refine wpAny_pure ?_
          show wpAny _ _ (ret Value.none) _ _ _
          refine wpAny_pure ⟨rfl, h', tk', rfl, hS', fun b o hb e => ?_⟩
          have hb1 : b ≠ s.heap.objs.size := Nat.ne_of_lt hb
          have hb2 : b ≠ (s.heap.push { cls := .type "set", dict := none, data := .set #[] 0 (.fresh 0 0 led) }).objs.size := by
            rw [Heap.size_push]; exact Nat.ne_of_lt (Nat.lt_succ_of_lt hb)
          exact hm.heap b o (by simp only [List.mem_cons, List.mem_singleton, List.not_mem_nil, or_false, not_or]; exact ⟨hb1, hb2⟩) (Heap.get?_push_of_some _ (Heap.get?_push_of_some _ e))
      · cases r₂ with
        | error e => exact hr₂
        | ok fl₂ =>
          cases fl₂ with
          | ret r =>
            obtain ⟨rfl, h', tk, rfl, hS', hk'⟩ := hr₂
            repeat (any_goals (first | assumption | wp_step))
            exact h _ _ hS' hk'
          | _ => exact hr₂.elim
    | _ => exact hr.elim
end
theorem cnt_list (xs : List Str) : cnt (fun i => xs.getD i Str.empty) xs.length = uniq xs := by
  unfold cnt
  congr 1
  refine List.ext_getElem? fun i => ?_
  rw [List.getElem?_map]
  by_cases h : i < xs.length
  · rw [List.getElem?_range h, List.getElem?_eq_getElem h, Option.map_some, List.getD_eq_getElem?_getD, List.getElem?_eq_getElem h]
    rfl
  · rw [List.getElem?_eq_none (by rw [List.length_range]; omega), List.getElem?_eq_none (by omega)]
    rfl
end DL.SetT
namespace DL
open PySem PySem.Spec PyProof.Rows L2
/-- len(set(xs)), xs a list of texts -/
def tLenSetT (K : PySem.W.Frag) (ta : TE) : TE := fun σ H Q => ta σ H fun x H1 => ∃ l, ∃ xs : List Str, x = .ref l ∧ SqL K H1 l (xs.map V.str) ∧ xs.length ≤ 4000 ∧ Q (.int (uniq xs).length) H1
theorem pe_lenSetT {X : Cx} {a : Expr} {ta : TE} {p p2 q pos : Pos} (hc : X.calm = true) (hg : Gl X "len") (hm : X.mg "len" = none) (hg2 : Gl X "set") (hm2 : X.mg "set" = none) (ha : PE X a ta)
    (na : starEach [a] X.env = (false, eval a X.env) :: starEach [] X.env := by rfl) : PE X (.Call (.Name "len" p) [.Call (.Name "set" p2) [a] [] q] [] pos) (tLenSetT X.K ta) := by
  refine ⟨fun pins s σ H Q I h => ?_⟩
  refine Call_ (ld_blt I hg hm boot_len ?_)
  refine PyProof.Rows.callWith_builtin1 (PyProof.Rows.args_cons ?_ rfl) rfl rfl
  refine Call_ (ld_blt I hg2 hm2 boot_set ?_)
  refine PyProof.Rows.callWith_type1 (PyProof.Rows.args_cons (thn (ha.run pins s σ H _ I h) fun v s1 ⟨x, H1, I1, r1, q1⟩ => PyProof.Rows.args_nil ?_) na) na rfl
  obtain ⟨l, xs, rfl, hq, h1, q1⟩ := q1
  cases r1
  obtain ⟨its, r, pl, hz⟩ := I1.list hq
  have hl : its.toArray.size = xs.length := by rw [List.size_toArray, ← r.length, List.length_map]
  refine SetT.call_set (val := fun i => xs.getD i Str.empty) (I1.ok.hd hc) pl.isList (fun i v hv => SS.strs_at (strsAre_of r) i v (by simpa using hv)) (by rw [hl]; unfold scanBound; omega) fun h' tk hS hk => ?_
  refine PyProof.Rows.args_nil ?_
  rw [hl, SetT.cnt_list] at hS
  obtain ⟨o, es, ep, t, ho, hex, hd, _, _, _, hf, hn⟩ := hS
  have hu : (uniq xs).length ≤ xs.length := by rw [← SetT.cnt_list]; exact SetT.cnt_le _ _
  have I2 : Inv X pins σ H1 { s1 with heap := h', toks := tk } := I1.kept fun b o e => hk b o (Heap.lt_size e) e
  exact call_len_set ho hex hd hf (by rw [hn] <;> omega) ⟨.int (uniq xs).length, H1, I2.tok _, ⟨_, by rw [hn]⟩, q1⟩
end DL
namespace DL
open PySem L2
open Evl (Ex)
section
variable {K : PySem.W.Frag} {p : Option Addr} {S : Wd} {σ : L2.St} {te ta tb : TE} {d : D} {ds es : List D}
theorem ed_lenSet {xs : List Str} (h : EvQ K p ta σ S true (xs.map D.str)) (hz : xs.length ≤ 4000) : EvD K p (tLenSetT K ta) σ S (.int (uniq xs).length) := fun S1 g Q q => h S1 g _ fun a vs S2 g2 t2 h2 r2 => by
  rw [if_pos rfl] at h2
  have e := r2.strs_inv
  subst e
  exact ⟨a, xs, rfl, .of h2.1, hz, q _ S2 g2 t2 (.int _)⟩
/-- sum of lists that last -/
theorem rps_flat {F : Hp} : ∀ {vs : List (List V)} {dss : List (List D)}, vs.length = dss.length → (∀ (i : Nat) (xs : List V) (ds : List D), vs[i]? = some xs → dss[i]? = some ds → Rps K F xs ds) → Rps K F vs.flatten dss.flatten
  | [], [], _, _ => .nil
  | [], _ :: _, h, _ => by cases h
  | _ :: _, [], h, _ => by cases h
  | x :: vs, d :: dss, h, r => by
    rw [List.flatten_cons, List.flatten_cons]
    exact (r 0 x d rfl rfl).append (rps_flat (by simpa using h) fun i xs ds e1 e2 => r (i + 1) xs ds (by simpa using e1) (by simpa using e2))
theorem eo_sum {dss : List (List D)} (h : EvD K p ta σ S (.lst (dss.map D.lst))) (hn : 0 < dss.length) (hz : dss.flatten.length ≤ sizeLine) : EvO K p (tCB (rSumL K) (tCons ta (tCons (tLst tNil) tNil))) σ S dss.flatten := fun S1 g Q q =>
  h S1 g _ fun v S2 g2 t2 r => ⟨by show 0 ≤ sizeLine; exact Nat.zero_le _, fun b hb => by
    cases r with
    | @lst a xs _ h1 r2 =>
      have g3 : Gr K p S2 ⟨S2.F, upd S2.H b (.lst []), S2.T⟩ := Gr.newO g2.ok hb
      have hx : ∀ (i : Nat) (ds : List D), dss[i]? = some ds → ∃ l ys, xs[i]? = some (.ref l) ∧ S2.F l = some (.lst ys) ∧ Rps K S2.F ys ds := fun i ds e => by
        obtain ⟨x, hx, rx⟩ := r2.get (i := i) (d := .lst ds) (by rw [List.getElem?_map, e]; rfl)
        cases rx with
        | @lst l ys _ h3 r3 => exact ⟨l, ys, hx, h3, r3⟩
      have hx2 : ∀ i : Nat, ∃ ly : Addr × List V, ∀ ds, dss[i]? = some ds → xs[i]? = some (.ref ly.1) ∧ S2.F ly.1 = some (.lst ly.2) ∧ Rps K S2.F ly.2 ds := fun i => by
        cases e : dss[i]? with
        | none => exact ⟨(0, []), fun ds z => by cases z⟩
        | some ds =>
          obtain ⟨l, ys, e1, e2, e3⟩ := hx i ds e
          exact ⟨(l, ys), fun ds' z => by cases z; exact ⟨e1, e2, e3⟩⟩
      obtain ⟨f, hf⟩ := pick_fun hx2
      have hlx : xs.length = dss.length := by rw [r2.length, List.length_map]
      have exs : xs = ((List.range dss.length).map fun i => (f i).1).map V.ref := by
        refine List.ext_getElem? fun i => ?_
        rw [List.map_map, List.getElem?_map]
        by_cases hi : i < dss.length
        · rw [List.getElem?_range hi, (hf i _ (List.getElem?_eq_getElem hi)).1]; rfl
        · rw [List.getElem?_eq_none (by rw [hlx]; omega), List.getElem?_eq_none (by rw [List.length_range]; omega)]; rfl
      have at' : ∀ (i : Nat) (ys : List V), ((List.range dss.length).map fun i => (f i).2)[i]? = some ys → i < dss.length ∧ ys = (f i).2 := fun i ys e => by
        rw [List.getElem?_map] at e
        by_cases hi : i < dss.length
        · rw [List.getElem?_range hi] at e; cases e; exact ⟨hi, rfl⟩
        · rw [List.getElem?_eq_none (by rw [List.length_range]; omega)] at e; cases e
      have hfl : Rps K S2.F ((List.range dss.length).map fun i => (f i).2).flatten dss.flatten := rps_flat (by simp) fun i ys ds e1 e2 => by
        obtain ⟨hi, rfl⟩ := at' i ys e1
        exact (hf i ds e2).2.2
      refine ⟨a, b, (List.range dss.length).map fun i => (f i).1, (List.range dss.length).map fun i => (f i).2, rfl, ?_, upd_same, by simpa using hn, by simp, fun i l ys e1 e2 => ?_, ?_, fun A hA => ?_⟩
      · rw [← exs]
        exact .of (g3.ok.sub _ _ (g3.ff _ _ h1))
      · obtain ⟨hi, rfl⟩ := at' i ys e2
        rw [List.getElem?_map, List.getElem?_range hi] at e1
        cases e1
        exact g3.ok.sub _ _ (g3.ff _ _ (hf i _ (List.getElem?_eq_getElem hi)).2.1)
      · rw [hfl.length]; exact hz
      · exact q A _ ⟨S2.F, upd (upd S2.H b (.lst [])) A (.lst ((List.range dss.length).map fun i => (f i).2).flatten), S2.T⟩ ((g2.trans g3).trans (Gr.newO g3.ok hA)) t2 ((g2.trans g3).fresh hA) upd_same (g3.ok.freshF hA) hfl⟩
end
def rDictP (K : PySem.W.Frag) : List V → Hp → VK → Prop := fun xs H Q => ∃ (a : Addr) (ps : List Addr) (kvs : List (Key × V)), xs = [.ref a] ∧ SqL K H a (ps.map V.ref) ∧ Paired (fun p kv => SqT K H p [kV kv.1, kv.2]) ps kvs ∧
    ∀ p, H p = none → Q (.ref p) (upd H p (.dK (mergeK [] kvs)))
section
variable {K : PySem.W.Frag} {p : Option Addr} {S : Wd} {σ : L2.St} {te ta tb : TE} {d : D} {ds es : List D}
theorem rps_pairs {F : Hp} : ∀ {kds : List (Key × D)} {xs : List V}, Rps K F xs (kds.map fun kd => D.tup [kD kd.1, kd.2]) → ∃ (ps : List Addr) (kvs : List (Key × V)), xs = ps.map V.ref ∧ Paired (fun p kv => SqT K F p [kV kv.1, kv.2]) ps kvs ∧ kvs.map (·.1) = kds.map (·.1) ∧ Rps K F (kvs.map (·.2)) (kds.map (·.2))
  | [], _, .nil => ⟨[], [], rfl, .nil, rfl, .nil⟩
  | (k, d) :: kds, _, .cons h r => by
    obtain ⟨ps, kvs, e1, e2, e3, e4⟩ := rps_pairs r
    cases h with
    | @tup a us _ h1 h2 =>
      cases h2 with
      | cons q1 q2 => cases q2 with
        | cons q2 q3 =>
          cases q3
          have ek := kD_kV q1
          subst ek
          exact ⟨a :: ps, (k, _) :: kvs, by rw [e1]; rfl, .cons h1 e2, by rw [List.map_cons, List.map_cons, e3], .cons q2 e4⟩
theorem merge_mk {F : Hp} : ∀ {kds : List (Key × D)} {kvs acc : List (Key × V)} {acd : List (Key × D)}, kvs.map (·.1) = kds.map (·.1) → Rps K F (kvs.map (·.2)) (kds.map (·.2)) → acc.map (·.1) = acd.map (·.1) → Rps K F (acc.map (·.2)) (acd.map (·.2)) →
    (mergeK acc kvs).map (·.1) = (kds.foldl (fun acc kd => putG acc kd.1 kd.2) acd).map (·.1) ∧ Rps K F ((mergeK acc kvs).map (·.2)) ((kds.foldl (fun acc kd => putG acc kd.1 kd.2) acd).map (·.2))
  | [], [], _, _, _, _, h3, h4 => ⟨h3, h4⟩
  | [], _ :: _, _, _, h, _, _, _ => by cases h
  | _ :: _, [], _, _, h, _, _, _ => by cases h
  | (k1, d) :: kds, (k2, v) :: kvs, acc, acd, h1, h2, h3, h4 => by
    have e : k2 = k1 := (List.cons.inj h1).1
    subst e
    cases h2 with
    | cons q1 q2 =>
      obtain ⟨w1, w2⟩ := rps_put (k := k2) h3 h4 q1
      exact merge_mk (kds := kds) (kvs := kvs) (acc := putK acc k2 v) (acd := putG acd k2 d) (List.cons.inj h1).2 q2 w1 w2
theorem Paired.mapL {α β : Type} {R R' : α → β → Prop} : ∀ {xs : List α} {ys : List β}, Paired R xs ys → (∀ x y, R x y → R' x y) → Paired R' xs ys
  | _, _, .nil, _ => .nil
  | _, _, .cons h r, f => .cons (f _ _ h) (Paired.mapL r f)
theorem eod_dictP {kds : List (Key × D)} (h : EvD K p ta σ S (.lst (kds.map fun kd => D.tup [kD kd.1, kd.2]))) : EvOD K p (tCB (rDictP K) (tCons ta tNil)) σ S (mkD kds) := fun S1 g Q q => h S1 g _ fun v S2 g2 t2 r => by
  cases r with
  | @lst a xs _ h1 r2 =>
    obtain ⟨ps, kvs, e1, e2, e3, e4⟩ := rps_pairs r2
    subst e1
    refine ⟨a, ps, kvs, rfl, .of (g2.ok.sub _ _ h1), Paired.mapL e2 fun x y z => Evl.ex_t g2.ok.sub z, fun A hA => ?_⟩
    obtain ⟨w1, w2⟩ := merge_mk (acc := []) (acd := []) e3 e4 rfl .nil
    exact q A _ ⟨S2.F, upd S2.H A (.dK (mergeK [] kvs)), S2.T⟩ (g2.trans (Gr.newO g2.ok hA)) t2 (g2.fresh hA) upd_same (g2.ok.freshF hA) w1 w2
end
end DL
namespace DL
open PySem L2
open Evl (Ex)
/-! ## the laws' helpers: the pen, a draw, a pick -/
def dAt (ds : List D) (i : Nat) : D := ds.getD i .non
def spPen (K : PySem.W.Frag) : Sp := fun vs H Q _ => ∃ (a : Addr) (ns : List Int) (F : Hp), vs = [.ref a] ∧ SqL K H a (ns.map V.int) ∧ ns.length ≤ 63 ∧ Ok K none ⟨F, H, 0⟩ ∧
  ∀ (q c : Addr) (F' H' : Hp), Gr K none ⟨F, H, 0⟩ ⟨F', H', 0⟩ → F' c = some (.lst (ns.map V.int)) → H' q = some (.lst [.ref c, .int 0, .int 0]) → F' q = none → H q = none → Q (.ref q) H'
theorem spPen_len {K : PySem.W.Frag} {vs : List V} {H : Hp} {Q : VK} {E : XK} (h : spPen K vs H Q E) : vs.length = 1 := by
  obtain ⟨a, ns, F, rfl, _⟩ := h
  rfl
def spDraw (K : PySem.W.Frag) : Sp := spN K 1 1 (fun ds => ∃ m : Int, dAt ds 0 = .int m ∧ 1 ≤ m ∧ m ≤ 1000000) (fun ds d => ∃ r m : Int, d = .int r ∧ dAt ds 0 = .int m ∧ 0 ≤ r ∧ r < m)
def itemsD : D → Option (List D)
  | .lst ds => some ds
  | .tup ds => some ds
  | .str s => some (signs s)
  | _ => none
def spPick (K : PySem.W.Frag) : Sp := spN K 1 1 (fun ds => ∃ es, itemsD (dAt ds 0) = some es ∧ es ≠ [] ∧ es.length ≤ 1000000) (fun ds d => ∃ es, itemsD (dAt ds 0) = some es ∧ d ∈ es)
end DL
namespace DL
open PySem L2
open Evl (Ex)
/-! ## a draw -/
theorem bits_le {x : Int} {k : Nat} (h1 : -(2 ^ k : Int) < x) (h2 : x < 2 ^ k) : Builtin.Int.intBits x ≤ k := by
  unfold Builtin.Int.intBits
  split
  · exact Nat.zero_le _
  · rename_i h
    have h0 : x ≠ 0 := by simpa using h
    have hn : x.natAbs ≠ 0 := by omega
    have hb : x.natAbs < 2 ^ k := by
      have e : ((2 ^ k : Nat) : Int) = (2 : Int) ^ k := by simp
      omega
    exact (Nat.log2_lt hn).mpr hb
theorem mul_ok {x y : Int} (h1 : -(2 ^ 64 : Int) < y) (h2 : y < 2 ^ 64) : IntMulOk x y := IntMulOk.of_right (bits_le h1 h2)
theorem mul_okL {x y : Int} (h1 : -(2 ^ 64 : Int) < x) (h2 : x < 2 ^ 64) : IntMulOk x y := IntMulOk.of_left (bits_le h1 h2)
theorem pow_ok {x n : Int} {k : Nat} (h1 : -(2 ^ k : Int) < x) (h2 : x < 2 ^ k) (hn : 0 ≤ n) (hk : (k : Int) * n ≤ 2 ^ 27) : CPowI x n := by
  refine ⟨hn, Int.le_trans (Int.mul_le_mul_of_nonneg_right (Int.ofNat_le.mpr (bits_le h1 h2)) hn) hk⟩
/-! what does not touch the heap -/
def Zv (te : TE) (σ : L2.St) (H : Hp) (v : V) : Prop := ∀ Q : VK, Q v H → te σ H Q
section
variable {K : PySem.W.Frag} {σ : L2.St} {H : Hp} {x y v : V} {ta tb : TE} {i j : Nat} {G : Ends}
theorem e0_var (h : σ[i]? = some (some v)) : Zv (tVar i) σ H v := fun Q q => ⟨v, h, q⟩
theorem e0_c : Zv (tC v) σ H v := fun Q q => q
theorem e0_op {r : R2} (ha : Zv ta σ H x) (hb : Zv tb σ H y) (hr : ∀ Q : VK, Q v H → r x y H Q) : Zv (tOp r ta tb) σ H v := fun Q q => ha _ (hb _ (hr Q q))
theorem e0_cb {r : List V → Hp → VK → Prop} (ha : Zv ta σ H x) (hr : ∀ Q : VK, Q v H → r [x] H Q) : Zv (tCB r (tCons ta tNil)) σ H v := fun Q q => ha _ (hr Q q)
theorem e0_I0 {f : Int → Int → Int} {a b : Int} (ha : Zv ta σ H (.int a)) (hb : Zv tb σ H (.int b)) : Zv (tOp (rI0 fun i j => .int (f i j)) ta tb) σ H (.int (f a b)) := e0_op ha hb fun Q q => ⟨a, b, rfl, rfl, q⟩
theorem e0_B0 {f : Int → Int → Bool} {a b : Int} (ha : Zv ta σ H (.int a)) (hb : Zv tb σ H (.int b)) : Zv (tOp (rI0 fun i j => .bl (f i j)) ta tb) σ H (.bl (f a b)) := e0_op ha hb fun Q q => ⟨a, b, rfl, rfl, q⟩
theorem e0_I {C : Int → Int → Prop} {f : Int → Int → Int} {a b : Int} (ha : Zv ta σ H (.int a)) (hb : Zv tb σ H (.int b)) (hc : C a b) : Zv (tOp (rI C fun i j => .int (f i j)) ta tb) σ H (.int (f a b)) := e0_op ha hb fun Q q => ⟨a, b, rfl, rfl, hc, q⟩
theorem e0_add {a b : Int} (ha : Zv ta σ H (.int a)) (hb : Zv tb σ H (.int b)) : Zv (tOp (rAddU K) ta tb) σ H (.int (a + b)) := e0_op ha hb fun Q q => .inl ⟨a, b, rfl, rfl, q⟩
theorem e0_mul {a b : Int} (ha : Zv ta σ H (.int a)) (hb : Zv tb σ H (.int b)) (hc : IntMulOk a b) : Zv (tOp rMulU ta tb) σ H (.int (a * b)) := e0_op ha hb fun Q q => .inl ⟨a, b, rfl, rfl, hc, q⟩
theorem e0_int {a : Int} (ha : Zv ta σ H (.int a)) : Zv (tCB rInt1 (tCons ta tNil)) σ H (.int a) := e0_cb ha fun Q q => .inl ⟨a, rfl, q⟩
theorem e0_intB {a : Bool} (ha : Zv ta σ H (.bl a)) : Zv (tCB rInt1 (tCons ta tNil)) σ H (.int (if a then 1 else 0)) := e0_cb ha fun Q q => .inr ⟨a, rfl, q⟩
theorem e0_abs {a : Int} (ha : Zv ta σ H (.int a)) : Zv (tCB rAbs (tCons ta tNil)) σ H (.int (if a < 0 then -a else a)) := e0_cb ha fun Q q => ⟨a, rfl, q⟩
theorem e0_ix {a : Addr} {xs : List V} {z : Int} (ha : Zv ta σ H (.ref a)) (hb : Zv tb σ H (.int z)) (hH : H a = some (.lst xs)) (hv : atI xs z = some v) : Zv (tOp (rIx K) ta tb) σ H v := e0_op ha hb fun Q q => .inl ⟨a, xs, z, v, rfl, rfl, .of hH, hv, q⟩
theorem e0_len {a : Addr} {xs : List V} (ha : Zv ta σ H (.ref a)) (hH : H a = some (.lst xs)) : Zv (tCB (rLenA K) (tCons ta tNil)) σ H (.int (xs.length : Int)) := e0_cb ha fun Q q => .inl ⟨.ref a, xs.length, rfl, .inl ⟨xs, .of hH, rfl⟩, q⟩
theorem a0_asg (he : Zv ta σ H v) (k : G.nx (σ.set i (some v)) H) : tAsg ta (gName i) G σ H := he _ k
theorem a0_pen {a : Addr} {xs : List V} {z : Int} {c : Nat} {tp ti : TE} (he : Zv ta σ H v) (hp : Zv tp σ H (.ref a)) (hi : Zv ti σ H (.int z)) (hH : H a = some (.lst xs)) (hc : ixN xs.length z = some c) (k : G.nx σ (upd H a (.lst (xs.set c v)))) : tAsg ta (gSub tp ti rSetL) G σ H :=
  he _ (hp _ (hi _ ⟨a, xs, z, c, rfl, rfl, hH, hc, k⟩))
theorem a0_ret (he : Zv ta σ H v) (k : G.rt v H) : tRet ta G σ H := he _ k
theorem a0_if {tt : TT} {tu tw : TS} {b : Bool} (he : ∀ Q : Bool → Hp → Prop, Q b H → tt σ H Q) (k1 : b = true → tu G σ H) (k2 : b = false → tw G σ H) : tIfS tt tu tw G σ H := by
  refine he _ ?_
  cases b with
  | true => show if true = true then _ else _; rw [if_pos rfl]; exact k1 rfl
  | false => show if false = true then _ else _; rw [if_neg Bool.false_ne_true]; exact k2 rfl
theorem t0_test {b : Bool} (he : Zv ta σ H (.bl b)) : ∀ Q : Bool → Hp → Prop, Q b H → tTest ta σ H Q := fun Q q => he _ ⟨b, rfl, q⟩
end
/-- the pen's list is stored -/
theorem pen_chg {K : PySem.W.Frag} {a c : Addr} {S : Wd} {cs : List Int} {t r : Int} {T : Nat} (ok : Ok K (some a) S) (hc : S.F c = some (.lst (cs.map V.int))) (hl : cs.length ≤ 63) (ht : 0 ≤ t) (hT : t ≤ T) (hr : 0 ≤ r) : Gr K (some a) S ⟨S.F, upd S.H a (.lst [.ref c, .int t, .int r]), T⟩ := by
  have hF : S.F a = none := (ok.pen a rfl).2
  refine ⟨fun _ _ q => q, fun b o q np => ?_, fun b q => ?_, fun _ _ => rfl, ⟨fun b o q => ?_, fun b q => ?_⟩⟩ <;> dsimp only at *
  · rw [upd_ne (fun z => np (by rw [z]))]; exact q
  · intro z
    by_cases hb : b = a
    · subst hb; rw [upd_same] at z; cases z
    · rw [upd_ne hb] at z; exact q z
  · have hb : b ≠ a := fun z => by subst z; rw [hF] at q; cases q
    rw [upd_ne hb]; exact ok.sub b o q
  · cases q
    exact ⟨⟨c, t, r, cs, upd_same, hc, hl, ht, hT, hr⟩, hF⟩
/-- the draw's body, its constants apart -/
def drawT (K : PySem.W.Frag) (a1 a2 a3 a4 a5 a6 a7 : Int) : TS :=
  (tSeq (tIfS (tTest (tOp (rI0 fun i j => .bl (decide (j < i))) (tOp (rIx K) (tVar 0) (tC (.int 2))) (tC (.int 0))))
    (tSeq (tAsg (tCB rInt1 (tCons (tOp (rIx K) (tVar 0) (tC (.int 2))) tNil)) (gName 2))
    (tSeq (tAsg (tOp (rI CDiv fun i j => .int (i / j)) (tVar 2) (tVar 1)) (gSub (tVar 0) (tC (.int 2)) rSetL))
    (tRet (tOp (rI (fun _ j => 0 < j) fun i j => .int (i % j)) (tCB rInt1 (tCons (tVar 2) tNil)) (tVar 1)))))
    tNext)
    (tSeq (tAsg (tOp (rIx K) (tVar 0) (tC (.int 1))) (gName 3))
    (tSeq (tAsg (tOp (rAddU K) (tVar 3) (tC (.int 1))) (gSub (tVar 0) (tC (.int 1)) rSetL))
    (tSeq (tAsg (tOp (rAddU K) (tOp rMulU (tC (.int a1)) (tVar 3)) (tC (.int a2))) (gName 4))
    (tSeq (tIfS (tTest (tOp (rNeU K) (tOp (rIx K) (tVar 0) (tC (.int 0))) (tLst tNil)))
    (tAsg (tOp (rIx K) (tOp (rIx K) (tVar 0) (tC (.int 0))) (tOp (rI (fun _ j => 0 < j) fun i j => .int (i % j)) (tCB rInt1 (tCons (tVar 3) tNil)) (tCB (rLenA K) (tCons (tOp (rIx K) (tVar 0) (tC (.int 0))) tNil)))) (gName 4))
    tNext)
    (tSeq (tIfS (tAnd (tTest (tOp (rI0 fun i j => .bl (decide (i < j))) (tVar 3) (tCB (rLenA K) (tCons (tOp (rIx K) (tVar 0) (tC (.int 0))) tNil)))) (tTest (tOp (rI0 fun i j => .bl (decide (j ≤ i))) (tCB rAbs (tCons (tVar 4) tNil)) (tOp (rI CPowI fun i j => .int (i ^ j.toNat)) (tC (.int 10)) (tC (.int 18))))))
    (tSeq (tAsg (tOp (rAddU K) (tOp rMulU (tC (.int 2)) (tOp (rI0 fun i j => .int (i - j)) (tCB rAbs (tCons (tVar 4) tNil)) (tOp (rI CPowI fun i j => .int (i ^ j.toNat)) (tC (.int 10)) (tC (.int 18))))) (tCB rInt1 (tCons (tOp (rI0 fun i j => .bl (decide (i < j))) (tVar 4) (tC (.int 0))) tNil))) (gName 2))
    (tSeq (tAsg (tOp (rI CDiv fun i j => .int (i / j)) (tCB rInt1 (tCons (tVar 2) tNil)) (tVar 1)) (gSub (tVar 0) (tC (.int 2)) rSetL))
    (tRet (tOp (rI (fun _ j => 0 < j) fun i j => .int (i % j)) (tCB rInt1 (tCons (tVar 2) tNil)) (tVar 1)))))
    tNext)
    (tSeq (tAsg (tOp (rI (fun _ j => 0 < j) fun i j => .int (i % j)) (tCB rInt1 (tCons (tOp (rI CPowI fun i j => .int (i ^ j.toNat)) (tOp (rAddU K) (tOp (rAddU K) (tOp (rI (fun _ j => 0 < j) fun i j => .int (i % j)) (tCB rInt1 (tCons (tVar 4) tNil)) (tC (.int 2147483549))) (tOp rMulU (tC (.int a3)) (tVar 3))) (tC (.int a4))) (tC (.int 5))) tNil)) (tC (.int 2147483629))) (gName 5))
    (tSeq (tAsg (tOp (rI (fun _ j => 0 < j) fun i j => .int (i % j)) (tCB rInt1 (tCons (tOp (rI CPowI fun i j => .int (i ^ j.toNat)) (tOp (rAddU K) (tOp (rAddU K) (tOp rMulU (tVar 5) (tOp (rAddU K) (tOp rMulU (tC (.int 2)) (tVar 3)) (tC (.int a5)))) (tOp rMulU (tOp rMulU (tC (.int a6)) (tVar 3)) (tVar 3))) (tC (.int a7))) (tC (.int 3))) tNil)) (tC (.int 2147483587))) (gName 5))
    (tRet (tOp (rI (fun _ j => 0 < j) fun i j => .int (i % j)) (tCB rInt1 (tCons (tOp (rI CDiv fun i j => .int (i / j)) (tVar 5) (tC (.int 64))) tNil)) (tVar 1)))))))))))
section
variable {K : PySem.W.Frag}
theorem draw_run {a1 a2 a3 a4 a5 a6 a7 : Int} {vs : List V} {H : Hp} {Q : VK} {E : XK} {N : List Str} (h : spDraw K vs H Q E) (hN : N.length = 6) (b1 : 0 ≤ a1 ∧ a1 ≤ 1000000) (b2 : 0 ≤ a2 ∧ a2 ≤ 1000000) (b3 : 0 ≤ a3 ∧ a3 ≤ 1000000) (b4 : 0 ≤ a4 ∧ a4 ≤ 1000000) (b5 : 0 ≤ a5 ∧ a5 ≤ 1000000) (b6 : 0 ≤ a6 ∧ a6 ≤ 1000000) (b7 : 0 ≤ a7 ∧ a7 ≤ 1000000) :
    drawT K a1 a2 a3 a4 a5 a6 a7 { nx := fun _ H' => Q .non H', rt := Q } (L2.start N vs) H := by
  obtain ⟨S, a, ws, ds, rfl, rfl, ok, r, hn, ⟨m, hm, hm1, hm2⟩, hb, k⟩ := h
  match ds, hn with
  | [d], _ =>
  cases (show d = .int m from hm)
  cases r with
  | cons r1 r2 =>
  cases r2
  cases r1
  obtain ⟨⟨c, t, r, cs, pH, pF, pl, pt, pT, pr⟩, pN⟩ := ok.pen a rfl
  have hst : L2.start N [V.ref a, V.int m] = [some (.ref a), some (.int m), none, none, none, none] := by
    unfold L2.start
    rw [hN]
    rfl
  rw [hst]
  have cdv : CDiv 0 m := ⟨by omega, by omega⟩
  have ix2 : ∀ t' r' : Int, atI [V.ref c, V.int t', V.int r'] 2 = some (.int r') := fun _ _ => rfl
  have ix1 : ∀ t' r' : Int, atI [V.ref c, V.int t', V.int r'] 1 = some (.int t') := fun _ _ => rfl
  have ix0 : ∀ t' r' : Int, atI [V.ref c, V.int t', V.int r'] 0 = some (.ref c) := fun _ _ => rfl
  unfold drawT
  -- the end: an answer below m
  have fin : ∀ (z : Int) (S' : Wd), Gr K (some a) S S' → S'.T ≤ S.T + 1 → Q (.int (z % m)) S'.H := fun z S' g ht =>
    k _ (.int (z % m)) S' g ht (.int _) ⟨z % m, m, rfl, rfl, Int.emod_nonneg _ (by omega), Int.emod_lt_of_pos _ (by omega)⟩
  refine a0_if (t0_test (e0_B0 (f := fun i j => decide (j < i)) (e0_ix (e0_var rfl) e0_c pH (ix2 _ _)) e0_c)) (fun hr => ?_) (fun hr => ?_)
  · refine a0_asg (e0_int (e0_ix (e0_var rfl) e0_c pH (ix2 _ _))) ?_
    refine a0_pen (c := 2) (e0_I (f := fun i j => i / j) (e0_var rfl) (e0_var rfl) ⟨cdv.1, cdv.2⟩) (e0_var rfl) e0_c pH rfl ?_
    refine a0_ret (e0_I (f := fun i j => i % j) (e0_int (e0_var rfl)) (e0_var rfl) (by omega)) ?_
    exact fin r ⟨S.F, upd S.H a (.lst [.ref c, .int t, .int (r / m)]), S.T⟩ (pen_chg ok pF pl pt pT (Int.ediv_nonneg pr (by omega))) (by show S.T ≤ _; omega)
  · show tSeq _ _ _ _ _
    refine a0_asg (e0_ix (e0_var rfl) e0_c pH (ix1 _ _)) ?_
    refine a0_pen (c := 1) (e0_add (e0_var rfl) e0_c) (e0_var rfl) e0_c pH rfl ?_
    have g1 : Gr K (some a) S ⟨S.F, upd S.H a (.lst [.ref c, .int (t + 1), .int r]), S.T + 1⟩ := pen_chg ok pF pl (by omega) (by omega) pr
    refine a0_asg (e0_add (e0_mul e0_c (e0_var rfl) (mul_ok (by omega) (by omega))) e0_c) ?_
    have pH1 : (upd S.H a (.lst [.ref c, .int (t + 1), .int r])) a = some (.lst [.ref c, .int (t + 1), .int r]) := upd_same
    -- a new empty list
    refine e0_ix (e0_var rfl) e0_c pH1 (ix0 _ _) _ ?_
    refine ⟨Nat.zero_le _, fun b hbn => ?_⟩
    have g2 := g1.trans (Gr.newO (o := .lst []) g1.ok hbn)
    have hab : a ≠ b := ne_of_none pH1 hbn
    have cH1 : (upd S.H a (.lst [.ref c, .int (t + 1), .int r])) c = some (.lst (cs.map V.int)) := g1.ok.sub _ _ pF
    have hcb : c ≠ b := ne_of_none cH1 hbn
    have pH2 : (upd (upd S.H a (.lst [.ref c, .int (t + 1), .int r])) b (.lst [])) a = some (.lst [.ref c, .int (t + 1), .int r]) := by rw [upd_ne hab]; exact pH1
    have cH2 : (upd (upd S.H a (.lst [.ref c, .int (t + 1), .int r])) b (.lst [])) c = some (.lst (cs.map V.int)) := by rw [upd_ne hcb]; exact cH1
    generalize hH2 : upd (upd S.H a (.lst [.ref c, .int (t + 1), .int r])) b (.lst []) = H2 at g2 pH2 cH2 ⊢
    have bH2 : H2 b = some (.lst []) := by rw [← hH2]; exact upd_same
    refine .inr (.inr ⟨c, b, cs.map V.int, rfl, rfl, .of cH2, .of bH2, !(cs.map V.int).isEmpty, rfl, ?_⟩)
    have elen : ((cs.map V.int).length : Int) = (cs.length : Int) := by rw [List.length_map]
    have last : ∀ cell : Int, (tSeq (tIfS (tAnd (tTest (tOp (rI0 fun i j => .bl (decide (i < j))) (tVar 3) (tCB (rLenA K) (tCons (tOp (rIx K) (tVar 0) (tC (.int 0))) tNil)))) (tTest (tOp (rI0 fun i j => .bl (decide (j ≤ i))) (tCB rAbs (tCons (tVar 4) tNil)) (tOp (rI CPowI fun i j => .int (i ^ j.toNat)) (tC (.int 10)) (tC (.int 18))))))
        (tSeq (tAsg (tOp (rAddU K) (tOp rMulU (tC (.int 2)) (tOp (rI0 fun i j => .int (i - j)) (tCB rAbs (tCons (tVar 4) tNil)) (tOp (rI CPowI fun i j => .int (i ^ j.toNat)) (tC (.int 10)) (tC (.int 18))))) (tCB rInt1 (tCons (tOp (rI0 fun i j => .bl (decide (i < j))) (tVar 4) (tC (.int 0))) tNil))) (gName 2))
        (tSeq (tAsg (tOp (rI CDiv fun i j => .int (i / j)) (tCB rInt1 (tCons (tVar 2) tNil)) (tVar 1)) (gSub (tVar 0) (tC (.int 2)) rSetL))
        (tRet (tOp (rI (fun _ j => 0 < j) fun i j => .int (i % j)) (tCB rInt1 (tCons (tVar 2) tNil)) (tVar 1)))))
        tNext)
        (tSeq (tAsg (tOp (rI (fun _ j => 0 < j) fun i j => .int (i % j)) (tCB rInt1 (tCons (tOp (rI CPowI fun i j => .int (i ^ j.toNat)) (tOp (rAddU K) (tOp (rAddU K) (tOp (rI (fun _ j => 0 < j) fun i j => .int (i % j)) (tCB rInt1 (tCons (tVar 4) tNil)) (tC (.int 2147483549))) (tOp rMulU (tC (.int a3)) (tVar 3))) (tC (.int a4))) (tC (.int 5))) tNil)) (tC (.int 2147483629))) (gName 5))
        (tSeq (tAsg (tOp (rI (fun _ j => 0 < j) fun i j => .int (i % j)) (tCB rInt1 (tCons (tOp (rI CPowI fun i j => .int (i ^ j.toNat)) (tOp (rAddU K) (tOp (rAddU K) (tOp rMulU (tVar 5) (tOp (rAddU K) (tOp rMulU (tC (.int 2)) (tVar 3)) (tC (.int a5)))) (tOp rMulU (tOp rMulU (tC (.int a6)) (tVar 3)) (tVar 3))) (tC (.int a7))) (tC (.int 3))) tNil)) (tC (.int 2147483587))) (gName 5))
        (tRet (tOp (rI (fun _ j => 0 < j) fun i j => .int (i % j)) (tCB rInt1 (tCons (tOp (rI CDiv fun i j => .int (i / j)) (tVar 5) (tC (.int 64))) tNil)) (tVar 1)))))) { nx := fun _ H' => Q .non H', rt := Q } [some (.ref a), some (.int m), none, some (.int t), some (.int cell), none] H2 := by
      intro cell
      have hpow : Zv (tOp (rI CPowI fun i j => .int (i ^ j.toNat)) (tC (.int 10)) (tC (.int 18))) [some (V.ref a), some (.int m), none, some (.int t), some (.int cell), none] H2 (.int (10 ^ 18)) :=
        e0_I (f := fun i j => i ^ j.toNat) e0_c e0_c (pow_ok (k := 4) (by decide) (by decide) (by decide) (by decide))
      have tst : ∀ Q' : Bool → Hp → Prop, Q' (decide (t < ((cs.map V.int).length : Int)) && decide ((10 : Int) ^ 18 ≤ (if cell < 0 then -cell else cell))) H2 → tAnd (tTest (tOp (rI0 fun i j => .bl (decide (i < j))) (tVar 3) (tCB (rLenA K) (tCons (tOp (rIx K) (tVar 0) (tC (.int 0))) tNil)))) (tTest (tOp (rI0 fun i j => .bl (decide (j ≤ i))) (tCB rAbs (tCons (tVar 4) tNil)) (tOp (rI CPowI fun i j => .int (i ^ j.toNat)) (tC (.int 10)) (tC (.int 18))))) [some (.ref a), some (.int m), none, some (.int t), some (.int cell), none] H2 Q' := fun Q' q => by
        refine t0_test (e0_B0 (f := fun i j => decide (i < j)) (e0_var rfl) (e0_len (e0_ix (e0_var rfl) e0_c pH2 (ix0 _ _)) cH2)) _ ?_
        cases e : decide (t < ((cs.map V.int).length : Int)) with
        | true =>
          rw [e] at q
          exact t0_test (e0_B0 (f := fun i j => decide (j ≤ i)) (e0_abs (e0_var rfl)) hpow) _ q
        | false =>
          rw [e] at q
          exact q
      refine a0_if tst (fun hbig => ?_) (fun _ => ?_)
      · refine a0_asg (e0_add (e0_mul e0_c (e0_I0 (f := fun i j => i - j) (e0_abs (e0_var rfl)) hpow) (mul_okL (by decide) (by decide))) (e0_intB (e0_B0 (f := fun i j => decide (i < j)) (e0_var rfl) e0_c))) ?_
        have hnn : 0 ≤ 2 * ((if cell < 0 then -cell else cell) - 10 ^ 18) + (if decide (cell < 0) = true then (1 : Int) else 0) := by
          rw [Bool.and_eq_true] at hbig
          have h1 := of_decide_eq_true hbig.2
          have h2 : (0 : Int) ≤ (if decide (cell < 0) = true then (1 : Int) else 0) := by split <;> decide
          omega
        refine a0_pen (c := 2) (e0_I (f := fun i j => i / j) (e0_int (e0_var rfl)) (e0_var rfl) ⟨cdv.1, cdv.2⟩) (e0_var rfl) e0_c pH2 rfl ?_
        refine a0_ret (e0_I (f := fun i j => i % j) (e0_int (e0_var rfl)) (e0_var rfl) (by omega)) ?_
        refine fin _ ⟨S.F, upd H2 a (.lst [.ref c, .int (t + 1), .int (_ / m)]), S.T + 1⟩ (g2.trans (pen_chg g2.ok (g2.ff _ _ pF) pl (by omega) (by show t + 1 ≤ ((S.T + 1 : Nat) : Int); omega) (Int.ediv_nonneg hnn (by omega)))) (Nat.le_refl _)
      · show tSeq _ _ _ _ _
        have hc1 := Int.emod_nonneg cell (show (2147483549 : Int) ≠ 0 by decide)
        have hc2 := Int.emod_lt_of_pos cell (show (0 : Int) < 2147483549 by decide)
        have ht9 : t ≤ 1000000000 := by omega
        have m1 : 0 ≤ a3 * t := Int.mul_nonneg b3.1 pt
        have m2 : a3 * t ≤ 1000000 * 1000000000 := Int.mul_le_mul b3.2 ht9 pt (by decide)
        refine a0_asg (e0_I (f := fun i j => i % j) (e0_int (e0_I (f := fun i j => i ^ j.toNat) (e0_add (e0_add (e0_I (f := fun i j => i % j) (e0_int (e0_var rfl)) e0_c (by decide)) (e0_mul e0_c (e0_var rfl) (mul_ok (by omega) (by omega)))) e0_c) e0_c (pow_ok (k := 60) (by omega) (by omega) (by decide) (by decide)))) e0_c (by decide)) ?_
        have hx1 : ∀ z : Int, 0 ≤ z % 2147483629 := fun z => Int.emod_nonneg z (by decide)
        have hx2 : ∀ z : Int, z % 2147483629 < 2147483629 := fun z => Int.emod_lt_of_pos z (by decide)
        generalize hz : (cell % 2147483549 + a3 * t + a4) ^ (5 : Int).toNat % 2147483629 = z
        have hz1 : 0 ≤ z := by rw [← hz]; exact hx1 _
        have hz2 : z < 2147483629 := by rw [← hz]; exact hx2 _
        have m3 : 0 ≤ z * (2 * t + a5) := Int.mul_nonneg hz1 (by omega)
        have m4 : z * (2 * t + a5) ≤ 2147483629 * 3000000000 := Int.mul_le_mul (by omega) (by omega) (by omega) (by decide)
        have m5 : 0 ≤ a6 * t := Int.mul_nonneg b6.1 pt
        have m6 : a6 * t ≤ 1000000 * 1000000000 := Int.mul_le_mul b6.2 ht9 pt (by decide)
        have m7 : 0 ≤ a6 * t * t := Int.mul_nonneg m5 pt
        have m8 : a6 * t * t ≤ 1000000 * 1000000000 * 1000000000 := Int.mul_le_mul m6 ht9 pt (by decide)
        refine a0_asg (e0_I (f := fun i j => i % j) (e0_int (e0_I (f := fun i j => i ^ j.toNat) (e0_add (e0_add (e0_mul (e0_var rfl) (e0_add (e0_mul e0_c (e0_var rfl) (mul_ok (by omega) (by omega))) e0_c) (mul_okL (by omega) (by omega))) (e0_mul (e0_mul e0_c (e0_var rfl) (mul_ok (by omega) (by omega))) (e0_var rfl) (mul_ok (by omega) (by omega)))) e0_c) e0_c (pow_ok (k := 90) (by omega) (by omega) (by decide) (by decide)))) e0_c (by decide)) ?_
        refine a0_ret (e0_I (f := fun i j => i % j) (e0_int (e0_I (f := fun i j => i / j) (e0_var rfl) e0_c ⟨by decide, by decide⟩)) (e0_var rfl) (by omega)) ?_
        exact fin _ ⟨S.F, H2, S.T + 1⟩ g2 (Nat.le_refl _)
    cases hcs : (cs.map V.int).isEmpty with
    | true =>
      show if false = true then _ else _
      rw [if_neg Bool.false_ne_true]
      exact last _
    | false =>
      show if true = true then _ else _
      rw [if_pos rfl]
      have hne : 0 < (cs.map V.int).length := by
        cases hq : cs.map V.int with
        | nil => rw [hq] at hcs; cases hcs
        | cons _ _ => simp
      have hj0 := Int.emod_nonneg t (show ((cs.map V.int).length : Int) ≠ 0 by omega)
      have hj1 := Int.emod_lt_of_pos t (show (0 : Int) < ((cs.map V.int).length : Int) by omega)
      have hat : atI (cs.map V.int) (t % ((cs.map V.int).length : Int)) = some (.int (cs.getD (t % ((cs.map V.int).length : Int)).toNat 0)) := by
        unfold atI ixN
        rw [if_pos hj0, if_pos hj1]
        show (cs.map V.int)[_]? = _
        have hjn : (t % ((cs.map V.int).length : Int)).toNat < cs.length := by
          have e := hj1
          rw [elen] at e ⊢
          omega
        rw [List.getElem?_map, List.getElem?_eq_getElem hjn, List.getD_eq_getElem?_getD, List.getElem?_eq_getElem hjn]
        rfl
      refine a0_asg (e0_ix (e0_ix (e0_var rfl) e0_c pH2 (ix0 _ _)) (e0_I (f := fun i j => i % j) (e0_int (e0_var rfl)) (e0_len (e0_ix (e0_var rfl) e0_c pH2 (ix0 _ _)) cH2) (by omega)) cH2 hat) ?_
      exact last _
end
end DL
namespace DL
open PySem L2
open Evl (Ex)
section
variable {K : PySem.W.Frag} {p : Option Addr} {S S0 S1 S2 S3 : Wd} {B : Hp} {σ σ' : L2.St} {te ta tb tc to : TE} {d d1 d2 d3 : D} {ds es : List D} {v : V} {m M n k : Nat} {P P1 P2 : D → Prop} {l l' : En} {i j : Nat} {t : Ty} {G : Ends}
theorem items_len (h : itemsD d = some es) (hz : es.length ≤ sizeLine) : RC K p (rLenA K) [d] (.int (es.length : Int)) := by
  cases d with
  | lst xs => cases h; exact rl_L hz
  | tup xs => cases h; exact rl_T
  | str s =>
    cases h
    have e : (signs s).length = s.length := by unfold signs; rw [List.length_map]; rfl
    rw [e] at hz ⊢
    exact rl_S hz
  | _ => cases h
theorem atI_nat {α : Type} {xs : List α} {r : Int} (h0 : 0 ≤ r) (h1 : r < xs.length) : ∃ x, atI xs r = some x ∧ x ∈ xs := by
  have hn : r.toNat < xs.length := by omega
  refine ⟨xs[r.toNat], ?_, List.getElem_mem hn⟩
  unfold atI ixN
  rw [if_pos h0, if_pos h1]
  exact List.getElem?_eq_getElem hn
/-- some[a draw] -/
theorem en_ix (ha : EvD K p ta σ S d) (hi : itemsD d = some es) (hz : es.length ≤ sizeLine) (hb : EvN K p tb σ S n (fun e => ∃ r : Int, e = .int r ∧ 0 ≤ r ∧ r < es.length)) : EvN K p (tOp (rIx K) ta tb) σ S n (fun e => e ∈ es) := fun S1 g hB Q q =>
  ha S1 g _ fun x S2 g2 t2 rx => hb S2 (g.trans g2) (by omega) _ fun y e S3 g3 t3 ry pe => by
    obtain ⟨r, rfl, h0, h1⟩ := pe
    cases ry
    obtain ⟨z, hz1, hz2⟩ := atI_nat h0 h1
    have rx3 := rx.mono g3.ff
    cases d with
    | lst xs =>
      cases hi
      cases rx3 with
      | @lst a vs _ h2 r2 =>
        obtain ⟨c, h4, h5⟩ := ixN_get hz1
        obtain ⟨x, hx, rx⟩ := r2.get h5
        exact .inl ⟨a, vs, r, x, rfl, rfl, .of (g3.ok.sub _ _ h2), by unfold atI; rw [r2.length, h4]; exact hx, q x z S3 (g2.trans g3) (by omega) rx hz2⟩
    | tup xs =>
      cases hi
      cases rx3 with
      | @tup a vs _ h2 r2 =>
        obtain ⟨c, h4, h5⟩ := ixN_get hz1
        obtain ⟨x, hx, rx⟩ := r2.get h5
        exact .inr (.inl ⟨a, vs, r, x, rfl, rfl, Evl.ex_t g3.ok.sub h2, by unfold atI; rw [r2.length, h4]; exact hx, q x z S3 (g2.trans g3) (by omega) rx hz2⟩)
    | str s =>
      cases hi
      cases rx3
      obtain ⟨c, h4, h5⟩ := ixN_get hz1
      have el : (signs s).length = s.cps.toList.length := by unfold signs; rw [List.length_map]
      unfold signs at h5
      rw [List.getElem?_map] at h5
      obtain ⟨w, hw, ew⟩ := Option.map_eq_some_iff.mp h5
      subst ew
      refine .inr (.inr ⟨s, r, w, rfl, rfl, ?_, ?_, q _ _ S3 (g2.trans g3) (by omega) (.str _) hz2⟩)
      · rw [el] at hz; rw [Array.length_toList] at hz; exact hz
      · unfold atI; rw [← el, h4]; exact hw
    | _ => cases hi
def pickT (K : PySem.W.Frag) : TS := (tRet (tOp (rIx K) (tVar 1) (tCall (spDraw K) [] E0 (tCons (tVar 0) (tCons (tCB (rLenA K) (tCons (tVar 1) tNil)) tNil)))))
theorem pick_run {vs : List V} {H : Hp} {Q : VK} {E : XK} {N : List Str} (h : spPick K vs H Q E) (hN : N.length = 2) : pickT K { nx := fun _ H' => Q .non H', rt := Q } (L2.start N vs) H := by
  refine fnN h (by rw [hN]; exact Nat.le_refl _) fun S0 a ds σ G hn hp st k => ?_
  match ds, hn, hp, st, k with
  | [d], _, ⟨es, he, hne, hl⟩, st, k =>
  have he : itemsD d = some es := he
  have hz : es.length ≤ sizeLine := Nat.le_trans hl (by rw [sizeLine_eq]; decide)
  have h0 : 0 < es.length := List.length_pos_iff.mpr hne
  refine s_retN (P := fun e => e ∈ es) st (en_ix (n := 1) (ed_var st rfl) he hz ?_) (by omega) (fun v d' S' hd g ht r => k v d' S' ⟨es, he, hd⟩ g (by omega) r)
  have hd1 : EvD K (some a) (tVar 1) σ S0 d := ed_var st rfl
  have hp : ∃ m : Int, dAt [.int (es.length : Int)] 0 = .int m ∧ 1 ≤ m ∧ m ≤ 1000000 := ⟨_, rfl, by omega, by omega⟩
  refine EvN.le (en_call (n := 1) (N := 1) (ds := [.int (es.length : Int)]) (ev_var st rfl) (ea_cons (ed_len (EvD.h hd1) (items_len he hz)) ea_nil) rfl hp) (Nat.le_refl _) ?_
  rintro e ⟨r, m, rfl, hm, h1, h2⟩
  cases hm
  exact ⟨r, rfl, h1, h2⟩
/-- the pen is laid -/
def penT (K : PySem.W.Frag) : TS := (tRet (tLst (tCons (tLc (iList K (tSl (rSlL K) (tVar 0) tNoPart (tPart (tC (.int 63))))) (gName 1) tYes (tCB rInt1 (tCons (tVar 1) tNil)) [1]) (tCons (tC (.int 0)) (tCons (tC (.int 0)) tNil)))))
theorem cut63 {xs : List D} (h : xs.length ≤ 63) : cutL xs none (some 63) = xs := by
  have e : HT.sIx xs.length xs.length (some 63) = xs.length := by
    show HT.sIx xs.length xs.length (some ((63 : Nat) : Int)) = _
    rw [HT.sIx_nat]
    omega
  unfold cutL
  rw [e]
  show (xs.drop 0).take (xs.length - 0) = xs
  rw [List.drop_zero, Nat.sub_zero, List.take_length]
theorem pen_run {vs : List V} {H : Hp} {Q : VK} {E : XK} {N : List Str} (h : spPen K vs H Q E) (hN : N.length = 2) : penT K { nx := fun _ H' => Q .non H', rt := Q } (L2.start N vs) H := by
  obtain ⟨a, ns, F, rfl, hs, hl, ok, k⟩ := h
  have st : Sta K none ⟨F, H, 0⟩ F N.length 0 0 (L2.start N [V.ref a]) ⟨F, H, 0⟩ [(0, .val (.ref a))] := by
    refine ⟨ok, Gr.refl ok, fun _ _ q => q, start_len (by rw [hN]; exact Nat.le_succ 1), Nat.zero_le _, Nat.le_refl _, fun q hq => ?_, fun x hx b hb ne oa => ?_⟩
    · rw [List.mem_singleton.mp hq]
      exact ⟨.ref a, start_get rfl, rfl⟩
    · rw [List.mem_singleton.mp hx] at oa
      cases oa
  have hln : (ns.map D.int).length ≤ 63 := by rw [List.length_map]; exact hl
  have sl : EvD K none (tSl (rSlL K) (tVar 0) tNoPart (tPart (tC (.int 63)))) (L2.start N [V.ref a]) ⟨F, H, 0⟩ (.lst (ns.map D.int)) := by
    refine EvO.ed ?_
    intro S1 g Q q
    refine ev_var st rfl S1 g _ fun S2 g2 t2 => ?_
    refine ⟨63, rfl, a, ns.map V.int, rfl, Evl.ex_l (fun b o e => (g.trans g2).hh b o e (by intro z; cases z)) hs, fun A hA => ?_⟩
    have r : Rps K S2.F (ns.map V.int) (ns.map D.int) := Rps.ints ns
    have r2 := r.cut none (some 63)
    rw [cut63 hln] at r2
    exact q A _ ⟨S2.F, upd S2.H A (.lst (cutV (ns.map V.int) none (some 63))), S2.T⟩ (g2.trans (Gr.newO g2.ok hA)) t2 (g2.fresh hA) upd_same (g2.ok.freshF hA) r2
  have lc : EvO K none (tLc (iList K (tSl (rSlL K) (tVar 0) tNoPart (tPart (tC (.int 63))))) (gName 1) tYes (tCB rInt1 (tCons (tVar 1) tNil)) [1]) (L2.start N [V.ref a]) ⟨F, H, 0⟩ (ns.map D.int) := by
    have := eo_lc (i := 1) (vs := [1]) (b := fun _ => true) (f := fun d => d) st (es_list sl) (by rw [hN]; decide) (by decide) (te := tCB rInt1 (tCons (tVar 1) tNil)) (tt := tYes) (fun d hd B' n' σ' S' st' => ⟨et_yes, fun _ => by
      obtain ⟨z, _, rfl⟩ := List.mem_map.mp hd
      exact ed_cb (eh_cons (EvD.h (ed_var st' rfl)) eh_nil) rc_intI⟩) (by rw [sizeLine_eq]; omega)
    have e : ∀ l : List D, (l.filter fun _ => true).map (fun d => d) = l := fun l => by induction l with
      | nil => rfl
      | cons x r ih => rw [List.filter_cons, if_pos rfl, List.map_cons, ih]
    rw [e] at this
    exact this
  refine (eo_lst (ea_cons lc.ed (ea_cons ed_int (ea_cons ed_int ea_nil))) (by rw [sizeLine_eq]; exact Nat.le_of_ble_eq_true rfl)) ⟨F, H, 0⟩ (Gr.refl ok) _ fun q vs S2 g2 t2 h0 h1 h2 r => ?_
  cases r with
  | cons r1 r => cases r with
    | cons r2 r => cases r with
      | cons r3 r =>
        cases r
        cases r2
        cases r3
        cases r1 with
        | @lst c xs _ h3 r4 =>
          have e := r4.ints_inv
          subst e
          have eT : S2.T = 0 := by have : S2.T ≤ 0 := t2; omega
          have g3 : Gr K none ⟨F, H, 0⟩ ⟨S2.F, S2.H, 0⟩ := by obtain ⟨F2, H2, T2⟩ := S2; cases (show T2 = 0 from eT); exact g2
          exact k q c S2.F S2.H g3 h3 h1 h2 h0
end
end DL
namespace DL
open PySem L2
open Evl (Ex)
section
variable {K : PySem.W.Frag} {p : Option Addr} {S S0 S1 S2 S3 : Wd} {B : Hp} {σ σ' : L2.St} {te ta tb tc to : TE} {d d1 d2 d3 : D} {ds es : List D} {v : V} {m M n k : Nat} {P P1 P2 : D → Prop} {l l' : En} {i j : Nat} {t : Ty} {G : Ends}
theorem rd_eqI {a b : Int} : RD K p (rEqU K) (.int a) (.int b) (.bl (decide (a = b))) := RD.inl (rd_of (fun _ => .bl _) fun S1 x y o rx ry Q q => by
  cases rx; cases ry
  have e : decide (V.int a = V.int b) = decide (a = b) := by
    by_cases h : a = b
    · subst h; simp
    · rw [decide_eq_false h, decide_eq_false (fun z => h (V.int.inj z))]
  exact ⟨rfl, by rw [e]; exact q⟩)
/-! ## what is walked is drawn -/
def EvSN (K : PySem.W.Frag) (p : Option Addr) (wi : TI) (σ : L2.St) (S : Wd) (n : Nat) (P : List DL.D → Prop) : Prop := ∀ S1, Gr K p S S1 → S1.T + n ≤ 1000000000 → ∀ R : It → Hp → Prop, (∀ J ds S2, Gr K p S1 S2 → S2.T ≤ S1.T + n → P ds → Src K p J S2.F ds → R J S2.H) → wi σ S1.H R
theorem es_rng1N (h : EvN K p te σ S n (fun d => ∃ z : Int, d = .int z ∧ 0 ≤ z ∧ z < 2 ^ 62 ∧ P (.int z))) : EvSN K p (iRng1 (tCons te tNil)) σ S n (fun ds => ∃ z : Int, ds = rng 0 z.toNat ∧ 0 ≤ z ∧ P (.int z)) := fun S1 g hb R q => h S1 g hb _ fun v d S2 g2 t2 r hp => by
  obtain ⟨z, rfl, h0, h1, pz⟩ := hp
  cases r
  exact ⟨z, rfl, Int.le_trans (by decide) h0, h1, q _ (rng 0 z.toNat) S2 g2 t2 ⟨z, rfl, h0, pz⟩ src_rng⟩
theorem rng_len {lo : Int} {n : Nat} : (rng lo n).length = n := by unfold rng; rw [List.length_map, List.length_range]
theorem en_lcN {wi : TI} {vs : List Nat} {w L : Nat} {PS : List DL.D → Prop} {R : DL.D → DL.D → Prop} (h : Sta K p S0 B m M n σ S l) (hq : EvSN K p wi σ S k PS) (hi : i < m) (hv : vs.contains i = true) (hL : ∀ ds, PS ds → ds.length ≤ L) (hz : L < sizeLine)
    (he : ∀ ds, PS ds → ∀ d ∈ ds, ∀ B' n' σ' S', Sta K p S0 B' m M n' σ' S' (put i (.dat d) (l.filter fun q => !vs.contains q.1)) → EvN K p te σ' S' w (R d)) :
    EvON K p (tLc wi (gName i) tYes te vs) σ S (k + L * w) (fun es => ∃ ds, PS ds ∧ es.length = ds.length ∧ ∀ (c : Nat) (d e : DL.D), ds[c]? = some d → es[c]? = some e → R d e) := by
  intro S1 g1 hB Q q
  refine hq S1 g1 (by omega) _ fun J ds S2 g2 t2 ps src => ?_
  have st2 := h.any (g1.trans g2)
  have hw : ds.length * w ≤ L * w := Nat.mul_le_mul_right w (hL ds ps)
  have hs : EvS K p (fun _ H R => R J H) σ S2 ds := fun S3 g3 R q => q J S3 (Gr.refl g3.ok) (Nat.le_refl _) fun S' e o c => src S' (g3.ff.trans e) o c
  have main := en_lc (wi := fun _ H R => R J H) (w := w) (R := R) st2 hs hi hv (he ds ps) (Nat.lt_of_le_of_lt (hL ds ps) hz) S2 (Gr.refl g2.ok) (by omega) Q (fun a us es S3 g3 t3 h0 h1 h2 r hp => q a us es S3 (g2.trans g3) (by omega) (g2.fresh h0) h1 h2 r ⟨ds, ps, hp⟩)
  exact main
theorem en_join {a : Str} {PS : List DL.D → Prop} (ha : EvD K p ta σ S (.str a)) (hb : EvON K p tb σ S n PS) (hz : ∀ ds, PS ds → ∃ ys : List Str, ds = ys.map DL.D.str ∧ (ys.map (·.length)).sum + ys.length * a.length ≤ 16777216) :
    EvN K p (tM1 (rJoin K) ta tb) σ S n (fun d => ∃ ys : List Str, PS (ys.map DL.D.str) ∧ d = .str (Txt.join a ys)) := fun S1 g hB Q q =>
  ha S1 g _ fun x S2 g2 t2 r2 => by
    cases r2
    refine ⟨⟨a, rfl⟩, hb S2 (g.trans g2) (by omega) _ fun y xs ds S3 g3 t3 h0 h1 h2 r3 ps => ?_⟩
    obtain ⟨ys, rfl, hz⟩ := hz ds ps
    have e := r3.strs_inv
    subst e
    exact ⟨a, y, ys, rfl, rfl, .inl (.of h1), hz, q _ _ S3 (g2.trans g3) (by omega) (.str _) ⟨ys, ps, rfl⟩⟩
end
theorem str_len_app (a b : Str) : (a ++ b).length = a.length + b.length := Array.size_append
theorem join_len (y : Str) : ∀ parts : List Str, (Str.join y parts).length ≤ (parts.map (·.length)).sum + parts.length * y.length
  | [] => Nat.zero_le _
  | [x] => by
    show x.length ≤ ([x].map (·.length)).sum + 1 * y.length
    rw [List.map_cons, List.map_nil, List.sum_cons, List.sum_nil]
    omega
  | x :: z :: r => by
    have ih := join_len y (z :: r)
    show (x ++ y ++ Str.join y (z :: r)).length ≤ _
    rw [str_len_app, str_len_app, List.map_cons, List.sum_cons, List.length_cons, Nat.add_mul, Nat.one_mul]
    omega
theorem strs_of {P : Str → Prop} : ∀ {es : List D}, (∀ e ∈ es, ∃ s, e = .str s ∧ P s) → ∃ ys : List Str, es = ys.map D.str ∧ ∀ y ∈ ys, P y
  | [], _ => ⟨[], rfl, fun y hy => by cases hy⟩
  | e :: es, h => by
    obtain ⟨s, rfl, ps⟩ := h e List.mem_cons_self
    obtain ⟨ys, rfl, q⟩ := strs_of fun e he => h e (List.mem_cons_of_mem _ he)
    refine ⟨s :: ys, rfl, fun y hy => ?_⟩
    rcases List.mem_cons.mp hy with rfl | hy
    · exact ps
    · exact q y hy
theorem lc_all {ds es : List D} {R : D → D → Prop} (hl : es.length = ds.length) (h : ∀ (c : Nat) (d e : D), ds[c]? = some d → es[c]? = some e → R d e) : ∀ e ∈ es, ∃ d ∈ ds, R d e := fun e he => by
  obtain ⟨c, hc⟩ := List.mem_iff_getElem?.mp he
  have hlt : c < ds.length := by rw [← hl]; exact (List.getElem?_eq_some_iff.mp hc).1
  exact ⟨ds[c], List.getElem_mem hlt, h c _ _ (List.getElem?_eq_getElem hlt) hc⟩
theorem sum_le {n : Nat} : ∀ {ys : List Str}, (∀ y ∈ ys, y.length ≤ n) → (ys.map (·.length)).sum ≤ ys.length * n
  | [], _ => Nat.zero_le _
  | y :: ys, h => by
    have ih := sum_le (ys := ys) fun y hy => h y (List.mem_cons_of_mem _ hy)
    have h1 := h y List.mem_cons_self
    rw [List.map_cons, List.sum_cons, List.length_cons, Nat.add_mul, Nat.one_mul]
    omega
end DL
namespace DL
open PySem L2
open Evl (Ex)
section
variable {K : PySem.W.Frag} {p : Option Addr} {S S0 S1 S2 S3 : Wd} {B : Hp} {σ σ' : L2.St} {te ta tb tc to : TE} {d d1 d2 d3 : D} {ds es : List D} {v : V} {m M n k : Nat} {P P1 P2 : D → Prop} {l l' : En} {i j : Nat} {t : Ty} {G : Ends}
theorem ed_pow {x n : Int} {k : Nat} (h1 : EvD K p ta σ S (.int x)) (h2 : EvD K p tb σ S (.int n)) (hk : CPowI x n) : EvD K p (tOp (rI CPowI fun i j => .int (i ^ j.toNat)) ta tb) σ S (.int (x ^ n.toNat)) := ed_op h1.h h2.h (rd_I (f := fun i j => i ^ j.toNat) hk)
theorem rep3 (a b c : Bool) : RC K p (rRepr K) [.lst [.bl a, .bl b, .bl c]] (.str (D.lst [.bl a, .bl b, .bl c]).py.shown) :=
  rc_reprL (by cases a <;> cases b <;> cases c <;> decide +kernel) (by cases a <;> cases b <;> cases c <;> decide +kernel) (by cases a <;> cases b <;> cases c <;> decide +kernel) (by cases a <;> cases b <;> cases c <;> decide +kernel) (by rw [sizeLine_eq]; cases a <;> cases b <;> cases c <;> decide +kernel)
end
end DL
namespace DL
open PySem L2
open Evl (Ex)
theorem pls_strs : ∀ ss : List Str, D.pls (ss.map D.str) = true
  | [] => by simp [D.pls]
  | s :: ss => by simp [D.pls, D.pl, pls_strs ss]
theorem pys_strs : ∀ ss : List Str, D.pys (ss.map D.str) = ss.map PyData.str
  | [] => by simp [D.pys]
  | s :: ss => by simp [D.pys, D.py, pys_strs ss]
theorem canLay_strs : ∀ ss : List Str, (∀ s ∈ ss, PyData.strOk s = true) → PyData.canLayAll0 (ss.map PyData.str) = true
  | [], _ => by simp [PyData.canLayAll0]
  | s :: ss, h => by
    have h1 := h s List.mem_cons_self
    have h2 := canLay_strs ss fun x hx => h x (List.mem_cons_of_mem _ hx)
    simp [PyData.canLayAll0, PyData.canLay0, h1, h2]
theorem sh_strs (ss : List Str) (h : ∀ s ∈ ss, PyData.strOk s = true) : (D.lst (ss.map D.str)).sh = true := by
  have e : (D.lst (ss.map D.str)).py = .list (ss.map PyData.str) := by simp only [D.py, pys_strs]
  have hd : ∀ ss : List Str, PyData.depthAll (ss.map PyData.str) = 0 := by
    intro ss
    induction ss with
    | nil => simp [PyData.depthAll]
    | cons x r ih => simp [PyData.depthAll, PyData.depth, ih]
  unfold D.sh
  rw [e, Bool.and_eq_true]
  refine ⟨by simp only [D.pl]; exact pls_strs ss, ?_⟩
  unfold SeqAt.shaped
  rw [Bool.and_eq_true]
  refine ⟨?_, decide_eq_true ?_⟩
  · simp only [PyData.canLay0]; exact canLay_strs ss h
  · simp only [PyData.depth, hd]; decide
section
variable {K : PySem.W.Frag} {p : Option Addr} {S S0 S1 S2 S3 : Wd} {B : Hp} {σ σ' : L2.St} {te ta tb tc to : TE} {d d1 d2 d3 : D} {ds es : List D} {v : V} {m M n k : Nat} {P P1 P2 : D → Prop} {l l' : En} {i j : Nat} {t : Ty} {G : Ends}
theorem rd_eqSame (h : d.sh = true) : RD K p (rEqU K) d d (.bl true) := by
  have q := rd_eqU (K := K) (p := p) h h
  have e : eqD d d = true := PySem.SeqAt.eqv_refl _ (PySem.SeqAt.canLay_of_shaped (D.sh_sh h))
  rw [e] at q
  exact q
theorem ed_disp1 {a : Str} {z : Int} : EvOD K p (tDisp [((tC (.str a)), (tC (.int z)))]) σ S [(.inr a, .int z)] := fun S1 g Q q => by
  intro A hA
  refine ⟨upd_same, [(.inr a, .int z)], rfl, Nat.le_of_ble_eq_true rfl, ?_⟩
  have e : upd (upd S1.H A (.dK [])) A (.dK (mergeK [] [(.inr a, V.int z)])) = upd S1.H A (.dK [(.inr a, V.int z)]) := by
    funext b
    by_cases h : b = A
    · subst h; rw [upd_same, upd_same]; rfl
    · rw [upd_ne h, upd_ne h, upd_ne h]
  rw [e]
  exact q A [(.inr a, .int z)] ⟨S1.F, upd S1.H A (.dK [(.inr a, V.int z)]), S1.T⟩ (Gr.newO g.ok hA) (Nat.le_refl _) hA upd_same (g.ok.freshF hA) rfl (.cons (.int z) .nil)
end
theorem addU_mem {α : Type} [DecidableEq α] (l : List α) (x y : α) : y ∈ addU l x ↔ y ∈ l ∨ y = x := by
  unfold addU
  split
  · rename_i h
    obtain ⟨z, hz, e⟩ := List.any_eq_true.mp h
    have e2 := of_decide_eq_true e
    subst e2
    exact ⟨fun q => .inl q, fun q => q.elim id fun e => by rw [e]; exact hz⟩
  · rw [List.mem_append, List.mem_singleton]
theorem uniq_mem {α : Type} [DecidableEq α] (l : List α) (y : α) : y ∈ uniq l ↔ y ∈ l := by
  unfold uniq
  have : ∀ (l acc : List α), y ∈ l.foldl addU acc ↔ y ∈ acc ∨ y ∈ l := by
    intro l
    induction l with
    | nil => intro acc; simp
    | cons x r ih =>
      intro acc
      rw [List.foldl_cons, ih, addU_mem, List.mem_cons, or_assoc]
  rw [this l []]
  simp
end DL
local macro_rules | `(tactic| k_extra "rd") => `(tactic| first
  | (with_reducible exact DL.rd_add) | (with_reducible exact DL.rd_I0) | (with_reducible exact DL.rd_B0) | (with_reducible exact DL.rd_isB) | (with_reducible exact DL.rd_notB)
  | ((with_reducible apply DL.rd_isN); rfl) | ((with_reducible apply DL.rd_notN); rfl) | (with_reducible exact DL.rd_neNil) | (with_reducible exact DL.rd_eqNil) | (with_reducible exact DL.rd_eqUs) | (with_reducible exact DL.rd_neUs))
local macro_rules | `(tactic| k_extra "ev") => `(tactic| first
  | (with_reducible exact DL.ed_int) | (with_reducible exact DL.ed_bl) | (with_reducible exact DL.ed_str) | (with_reducible exact DL.ed_non)
  | ((with_reducible apply DL.ed_var); (assumption); (rfl))
  | ((with_reducible apply DL.ed_not); (k_extra "ev"))
  | ((with_reducible apply DL.ed_op); (k_extra "eh"); (k_extra "eh"); (k_extra "rd")))
local macro_rules | `(tactic| k_extra "eh") => `(tactic| first
  | ((with_reducible apply DL.eh_var); (assumption); (rfl))
  | ((with_reducible apply DL.EvD.h); (k_extra "ev"))
  | ((with_reducible apply DL.EvO.h); (with_reducible apply DL.eo_lst); (k_extra "ea"); (decide)))
local macro_rules | `(tactic| k_extra "ea") => `(tactic| first
  | (with_reducible exact DL.ea_nil)
  | ((with_reducible apply DL.ea_cons); (k_extra "ev"); (k_extra "ea")))
namespace K01
open PySem L2 DL
def top (i : Nat) : Stmt := PySem.Challenge.pw_paidatmost_k01_names_and_small_questions.main.body.getD i (.Pass ⟨0, 0, 0, 0⟩)
abbrev s_is_integer : Stmt := top 16
abbrev s_is_within : Stmt := top 17
abbrev s_is_row : Stmt := top 18
abbrev s_is_name : Stmt := top 19
abbrev s_are_names : Stmt := top 20
abbrev s_names_in_order : Stmt := top 21
abbrev s_fixed : Stmt := top 23
abbrev s_statement_in : Stmt := top 26
abbrev s_is_statement : Stmt := top 27
abbrev s__law_pen : Stmt := top 29
abbrev s__law_draw : Stmt := top 30
abbrev s__law_pick : Stmt := top 31
abbrev s__law_words : Stmt := top 32
abbrev s__law_is_name : Stmt := top 33
abbrev s__law_text_drawn : Stmt := top 34
abbrev s__law_order : Stmt := top 35
abbrev s__law_kinds_right : Stmt := top 36
abbrev s_law : Stmt := top 37
def gv_are_names_value {α : Type} : List α → List α → List α := fun us zs => match us, zs with
  | [], [x0] => [x0]
  | _, _ => []
def gv_is_integer_value {α : Type} : List α → List α → List α := fun us zs => match us, zs with
  | [], [x0] => [x0]
  | _, _ => []
def gv_is_name_value {α : Type} : List α → List α → List α := fun us zs => match us, zs with
  | [], [x0] => [x0]
  | _, _ => []
def gv_is_row_value {α : Type} : List α → List α → List α := fun us zs => match us, zs with
  | [], [x0] => [x0]
  | _, _ => []
def gv_is_within_most_least_value {α : Type} : List α → List α → List α := fun us zs => match us, zs with
  | [], [x0, x1, x2] => [x2, x1, x0]
  | _, _ => []
def gv_names_in_order_many_taken {α : Type} : List α → List α → List α := fun us zs => match us, zs with
  | [], [x0, x1] => [x1, x0]
  | _, _ => []
structure Fs (K : PySem.W.Frag) (mg : Str → Option Value) where
  a_is_integer : Addr
  d_is_integer : FuncData
  F_is_integer : Fun K "is_integer" "is_integer" s_is_integer a_is_integer d_is_integer
  m_is_integer : mg "is_integer" = some (.ref a_is_integer)
  b_is_integer : Binds K d_is_integer ["value"] []
  a_is_within : Addr
  d_is_within : FuncData
  F_is_within : Fun K "is_within" "is_within" s_is_within a_is_within d_is_within
  m_is_within : mg "is_within" = some (.ref a_is_within)
  b_is_within : Binds K d_is_within ["value", "least", "most"] []
  a_is_row : Addr
  d_is_row : FuncData
  F_is_row : Fun K "is_row" "is_row" s_is_row a_is_row d_is_row
  m_is_row : mg "is_row" = some (.ref a_is_row)
  b_is_row : Binds K d_is_row ["value"] []
  a_is_name : Addr
  d_is_name : FuncData
  F_is_name : Fun K "is_name" "is_name" s_is_name a_is_name d_is_name
  m_is_name : mg "is_name" = some (.ref a_is_name)
  b_is_name : Binds K d_is_name ["value"] []
  a_are_names : Addr
  d_are_names : FuncData
  F_are_names : Fun K "are_names" "are_names" s_are_names a_are_names d_are_names
  m_are_names : mg "are_names" = some (.ref a_are_names)
  b_are_names : Binds K d_are_names ["value"] []
  a_names_in_order : Addr
  d_names_in_order : FuncData
  F_names_in_order : Fun K "names_in_order" "names_in_order" s_names_in_order a_names_in_order d_names_in_order
  m_names_in_order : mg "names_in_order" = some (.ref a_names_in_order)
  b_names_in_order : Binds K d_names_in_order ["taken", "many"] []
  a_fixed : Addr
  d_fixed : FuncData
  F_fixed : Fun K "fixed" "fixed" s_fixed a_fixed d_fixed
  m_fixed : mg "fixed" = some (.ref a_fixed)
  b_fixed : Binds K d_fixed ["value"] []
  a_statement_in : Addr
  d_statement_in : FuncData
  F_statement_in : Fun K "statement_in" "statement_in" s_statement_in a_statement_in d_statement_in
  m_statement_in : mg "statement_in" = some (.ref a_statement_in)
  b_statement_in : Binds K d_statement_in ["value"] []
  a_is_statement : Addr
  d_is_statement : FuncData
  F_is_statement : Fun K "is_statement" "is_statement" s_is_statement a_is_statement d_is_statement
  m_is_statement : mg "is_statement" = some (.ref a_is_statement)
  b_is_statement : Binds K d_is_statement ["value"] []
  a__law_pen : Addr
  d__law_pen : FuncData
  F__law_pen : Fun K "_law_pen" "_law_pen" s__law_pen a__law_pen d__law_pen
  m__law_pen : mg "_law_pen" = some (.ref a__law_pen)
  b__law_pen : Binds K d__law_pen ["script"] []
  a__law_draw : Addr
  d__law_draw : FuncData
  F__law_draw : Fun K "_law_draw" "_law_draw" s__law_draw a__law_draw d__law_draw
  m__law_draw : mg "_law_draw" = some (.ref a__law_draw)
  b__law_draw : Binds K d__law_draw ["pen", "many"] []
  a__law_pick : Addr
  d__law_pick : FuncData
  F__law_pick : Fun K "_law_pick" "_law_pick" s__law_pick a__law_pick d__law_pick
  m__law_pick : mg "_law_pick" = some (.ref a__law_pick)
  b__law_pick : Binds K d__law_pick ["pen", "some"] []
  a__law_words : Addr
  d__law_words : FuncData
  F__law_words : Fun K "_law_words" "_law_words" s__law_words a__law_words d__law_words
  m__law_words : mg "_law_words" = some (.ref a__law_words)
  b__law_words : Binds K d__law_words [] []
  a__law_is_name : Addr
  d__law_is_name : FuncData
  F__law_is_name : Fun K "_law_is_name" "_law_is_name" s__law_is_name a__law_is_name d__law_is_name
  m__law_is_name : mg "_law_is_name" = some (.ref a__law_is_name)
  b__law_is_name : Binds K d__law_is_name ["value"] []
  a__law_text_drawn : Addr
  d__law_text_drawn : FuncData
  F__law_text_drawn : Fun K "_law_text_drawn" "_law_text_drawn" s__law_text_drawn a__law_text_drawn d__law_text_drawn
  m__law_text_drawn : mg "_law_text_drawn" = some (.ref a__law_text_drawn)
  b__law_text_drawn : Binds K d__law_text_drawn ["pen"] []
  a__law_order : Addr
  d__law_order : FuncData
  F__law_order : Fun K "_law_order" "_law_order" s__law_order a__law_order d__law_order
  m__law_order : mg "_law_order" = some (.ref a__law_order)
  b__law_order : Binds K d__law_order ["taken", "many"] []
  a__law_kinds_right : Addr
  d__law_kinds_right : FuncData
  F__law_kinds_right : Fun K "_law_kinds_right" "_law_kinds_right" s__law_kinds_right a__law_kinds_right d__law_kinds_right
  m__law_kinds_right : mg "_law_kinds_right" = some (.ref a__law_kinds_right)
  b__law_kinds_right : Binds K d__law_kinds_right ["pen"] []
  a_law : Addr
  d_law : FuncData
  F_law : Fun K "law" "law" s_law a_law d_law
  m_law : mg "law" = some (.ref a_law)
  b_law : Binds K d_law ["script"] []
  k_are_names_value : KBinds K d_are_names ["value"] ["value"] gv_are_names_value gv_are_names_value
  k_is_integer_value : KBinds K d_is_integer ["value"] ["value"] gv_is_integer_value gv_is_integer_value
  k_is_name_value : KBinds K d_is_name ["value"] ["value"] gv_is_name_value gv_is_name_value
  k_is_row_value : KBinds K d_is_row ["value"] ["value"] gv_is_row_value gv_is_row_value
  k_is_within_most_least_value : KBinds K d_is_within ["value", "least", "most"] ["most", "least", "value"] gv_is_within_most_least_value gv_is_within_most_least_value
  k_names_in_order_many_taken : KBinds K d_names_in_order ["taken", "many"] ["many", "taken"] gv_names_in_order_many_taken gv_names_in_order_many_taken
  a_BARE : Addr
  g_BARE : mg "BARE" = some (.ref a_BARE)
  t_BARE : KTup K a_BARE ["nothing", "any", "no"]
  a_JOINS : Addr
  g_JOINS : mg "JOINS" = some (.ref a_JOINS)
  t_JOINS : KTup K a_JOINS ["both", "gives", "pick", "or"]
  g_LETTERS : ∃ t, mg "LETTERS" = some (.str "abcdefghijklmnopqrstuvwxyz" t)
  g_MOST_PARTS : ∃ t, mg "MOST_PARTS" = some (.int 24 t)
  g_MOST_SIGNS : ∃ t, mg "MOST_SIGNS" = some (.int 8 t)
  a_WORDS : Addr
  g_WORDS : mg "WORDS" = some (.ref a_WORDS)
  t_WORDS : KTup K a_WORDS ["both", "gives", "pick", "or", "nothing", "any", "no", "split", "call", "take", "open", "use", "never", "give", "box", "pair", "fun", "offer", "left", "right", "unit", "rest", "first", "second"]
  z_abs : mg "abs" = none
  z_all : mg "all" = none
  z_bool : mg "bool" = none
  z_dict : mg "dict" = none
  z_int : mg "int" = none
  z_isinstance : mg "isinstance" = none
  z_len : mg "len" = none
  z_list : mg "list" = none
  z_range : mg "range" = none
  z_repr : mg "repr" = none
  z_set : mg "set" = none
  z_str : mg "str" = none
  z_sum : mg "sum" = none
  z_tuple : mg "tuple" = none
def h0 (ds : List D) : D := ds.headD .non
def h1 (ds : List D) : D := ds.getD 1 .non
def h2 (ds : List D) : D := ds.getD 2 .non
/-- of a known kind -/
def kn (d : D) : Prop := tyD d ≠ none
def isIntD : D → Bool
  | .int _ => true
  | _ => false
def isRowD : D → Bool
  | .lst _ => true
  | .tup _ => true
  | _ => false
theorem kn_int {d : D} (h : kn d) : ∃ b, isiD "int" d = some b ∧ isiD "bool" d = some (b && !isIntD d) ∧ (isIntD d = true → b = true) := by
  rw [isi_int, isi_bl]
  cases d <;> first | exact ⟨_, rfl, rfl, fun _ => rfl⟩ | exact ⟨_, rfl, rfl, fun z => by cases z⟩ | exact absurd rfl h
theorem kn_row {d : D} (h : kn d) : isiD2 "list" "tuple" d = some (isRowD d) := by
  rw [isi_row]
  cases d <;> first | rfl | exact absurd rfl h
def words : List Str := ["both", "gives", "pick", "or", "nothing", "any", "no", "split", "call", "take", "open", "use", "never", "give", "box", "pair", "fun", "offer", "left", "right", "unit", "rest", "first", "second"]
def letters : Str := "abcdefghijklmnopqrstuvwxyz"
def isLet (c : Nat) : Bool := decide (c ∈ letters.cps.toList)
def isNameS (s : Str) : Bool := decide (1 ≤ s.length) && decide (s.length ≤ 8) && !words.contains s && s.cps.toList.all isLet
def isNameD : D → Bool
  | .str s => isNameS s
  | _ => false
/-- of a known kind, no text too long -/
def kns (d : D) : Prop := kn d ∧ ∀ s, d = .str s → s.length ≤ 1000000
theorem kn_str {d : D} (h : kn d) : isiD "str" d = some (match d with | .str _ => true | _ => false) := by
  rw [isi_str]
  cases d <;> first | rfl | exact absurd rfl h
theorem inD_strs (s : Str) (ss : List Str) : inD (.str s) (ss.map D.str) = ss.contains s := by
  unfold inD
  rw [List.any_map, List.contains_eq_any_beq]
  congr 1
  funext z
  show (z == s) = (s == z)
  exact Bool.eq_iff_iff.mpr (by rw [beq_iff_eq, beq_iff_eq]; exact eq_comm)
theorem flat_strs (ss : List Str) : (ss.map D.str).all flatD = true := by
  rw [List.all_map]
  exact List.all_eq_true.mpr fun _ _ => rfl
theorem le_line {n : Nat} (h : n ≤ 1000000) : n ≤ sizeLine := Nat.le_trans h (by rw [sizeLine_eq]; decide)
theorem lt_line {n : Nat} (h : n ≤ 1000000) : n < sizeLine := Nat.lt_of_le_of_lt h (by rw [sizeLine_eq]; decide)
theorem filter_true {α : Type} (l : List α) : l.filter (fun _ => true) = l := by
  induction l with
  | nil => rfl
  | cons a r ih => rw [List.filter_cons, if_pos rfl, ih]
def lets : List Nat := letters.cps.toList
def exts (w : Str) : List Str := lets.map fun c => w ++ ⟨#[c]⟩
def lev : Nat → List Str
  | 0 => [Str.empty]
  | n + 1 => (lev n).flatMap exts
def okIn (ts : List Str) (w : Str) : Bool := isNameS w && !ts.contains w
def W : List Str := lev 1 ++ lev 2 ++ lev 3
def ordS (ts : List Str) (many : Nat) : List Str := (W.filter (okIn ts)).take many
def ten : List Str := ["a", "b", "c", "z", "aa", "ab", "zz", "no", "or", "x"]
/-! the same over lists of codes -/
def extsL (w : List Nat) : List (List Nat) := lets.map fun c => w ++ [c]
def levL : Nat → List (List Nat)
  | 0 => [[]]
  | n + 1 => (levL n).flatMap extsL
def mkS (l : List Nat) : Str := ⟨l.toArray⟩
theorem mkS_app (l : List Nat) (c : Nat) : mkS (l ++ [c]) = mkS l ++ ⟨#[c]⟩ := by
  unfold mkS
  show (⟨_⟩ : Str) = ⟨l.toArray ++ #[c]⟩
  congr 1
  simp
theorem lev_L : ∀ n, lev n = (levL n).map mkS
  | 0 => rfl
  | n + 1 => by
    show (lev n).flatMap exts = ((levL n).flatMap extsL).map mkS
    rw [lev_L n, List.flatMap_map, List.map_flatMap]
    congr 1
    funext l
    unfold exts extsL
    rw [List.map_map]
    congr 1
    funext c
    exact (mkS_app l c).symm
theorem mkS_inj {a b : List Nat} (h : mkS a = mkS b) : a = b := by
  have e : (mkS a).cps.toList = (mkS b).cps.toList := by rw [h]
  exact e
def okL (l : List Nat) : Bool := decide (1 ≤ l.length) && decide (l.length ≤ 8) && !(words.map fun s => s.cps.toList).contains l && l.all (fun c => lets.contains c) && !(ten.map fun s => s.cps.toList).contains l
theorem contains_mkS (l : List Nat) (ws : List Str) : ws.contains (mkS l) = (ws.map fun s => s.cps.toList).contains l := by
  rw [List.contains_eq_any_beq, List.contains_eq_any_beq, List.any_map]
  congr 1
  funext s
  refine Bool.eq_iff_iff.mpr ⟨fun h => ?_, fun h => ?_⟩
  · have e := eq_of_beq h
    show (l == s.cps.toList) = true
    rw [← e]
    exact beq_self_eq_true _
  · have e : l = s.cps.toList := eq_of_beq h
    have e2 : mkS l = s := by rw [e]; rfl
    rw [e2]
    exact beq_self_eq_true _
theorem ok_L (l : List Nat) : okIn ten (mkS l) = okL l := by
  unfold okIn okL isNameS
  rw [contains_mkS, contains_mkS]
  have e1 : (mkS l).length = l.length := rfl
  have e2 : (mkS l).cps.toList = l := rfl
  rw [e1, e2]
  have e3 : (fun c => lets.contains c) = isLet := by
    funext c
    unfold isLet
    exact List.contains_eq_mem c lets
  rw [e3]
theorem many_L : 730 ≤ ((levL 1 ++ levL 2 ++ (levL 3).take 130).filter okL).length := by decide +kernel
theorem ok_mono {ts : List Str} (h : ∀ t ∈ ts, t ∈ ten) (w : Str) (q : okIn ten w = true) : okIn ts w = true := by
  unfold okIn at q ⊢
  obtain ⟨q1, q2⟩ := Bool.and_eq_true_iff.mp q
  rw [q1, Bool.true_and]
  cases e : ts.contains w with
  | false => rfl
  | true =>
    have hm : w ∈ ts := by simpa using e
    have e2 : ten.contains w = true := by simpa using h w hm
    rw [e2] at q2
    cases q2
theorem W_many {ts : List Str} (h : ∀ t ∈ ts, t ∈ ten) : 730 ≤ (W.filter (okIn ts)).length := by
  have e : (levL 1 ++ levL 2 ++ (levL 3).take 130).map mkS <+: W := by
    have a := ((List.prefix_append_right_inj (levL 1 ++ levL 2)).mpr (List.take_prefix 130 (levL 3))).map mkS
    have b : (levL 1 ++ levL 2 ++ levL 3).map mkS = W := by
      unfold W
      simp only [lev_L, List.map_append]
    exact b ▸ a
  have h1 := (e.sublist.filter (okIn ten)).length_le
  have h2 : ((levL 1 ++ levL 2 ++ (levL 3).take 130).map mkS).filter (okIn ten) = ((levL 1 ++ levL 2 ++ (levL 3).take 130).filter okL).map mkS := by
    rw [List.filter_map]
    exact congrArg (List.map mkS) (List.filter_congr fun l _ => ok_L l)
  rw [h2, List.length_map] at h1
  have h3 : (W.filter (okIn ten)).length ≤ (W.filter (okIn ts)).length := by
    rw [← List.countP_eq_length_filter, ← List.countP_eq_length_filter]
    exact List.countP_mono_left fun w _ q => ok_mono h w q
  have h4 := many_L
  omega
/-! the queue -/
def Pq (k : Nat) : List Str := lev 1 ++ (W.take k).flatMap exts
theorem exts_len (w : Str) : (exts w).length = 26 := by
  unfold exts
  rw [List.length_map]
  decide +kernel
theorem Pq_len (k : Nat) (h : k ≤ W.length) : (Pq k).length = 26 + 26 * k := by
  unfold Pq
  have e : ∀ l : List Str, (l.flatMap exts).length = 26 * l.length := by
    intro l
    induction l with
    | nil => rfl
    | cons x r ih => rw [List.flatMap_cons, List.length_append, exts_len, ih, List.length_cons]; omega
  have e1 : (lev 1).length = 26 := by
    show ([Str.empty].flatMap exts).length = 26
    rw [e]
    rfl
  rw [List.length_append, e, e1, List.length_take]
  omega
theorem W_pre : W <+: lev 1 ++ W.flatMap exts := by
  have e : lev 1 ++ W.flatMap exts = W ++ lev 4 := by
    unfold W
    rw [List.flatMap_append, List.flatMap_append]
    show lev 1 ++ (lev 2 ++ lev 3 ++ lev 4) = _
    simp only [List.append_assoc]
  rw [e]
  exact List.prefix_append _ _
theorem Pq_at {k : Nat} (h : k < W.length) : (Pq k)[k]? = W[k]? := by
  have e1 : Pq k <+: lev 1 ++ W.flatMap exts := by
    unfold Pq
    refine List.prefix_append_right_inj _ |>.mpr ?_
    conv => rhs; rw [← List.take_append_drop k W]
    rw [List.flatMap_append]
    exact List.prefix_append _ _
  have hk : k < (Pq k).length := by rw [Pq_len k (Nat.le_of_lt h)]; omega
  obtain ⟨t1, ht1⟩ := e1
  obtain ⟨t2, ht2⟩ := W_pre
  have a1 : (lev 1 ++ W.flatMap exts)[k]? = (Pq k)[k]? := by rw [← ht1, List.getElem?_append_left hk]
  have a2 : (lev 1 ++ W.flatMap exts)[k]? = W[k]? := by conv => lhs; rw [← ht2, List.getElem?_append_left h]
  rw [← a1, a2]
theorem Pq_succ {k : Nat} {w : Str} (h : W[k]? = some w) : Pq (k + 1) = Pq k ++ exts w := by
  unfold Pq
  rw [List.take_succ, h, List.flatMap_append, List.append_assoc]
  show _ ++ (_ ++ List.flatMap exts [w]) = _
  rw [List.flatMap_cons, List.flatMap_nil, List.append_nil]
theorem Pq_drop {k : Nat} {w : Str} (h : W[k]? = some w) : (Pq k).drop k = w :: (Pq k).drop (k + 1) := by
  have hk : k < W.length := (List.getElem?_eq_some_iff.mp h).1
  have hp := Pq_at hk
  rw [h] at hp
  obtain ⟨h1, h2⟩ := List.getElem?_eq_some_iff.mp hp
  rw [List.drop_eq_getElem_cons h1, h2]
theorem Pq_next {k : Nat} {w : Str} (h : W[k]? = some w) : (Pq k).drop (k + 1) ++ exts w = (Pq (k + 1)).drop (k + 1) := by
  have hk : k < W.length := (List.getElem?_eq_some_iff.mp h).1
  rw [Pq_succ h, List.drop_append_of_le_length]
  rw [Pq_len k (Nat.le_of_lt hk)]
  omega
theorem lev_len : ∀ n, ∀ w ∈ lev n, w.length = n
  | 0, w, h => by rw [List.mem_singleton.mp h]; rfl
  | n + 1, w, h => by
    obtain ⟨v, hv, hw⟩ := List.mem_flatMap.mp h
    obtain ⟨c, _, rfl⟩ := List.mem_map.mp hw
    rw [str_len_app, lev_len n v hv]
    rfl
theorem W_short {w : Str} (h : w ∈ W) : w.length ≤ 3 := by
  unfold W at h
  rcases List.mem_append.mp h with h | h
  · rcases List.mem_append.mp h with h | h
    · rw [lev_len 1 w h]; decide
    · rw [lev_len 2 w h]; decide
  · exact Nat.le_of_eq (lev_len 3 w h)
theorem levL_len : ∀ n, (levL n).length = 26 ^ n
  | 0 => rfl
  | n + 1 => by
    show ((levL n).flatMap extsL).length = _
    have e : ∀ l : List (List Nat), (l.flatMap extsL).length = 26 * l.length := by
      intro l
      induction l with
      | nil => rfl
      | cons x r ih =>
        rw [List.flatMap_cons, List.length_append, ih, List.length_cons]
        have : (extsL x).length = 26 := by unfold extsL; rw [List.length_map]; decide +kernel
        omega
    rw [e, levL_len n, Nat.pow_succ]
    omega
theorem W_len : W.length = 18278 := by
  unfold W
  rw [List.length_append, List.length_append, lev_L, lev_L, lev_L, List.length_map, List.length_map, List.length_map, levL_len, levL_len, levL_len]
/-- what was found so far, at the end -/
theorem found_end {ts : List Str} {many k : Nat} (h : ((W.take k).filter (okIn ts)).length = many) : (W.take k).filter (okIn ts) = ordS ts many := by
  unfold ordS
  have e : W.filter (okIn ts) = (W.take k).filter (okIn ts) ++ (W.drop k).filter (okIn ts) := by rw [← List.filter_append, List.take_append_drop]
  rw [e, List.take_append_of_le_length (by omega), ← h, List.take_length]
theorem found_step {ts : List Str} {k : Nat} {w : Str} (h : W[k]? = some w) : (W.take (k + 1)).filter (okIn ts) = if okIn ts w = true then (W.take k).filter (okIn ts) ++ [w] else (W.take k).filter (okIn ts) := by
  rw [List.take_succ, h, List.filter_append]
  simp only [Option.toList, List.filter_cons, List.filter_nil]
  split <;> simp
/-- the law's own list: the levels below s -/
def Es : Nat → List Str
  | 0 => []
  | s + 1 => Es s ++ lev (s + 1)
theorem Es3 : Es 3 = W := rfl
theorem Es_end {ts : List Str} {many : Nat} : ∀ {s : Nat}, s ≤ 3 → many ≤ ((Es s).filter (okIn ts)).length → ((Es s).filter (okIn ts)).take many = ordS ts many := fun {s} hs h => by
  have e : ∃ t, W = Es s ++ t := by
    match s, hs with
    | 0, _ => exact ⟨W, rfl⟩
    | 1, _ => exact ⟨lev 2 ++ lev 3, by unfold W; show _ = ([] ++ lev 1) ++ _; rw [List.nil_append, List.append_assoc]⟩
    | 2, _ => exact ⟨lev 3, rfl⟩
    | 3, _ => exact ⟨[], by rw [List.append_nil]; rfl⟩
  obtain ⟨t, ht⟩ := e
  unfold ordS
  rw [ht, List.filter_append, List.take_append_of_le_length h]
/-! ## is_integer -/
abbrev N_is_integer : List Str := ["value"]
theorem sc_is_integer : FnScope N_is_integer ["value"] (defScope s_is_integer) := ⟨rfl, rfl, rfl, by decide +kernel, rfl, by decide +kernel, by decide +kernel⟩
abbrev sp_is_integer (K : PySem.W.Frag) : Sp := spP K 1 (fun ds => kn (h0 ds)) (fun ds => .bl (isIntD (h0 ds)))
def t_is_integer {K : PySem.W.Frag} {mg : Str → Option Value} (Z : Fs K mg) : TS :=
  (tRet (tAndV (tCB (rIsi K) (tCons (tVar 0) (tCons (tC (.ty "int")) tNil))) (tNotV (tCB (rIsi K) (tCons (tVar 0) (tCons (tC (.ty "bool")) tNil))))))
theorem ps_is_integer {P : Program} {w : World} {K : PySem.W.Frag} {mg : Str → Option Value} {base : Heap} (Z : Fs K mg) {cdv : Value} {A : Around} {outer : List Env} {s : Shared} {H : Hp} {E : XK} (hr : Room 0 (A.deeper (PyProof.Rows.envOfC "is_integer" (defScope s_is_integer) s.heap.objs.size Z.a_is_integer cdv))) :
    PSs (cxOf CX0 P w K mg base N_is_integer "is_integer" (defScope s_is_integer) Z.a_is_integer cdv A outer s H E).nox (defBody s_is_integer) (t_is_integer Z) := by
  have hu := hu_of hr
  have hu64 := hr.units
  have hu66 := hu66_of hr
  exact (pss_one (ps_ret (pe_and (pe_callB call_isi (by rfl) Z.z_isinstance (by decide +kernel) (pa_cons (pv 0) (pa_cons (pe_bltn rfl Z.z_int (by decide +kernel) rfl) pa_nil))) (pe_one (pe_not (pe_callB call_isi (by rfl) Z.z_isinstance (by decide +kernel) (pa_cons (pv 0) (pa_cons (pe_bltn rfl Z.z_bool (by decide +kernel) rfl) pa_nil))))))))
theorem rd_is_integer {K : PySem.W.Frag} {mg : Str → Option Value} (Z : Fs K mg) {vs : List V} {H : Hp} {Q : VK} {E : XK} (h : sp_is_integer K vs H Q E) : t_is_integer Z { nx := fun _ H' => Q .non H', rt := Q } (L2.start N_is_integer vs) H := by
  refine fnP1 h (by decide) fun S0 d σ G hp st k => ?_
  obtain ⟨b, e1, e2, e3⟩ := kn_int (show kn d from hp)
  refine s_ret st (EvD.is (ed_and (ed_isi (by k_extra "eh") e1) fun _ => ed_not (ed_isi (by k_extra "eh") e2)) ?_) k
  show D.bl _ = D.bl (isIntD d)
  cases b <;> cases q : isIntD d <;> simp_all
theorem ok_is_integer {P : Program} {w : World} {K : PySem.W.Frag} {mg : Str → Option Value} {base : Heap} (Z : Fs K mg) : FnOk P w K mg base CX0 1 Z.a_is_integer Z.d_is_integer ["value"] (sp_is_integer K) :=
  Z.F_is_integer.ok sc_is_integer (fun _ _ _ _ h => by first | exact spP_len h | exact spN_len h | exact spPen_len h) (fun cdv A outer s H vs Q E hr h => ⟨t_is_integer Z, ps_is_integer Z hr, rd_is_integer Z h⟩)
/-! ## is_within -/
abbrev N_is_within : List Str := ["value", "least", "most"]
theorem sc_is_within : FnScope N_is_within ["value", "least", "most"] (defScope s_is_within) := ⟨rfl, rfl, rfl, by decide +kernel, rfl, by decide +kernel, by decide +kernel⟩
/-- least is an integer; most is an integer or None; the value is of a known kind -/
def isWithin (v lo hi : D) : Bool := match v, lo, hi with
  | .int v, .int lo, .int hi => decide (lo ≤ v) && decide (v ≤ hi)
  | .int v, .int lo, .non => decide (lo ≤ v)
  | _, _, _ => false
abbrev sp_is_within (K : PySem.W.Frag) : Sp := spP K 3 (fun ds => kn (h0 ds) ∧ (∃ i, h1 ds = .int i) ∧ (h2 ds = .non ∨ ∃ i, h2 ds = .int i)) (fun ds => .bl (isWithin (h0 ds) (h1 ds) (h2 ds)))
def t_is_within {K : PySem.W.Frag} {mg : Str → Option Value} (Z : Fs K mg) : TS :=
  (tRet (tAndV (tCall (sp_is_integer K) [] E0 (tCons (tVar 0) tNil)) (tAndV (tOp (rI0 fun i j => .bl (decide (i ≤ j))) (tVar 1) (tVar 0)) (tOrV (tOp rIsN (tVar 2) (tC .non)) (tOp (rI0 fun i j => .bl (decide (i ≤ j))) (tVar 0) (tVar 2))))))
theorem ps_is_within {P : Program} {w : World} {K : PySem.W.Frag} {mg : Str → Option Value} {base : Heap} (Z : Fs K mg) {cdv : Value} {A : Around} {outer : List Env} {s : Shared} {H : Hp} {E : XK} (hr : Room 1 (A.deeper (PyProof.Rows.envOfC "is_within" (defScope s_is_within) s.heap.objs.size Z.a_is_within cdv))) :
    PSs (cxOf CX0 P w K mg base N_is_within "is_within" (defScope s_is_within) Z.a_is_within cdv A outer s H E).nox (defBody s_is_within) (t_is_within Z) := by
  have hu := hu_of hr
  have hu64 := hr.units
  have hu66 := hu66_of hr
  exact (pss_one (ps_ret (pe_and (pe_call (ok_is_integer Z) (hr.mono (by decide)) rfl Z.m_is_integer Z.F_is_integer.kp Z.b_is_integer .nil pass0 (pa_cons (pv 0) pa_nil)) (pe_and (pe_cmpR op_le (pv 1) (pv 0) (nomark _)) (pe_one (pe_or (pe_cmpR op_isN (pv 2) pe_non (nomark _)) (pe_one (pe_cmpR op_le (pv 0) (pv 2) (nomark _)))))))))
theorem rd_is_within {K : PySem.W.Frag} {mg : Str → Option Value} (Z : Fs K mg) {vs : List V} {H : Hp} {Q : VK} {E : XK} (h : sp_is_within K vs H Q E) : t_is_within Z { nx := fun _ H' => Q .non H', rt := Q } (L2.start N_is_within vs) H := by
  refine fnP3 h (by decide) fun S0 v lo hi σ G hp st k => ?_
  obtain ⟨h1, ⟨i, h2⟩, h3⟩ := hp
  cases (show lo = .int i from h2)
  have first := ed_call (p := none) (K := K) (S := S0) (σ := σ) (n := 1) (pre := fun ds => kn (h0 ds)) (f := fun ds => .bl (isIntD (h0 ds))) (E := E0) (t := tCons (tVar 0) tNil) (ds := [v]) (by k_extra "ea") rfl h1
  by_cases hv : isIntD v = true
  · obtain ⟨j, rfl⟩ : ∃ j, v = .int j := by cases v <;> first | exact ⟨_, rfl⟩ | cases hv
    rcases h3 with h3 | ⟨u, h3⟩
    · cases (show hi = .non from h3)
      refine s_ret st (EvD.is (ed_and first fun _ => ed_and (by k_extra "ev") fun _ => ed_or (a := true) (b := true) (by k_extra "ev") fun z => by cases z) ?_) k
      show D.bl (true && (decide (i ≤ j) && true)) = D.bl (decide (i ≤ j))
      rw [Bool.and_true, Bool.true_and]
    · cases (show hi = .int u from h3)
      refine s_ret st (EvD.is (ed_and first fun _ => ed_and (by k_extra "ev") fun _ => ed_or (a := false) (by k_extra "ev") fun z => by k_extra "ev") ?_) k
      rfl
  · refine s_ret st (EvD.is (ed_and (b := false) first fun q => absurd q hv) ?_) k
    show D.bl (isIntD v && false) = D.bl (isWithin v (.int i) hi)
    cases v <;> first | (rw [Bool.and_false]; rfl) | exact absurd rfl hv
theorem ok_is_within {P : Program} {w : World} {K : PySem.W.Frag} {mg : Str → Option Value} {base : Heap} (Z : Fs K mg) : FnOk P w K mg base CX0 2 Z.a_is_within Z.d_is_within ["value", "least", "most"] (sp_is_within K) :=
  Z.F_is_within.ok sc_is_within (fun _ _ _ _ h => by first | exact spP_len h | exact spN_len h | exact spPen_len h) (fun cdv A outer s H vs Q E hr h => ⟨t_is_within Z, ps_is_within Z hr, rd_is_within Z h⟩)
/-! ## is_row -/
abbrev N_is_row : List Str := ["value"]
theorem sc_is_row : FnScope N_is_row ["value"] (defScope s_is_row) := ⟨rfl, rfl, rfl, by decide +kernel, rfl, by decide +kernel, by decide +kernel⟩
abbrev sp_is_row (K : PySem.W.Frag) : Sp := spP K 1 (fun ds => kn (h0 ds)) (fun ds => .bl (isRowD (h0 ds)))
def t_is_row {K : PySem.W.Frag} {mg : Str → Option Value} (Z : Fs K mg) : TS :=
  (tRet (tCB (rIsiT K) (tCons (tVar 0) (tCons (tTup (tCons (tC (.ty "list")) (tCons (tC (.ty "tuple")) tNil))) tNil))))
theorem ps_is_row {P : Program} {w : World} {K : PySem.W.Frag} {mg : Str → Option Value} {base : Heap} (Z : Fs K mg) {cdv : Value} {A : Around} {outer : List Env} {s : Shared} {H : Hp} {E : XK} (hr : Room 0 (A.deeper (PyProof.Rows.envOfC "is_row" (defScope s_is_row) s.heap.objs.size Z.a_is_row cdv))) :
    PSs (cxOf CX0 P w K mg base N_is_row "is_row" (defScope s_is_row) Z.a_is_row cdv A outer s H E).nox (defBody s_is_row) (t_is_row Z) := by
  have hu := hu_of hr
  have hu64 := hr.units
  have hu66 := hu66_of hr
  exact (pss_one (ps_ret (pe_callB call_isiT (by rfl) Z.z_isinstance (by decide +kernel) (pa_cons (pv 0) (pa_cons (pe_tup (pa_cons (pe_bltn rfl Z.z_list (by decide +kernel) rfl) (pa_cons (pe_bltn rfl Z.z_tuple (by decide +kernel) rfl) pa_nil))) pa_nil)))))
theorem rd_is_row {K : PySem.W.Frag} {mg : Str → Option Value} (Z : Fs K mg) {vs : List V} {H : Hp} {Q : VK} {E : XK} (h : sp_is_row K vs H Q E) : t_is_row Z { nx := fun _ H' => Q .non H', rt := Q } (L2.start N_is_row vs) H := by
  refine fnP1 h (by decide) fun S0 d σ G hp st k => ?_
  exact s_ret st (ed_isi2 (by k_extra "eh") (kn_row hp)) k
theorem ok_is_row {P : Program} {w : World} {K : PySem.W.Frag} {mg : Str → Option Value} {base : Heap} (Z : Fs K mg) : FnOk P w K mg base CX0 1 Z.a_is_row Z.d_is_row ["value"] (sp_is_row K) :=
  Z.F_is_row.ok sc_is_row (fun _ _ _ _ h => by first | exact spP_len h | exact spN_len h | exact spPen_len h) (fun cdv A outer s H vs Q E hr h => ⟨t_is_row Z, ps_is_row Z hr, rd_is_row Z h⟩)
/-! ## is_name -/
abbrev N_is_name : List Str := ["value", "sign"]
theorem sc_is_name : FnScope N_is_name ["value"] (defScope s_is_name) := ⟨rfl, rfl, rfl, by decide +kernel, rfl, by decide +kernel, by decide +kernel⟩
abbrev sp_is_name (K : PySem.W.Frag) : Sp := spP K 1 (fun ds => kns (h0 ds)) (fun ds => .bl (isNameD (h0 ds)))
def isLetD : D → Bool
  | .str s => s.cps.toList.all isLet
  | _ => false
theorem signs_let (s : Str) : (((signs s).filter fun _ => true).map fun d => .bl (isLetD d)) = (s.cps.toList.map isLet).map D.bl := by
  rw [filter_true]
  unfold signs
  rw [List.map_map, List.map_map]
  congr 1
  funext c
  show D.bl ([c].all isLet) = D.bl (isLet c)
  rw [List.all_cons, List.all_nil, Bool.and_true]
def nameTest (s : Str) : Bool := false || (!(decide ((1 : Int) ≤ (s.length : Int)) && decide ((s.length : Int) ≤ 8)) || inD (.str s) (words.map D.str))
theorem nameTest_eq (s : Str) : nameTest s = !(decide (1 ≤ s.length) && decide (s.length ≤ 8) && !words.contains s) := by
  unfold nameTest
  rw [inD_strs, show decide ((1 : Int) ≤ (s.length : Int)) = decide (1 ≤ s.length) from decide_eq_decide.mpr (by omega), show decide ((s.length : Int) ≤ 8) = decide (s.length ≤ 8) from decide_eq_decide.mpr (by omega)]
  cases decide (1 ≤ s.length) <;> cases decide (s.length ≤ 8) <;> cases words.contains s <;> rfl
theorem name_no {s : Str} (h : nameTest s = true) : isNameS s = false := by
  rw [nameTest_eq] at h
  unfold isNameS
  cases q : (decide (1 ≤ s.length) && decide (s.length ≤ 8) && !words.contains s)
  · rfl
  · rw [q] at h; cases h
theorem name_yes {s : Str} (h : nameTest s = false) : isNameS s = s.cps.toList.all isLet := by
  rw [nameTest_eq] at h
  unfold isNameS
  cases q : (decide (1 ≤ s.length) && decide (s.length ≤ 8) && !words.contains s)
  · rw [q] at h; cases h
  · rfl
theorem signs_mem {s : Str} {d : D} (h : d ∈ signs s) : ∃ c, d = .str ⟨#[c]⟩ := by
  obtain ⟨c, _, e⟩ := List.mem_map.mp h
  exact ⟨c, e.symm⟩
theorem signs_len {s : Str} {n : Nat} (h : s.length < n) : (signs s).length < n := by
  unfold signs
  rw [List.length_map]
  exact h
def t_is_name {K : PySem.W.Frag} {mg : Str → Option Value} (Z : Fs K mg) : TS :=
  (tSeq (tIfS (tOr (tNot (tB (tCB (rIsi K) (tCons (tVar 0) (tCons (tC (.ty "str")) tNil))))) (tOr (tNot (tTest (tChain (rI0 fun i j => .bl (decide (i ≤ j))) (rI0 fun i j => .bl (decide (i ≤ j))) (tC (.int 1)) (tCB (rLenA K) (tCons (tVar 0) tNil)) (tC (.int 8))))) (tTest (tOp (rInV K) (tVar 0) (tC (.ref Z.a_WORDS))))))
    (tRet (tC (.bl false)))
    tNext)
    (tRet (tCB (rAll K) (tCons (tLc (iStr (tVar 0)) (gName 1) tYes (tOp (rInV K) (tVar 1) (tC (.str "abcdefghijklmnopqrstuvwxyz"))) [1]) tNil))))
theorem ps_is_name {P : Program} {w : World} {K : PySem.W.Frag} {mg : Str → Option Value} {base : Heap} (Z : Fs K mg) {cdv : Value} {A : Around} {outer : List Env} {s : Shared} {H : Hp} {E : XK} (hr : Room 0 (A.deeper (PyProof.Rows.envOfC "is_name" (defScope s_is_name) s.heap.objs.size Z.a_is_name cdv))) :
    PSs (cxOf CX0 P w K mg base N_is_name "is_name" (defScope s_is_name) Z.a_is_name cdv A outer s H E).nox (defBody s_is_name) (t_is_name Z) := by
  have hu := hu_of hr
  have hu64 := hr.units
  have hu66 := hu66_of hr
  exact (pss_cons (ps_if (PW.pt (pw_or (pt_not (pt_val (pe_callB call_isi (by rfl) Z.z_isinstance (by decide +kernel) (pa_cons (pv 0) (pa_cons (pe_bltn rfl Z.z_str (by decide +kernel) rfl) pa_nil))))) (pw_or (pt_not (pt_chain op_le op_le pe_int (pe_callB call_lenA (by rfl) Z.z_len (by decide +kernel) (pa_cons (pv 0) pa_nil)) (pe_gi rfl Z.g_MOST_SIGNS))) (pw_or1 (pt_cmpR (op_inV hu) (pv 0) (pe_gr rfl Z.g_WORDS) rfl)))))
    (pss_one (ps_ret pe_bl))
    pss_nil)
    (pss_one (ps_ret (pe_callB (cr_all rfl) (by rfl) Z.z_all (by decide +kernel) (pa_cons (pe_lc (own := [("sign", 1)]) rfl sc_is_name.nd (pi_str (pv 0)) (blkOk_by (own := [("sign", 1)]) (N := N_is_name) (sc := defScope s_is_name) (by decide +kernel)) (fun _ _ _ _ _ => (pg_name (i := 1) sc_is_name.nd rfl (Or.inl rfl))) (fun _ _ _ _ _ => pts_nil) (fun _ _ _ _ _ => (pe_cmpR (op_inV hu) (pv 1) (pe_gs rfl Z.g_LETTERS) rfl))) pa_nil)))))
theorem rd_is_name {K : PySem.W.Frag} {mg : Str → Option Value} (Z : Fs K mg) {vs : List V} {H : Hp} {Q : VK} {E : XK} (h : sp_is_name K vs H Q E) : t_is_name Z { nx := fun _ H' => Q .non H', rt := Q } (L2.start N_is_name vs) H := by
  refine fnP1 h (by decide) fun S0 d σ G hp st k => ?_
  obtain ⟨hk, hl⟩ := hp
  have hk : kn d := hk
  have e1 := kn_str hk
  by_cases hs : ∃ s, d = .str s
  · obtain ⟨s, rfl⟩ := hs
    have hz := hl s rfl
    have hw : EvD K none (tC (.ref Z.a_WORDS)) σ S0 (.tup (words.map D.str)) := ed_c Z.t_WORDS.rp
    refine s_seq (s_if st (et_or (a := false) (EvT.is (et_not (et_B (ed_isi (by k_extra "eh") e1))) rfl) fun _ =>
      et_or (et_not (et_test (ed_chain (by k_extra "eh") (EvD.h (ed_cb (eh_cons (by k_extra "eh") eh_nil) (rl_S (le_line hz)))) rd_B0 (fun _ => by k_extra "eh") rd_B0))) fun _ =>
        et_test (ed_op (by k_extra "eh") hw.h (rd_inT2 rfl (flat_strs words)))) (fun hb S1 st1 => ?_) (fun hb S1 st1 => ?_))
    · refine s_ret st1 ed_bl (fun v S' g t r => k v S' g t ?_)
      show Rp K S'.F v (.bl (isNameS s))
      rw [name_no hb]
      exact r
    · refine s_next ?_
      dsimp only
      refine (s_ret st1 (EvD.is (ed_cb (eh_cons (EvO.h (eo_lc (i := 1) (vs := [1]) (f := fun d => .bl (isLetD d)) (b := fun _ => true) st1 (es_str (by k_extra "ev")) (by decide) (by decide) (fun d hd B' n' σ' S' st' => ⟨et_yes, fun _ => ?_⟩) (signs_len (lt_line hz)))) eh_nil) (by rw [signs_let]; exact rc_all)) ?_) k)
      · obtain ⟨c, rfl⟩ := signs_mem hd
        refine EvD.is (ed_op (by k_extra "eh") (by k_extra "eh") rd_inS2) ?_
        show D.bl _ = D.bl ([c].all isLet)
        rw [List.all_cons, List.all_nil, Bool.and_true]
        rfl
      · show D.bl _ = D.bl (isNameS s)
        rw [name_yes hb]
        congr 1
        rw [List.all_map]
        rfl
  · have e2 : isiD "str" d = some false := by
      rw [e1]
      cases d <;> first | rfl | exact absurd ⟨_, rfl⟩ hs
    refine s_seq (s_if (b := true) st (et_or (a := true) (b := true) (EvT.is (et_not (et_B (ed_isi (by k_extra "eh") e2))) rfl) fun z => by cases z) (fun hb S1 st1 => ?_) (fun hb S1 st1 => by cases hb))
    · refine s_ret st1 ed_bl (fun v S' g t r => k v S' g t ?_)
      have e : isNameD d = false := by cases d <;> first | rfl | exact absurd ⟨_, rfl⟩ hs
      show Rp K S'.F v (.bl (isNameD d))
      rw [e]
      exact r
theorem ok_is_name {P : Program} {w : World} {K : PySem.W.Frag} {mg : Str → Option Value} {base : Heap} (Z : Fs K mg) : FnOk P w K mg base CX0 1 Z.a_is_name Z.d_is_name ["value"] (sp_is_name K) :=
  Z.F_is_name.ok sc_is_name (fun _ _ _ _ h => by first | exact spP_len h | exact spN_len h | exact spPen_len h) (fun cdv A outer s H vs Q E hr h => ⟨t_is_name Z, ps_is_name Z hr, rd_is_name Z h⟩)
/-! ## are_names -/
abbrev N_are_names : List Str := ["value", "one"]
theorem sc_are_names : FnScope N_are_names ["value"] (defScope s_are_names) := ⟨rfl, rfl, rfl, by decide +kernel, rfl, by decide +kernel, by decide +kernel⟩
def keyS (d : D) : Str := match d with
  | .str s => s
  | _ => Str.empty
def areNamesD (d : D) : Bool := match rowD d with
  | some ds => ds.all isNameD && decide ((uniq (ds.map keyS)).length = ds.length)
  | none => false
abbrev sp_are_names (K : PySem.W.Frag) : Sp := spP K 1 (fun ds => kn (h0 ds) ∧ ∀ es, rowD (h0 ds) = some es → es.length ≤ 1000 ∧ ∀ e ∈ es, kns e) (fun ds => .bl (areNamesD (h0 ds)))
def t_are_names {K : PySem.W.Frag} {mg : Str → Option Value} (Z : Fs K mg) : TS :=
  (tSeq (tIfS (tOr (tNot (tB (tCall (sp_is_row K) [] E0 (tCons (tVar 0) tNil)))) (tNot (tB (tCB (rAll K) (tCons (tLc (iRow K (tVar 0)) (gName 1) tYes (tCall (sp_is_name K) [] E0 (tCons (tVar 1) tNil)) [1]) tNil)))))
    (tRet (tC (.bl false)))
    tNext)
    (tRet (tOp (rEqU K) (tCB (rLenA K) (tCons (tDc (iRow K (tVar 0)) (gName 1) tYes (tVar 1) (tC (.bl true)) [1]) tNil)) (tCB (rLenA K) (tCons (tVar 0) tNil)))))
theorem ps_are_names {P : Program} {w : World} {K : PySem.W.Frag} {mg : Str → Option Value} {base : Heap} (Z : Fs K mg) {cdv : Value} {A : Around} {outer : List Env} {s : Shared} {H : Hp} {E : XK} (hr : Room 1 (A.deeper (PyProof.Rows.envOfC "are_names" (defScope s_are_names) s.heap.objs.size Z.a_are_names cdv))) :
    PSs (cxOf CX0 P w K mg base N_are_names "are_names" (defScope s_are_names) Z.a_are_names cdv A outer s H E).nox (defBody s_are_names) (t_are_names Z) := by
  have hu := hu_of hr
  have hu64 := hr.units
  have hu66 := hu66_of hr
  exact (pss_cons (ps_if (PW.pt (pw_or (pt_not (pt_val (pe_call (ok_is_row Z) (hr.mono (by decide)) rfl Z.m_is_row Z.F_is_row.kp Z.b_is_row .nil pass0 (pa_cons (pv 0) pa_nil)))) (pw_or1 (pt_not (pt_val (pe_callB (cr_all rfl) (by rfl) Z.z_all (by decide +kernel) (pa_cons (pe_lc (own := [("one", 1)]) rfl sc_are_names.nd (pi_row (pv 0)) (blkOk_by (own := [("one", 1)]) (N := N_are_names) (sc := defScope s_are_names) (by decide +kernel)) (fun _ _ _ _ _ => (pg_name (i := 1) sc_are_names.nd rfl (Or.inl rfl))) (fun _ _ _ _ _ => pts_nil) (fun _ _ _ _ _ => (pe_call (ok_is_name Z) (hr.mono (by decide)) rfl Z.m_is_name Z.F_is_name.kp Z.b_is_name .nil pass0 (pa_cons (pv 1) pa_nil)))) pa_nil)))))))
    (pss_one (ps_ret pe_bl))
    pss_nil)
    (pss_one (ps_ret (pe_cmpR (op_eqU hu64) (pe_callB call_lenA (by rfl) Z.z_len (by decide +kernel) (pa_cons (pe_dc (own := [("one", 1)]) rfl sc_are_names.nd (pi_row (pv 0)) (blkOk_by (own := [("one", 1)]) (N := N_are_names) (sc := defScope s_are_names) (by decide +kernel)) (fun _ _ _ _ _ => (pg_name (i := 1) sc_are_names.nd rfl (Or.inl rfl))) (fun _ _ _ _ _ => pts_nil) (fun _ _ _ _ _ => (pv 1)) (fun _ _ _ _ _ => pe_bl)) pa_nil)) (pe_callB call_lenA (by rfl) Z.z_len (by decide +kernel) (pa_cons (pv 0) pa_nil)) (nomark _)))))
theorem all_map (es : List D) (f : D → Bool) : ((es.filter fun _ => true).map fun d => D.bl (f d)) = (es.map f).map D.bl := by
  rw [filter_true, List.map_map]
  rfl
theorem names_len (es : List D) (f : D → D) : (mkD ((es.filter fun _ => true).map fun d => ((.inr (keyS d) : Key), f d))).length = (uniq (es.map keyS)).length := by
  have e := congrArg List.length (mkD_keys ((es.filter fun _ => true).map fun d => ((.inr (keyS d) : Key), f d)))
  rw [List.length_map] at e
  rw [e, filter_true, List.map_map]
  have e2 : es.map ((fun x => x.1) ∘ fun d => ((.inr (keyS d) : Key), f d)) = (es.map keyS).map fun s => (.inr s : Key) := by rw [List.map_map]; rfl
  rw [e2, uniq_map _ (fun x y q => by cases q; rfl), List.length_map]
theorem rd_are_names {K : PySem.W.Frag} {mg : Str → Option Value} (Z : Fs K mg) {vs : List V} {H : Hp} {Q : VK} {E : XK} (h : sp_are_names K vs H Q E) : t_are_names Z { nx := fun _ H' => Q .non H', rt := Q } (L2.start N_are_names vs) H := by
  refine fnP1 h (by decide) fun S0 d σ G hp st k => ?_
  obtain ⟨hk, he⟩ := hp
  have hk : kn d := hk
  have c1 : EvD K none (tCall (sp_is_row K) [] E0 (tCons (tVar 0) tNil)) σ S0 (.bl (isRowD d)) := ed_call (ds := [d]) (ea_cons (ed_var st rfl) ea_nil) rfl hk
  cases hr : rowD d with
  | none =>
    have e : isRowD d = false := by cases d <;> first | rfl | cases hr
    rw [e] at c1
    refine s_seq (s_if st (et_orT (EvT.is (et_not (et_B c1)) rfl)) (fun _ S1 st1 => ?_) (fun hb S1 st1 => by cases hb))
    refine s_ret st1 (EvD.is ed_bl ?_) k
    show D.bl false = D.bl (areNamesD d)
    unfold areNamesD
    rw [hr]
  | some es =>
    have e : isRowD d = true := by cases d <;> first | rfl | cases hr
    rw [e] at c1
    obtain ⟨hl, hes⟩ := he es hr
    have hz : es.length < sizeLine := Nat.lt_of_le_of_lt hl (by rw [sizeLine_eq]; decide)
    have c2 : EvD K none (tCB (rAll K) (tCons (tLc (iRow K (tVar 0)) (gName 1) tYes (tCall (sp_is_name K) [] E0 (tCons (tVar 1) tNil)) [1]) tNil)) σ S0 (.bl (es.all isNameD)) := by
      refine EvD.is (ed_cb (eh_cons (EvO.h (eo_lc (i := 1) (vs := [1]) (f := fun d => .bl (isNameD d)) (b := fun _ => true) st (es_row (ed_var st rfl) hr) (by decide) (by decide) (fun x hx B' n' σ' S' st' => ⟨et_yes, fun _ => ed_call (ds := [x]) (ea_cons (ed_var st' rfl) ea_nil) rfl (hes x hx)⟩) hz)) eh_nil) (by rw [all_map]; exact rc_all)) ?_
      rw [List.all_map]
      rfl
    refine s_seq (s_if st (et_or (EvT.is (et_not (et_B c1)) rfl) fun _ => et_not (et_B c2)) (fun hb S1 st1 => ?_) (fun hb S1 st1 => ?_))
    · refine s_ret st1 (EvD.is ed_bl ?_) k
      show D.bl false = D.bl (areNamesD d)
      have hb : (!es.all isNameD) = true := hb
      unfold areNamesD
      rw [hr]
      show D.bl false = D.bl (es.all isNameD && _)
      rw [show es.all isNameD = false by simpa using hb]
      rfl
    · have hb : (!es.all isNameD) = false := hb
      have hall : es.all isNameD = true := by simpa using hb
      have hstr : ∀ x ∈ es, x = D.str (keyS x) := fun x hx => by
        have q := List.all_eq_true.mp hall x hx
        cases x <;> first | rfl | cases q
      refine s_next ?_
      dsimp only
      refine s_ret st1 (EvD.is (ed_op (EvD.h (ed_len (EvD.h (EvOD.ed (eod_dc (i := 1) (vs := [1]) (kf := fun d => (.inr (keyS d) : Key)) (f := fun _ => .bl true) (b := fun _ => true) st1 (es_row (ed_var st1 rfl) hr) (by decide) (by decide) (fun x hx B' n' σ' S' st' => ⟨et_yes, fun _ => ⟨EvD.is (ed_var st' rfl) (hstr x hx), ed_bl⟩⟩) hz))) rl_D)) (EvD.h (ed_len (EvD.h (ed_var st1 rfl)) (rl_row hr (Nat.le_of_lt hz)))) rd_eqI) ?_) k
      show D.bl _ = D.bl (areNamesD d)
      unfold areNamesD
      rw [hr, names_len]
      show D.bl (decide (((uniq (es.map keyS)).length : Int) = (es.length : Int))) = D.bl (es.all isNameD && _)
      rw [hall, Bool.true_and]
      congr 1
      exact decide_eq_decide.mpr (by omega)
theorem ok_are_names {P : Program} {w : World} {K : PySem.W.Frag} {mg : Str → Option Value} {base : Heap} (Z : Fs K mg) : FnOk P w K mg base CX0 2 Z.a_are_names Z.d_are_names ["value"] (sp_are_names K) :=
  Z.F_are_names.ok sc_are_names (fun _ _ _ _ h => by first | exact spP_len h | exact spN_len h | exact spPen_len h) (fun cdv A outer s H vs Q E hr h => ⟨t_are_names Z, ps_are_names Z hr, rd_are_names Z h⟩)
/-! ## names_in_order -/
abbrev N_names_in_order : List Str := ["taken", "many", "found", "line", "one", "letter"]
theorem sc_names_in_order : FnScope N_names_in_order ["taken", "many"] (defScope s_names_in_order) := ⟨rfl, rfl, rfl, by decide +kernel, rfl, by decide +kernel, by decide +kernel⟩
def keyK (k : Key) : Str := match k with
  | .inr s => s
  | .inl _ => Str.empty
def takenD (d : D) : List Str := match d with
  | .lst xs => xs.map keyS
  | .dic kds => kds.map fun kd => keyK kd.1
  | _ => []
def manyD (d : D) : Nat := match d with
  | .int i => i.toNat
  | _ => 0
def preOrd (ds : List D) : Prop := ∃ (ts : List Str) (many : Nat), (∀ t ∈ ts, t ∈ ten) ∧ ts.length ≤ 20 ∧ h1 ds = .int (many : Int) ∧ many ≤ 730 ∧ (h0 ds = .lst (ts.map D.str) ∨ ∃ kds : List (Key × D), h0 ds = .dic kds ∧ kds.map (·.1) = ts.map Sum.inr)
abbrev sp_names_in_order (K : PySem.W.Frag) : Sp := spP K 2 preOrd (fun ds => .lst ((ordS (takenD (h0 ds)) (manyD (h1 ds))).map D.str))
def t_names_in_order {K : PySem.W.Frag} {mg : Str → Option Value} (Z : Fs K mg) : TS :=
  (tSeq (tPar 2 3 (tCons (tLst tNil) (tCons (tCB rListS (tCons (tC (.str "abcdefghijklmnopqrstuvwxyz")) tNil)) tNil)))
    (tSeq (tWhile (tTest (tOp (rI0 fun i j => .bl (decide (i < j))) (tCB (rLenA K) (tCons (tVar 2) tNil)) (tVar 1)))
    (tSeq (tAsg (tBM K "list" rPopAt (tVar 3) (tCons (tC (.int 0)) tNil)) (gName 4))
    (tSeq (tDrop (tBM K "list" rExtend (tVar 3) (tCons (tIf (tTest (tOp (rI0 fun i j => .bl (decide (i < j))) (tCB (rLenA K) (tCons (tVar 4) tNil)) (tC (.int 8)))) (tLc (iStr (tC (.str "abcdefghijklmnopqrstuvwxyz"))) (gName 5) tYes (tOp (rAddU K) (tVar 4) (tVar 5)) [5]) (tLst tNil)) tNil)))
    (tIfS (tAnd (tB (tCall (sp_is_name K) [] E0 (tCons (tVar 4) tNil))) (tTest (tOp (rNinV K) (tVar 4) (tVar 0))))
    (tDrop (tBM K "list" rAppend (tVar 2) (tCons (tVar 4) tNil)))
    tNext))))
    (tRet (tVar 2))))
theorem ps_names_in_order {P : Program} {w : World} {K : PySem.W.Frag} {mg : Str → Option Value} {base : Heap} (Z : Fs K mg) {cdv : Value} {A : Around} {outer : List Env} {s : Shared} {H : Hp} {E : XK} (hr : Room 1 (A.deeper (PyProof.Rows.envOfC "names_in_order" (defScope s_names_in_order) s.heap.objs.size Z.a_names_in_order cdv))) :
    PSs (cxOf CX0 P w K mg base N_names_in_order "names_in_order" (defScope s_names_in_order) Z.a_names_in_order cdv A outer s H E).nox (defBody s_names_in_order) (t_names_in_order Z) := by
  have hu := hu_of hr
  have hu64 := hr.units
  have hu66 := hu66_of hr
  exact (pss_cons (ps_par (i := 2) (j := 3) rfl sc_names_in_order.nd rfl rfl (by decide) rfl rfl (pa_cons (pe_lst pa_nil) (pa_cons (pe_callTy (call_listS rfl) (by rfl) Z.z_list (by decide +kernel) (pa_cons (pe_gs rfl Z.g_LETTERS) pa_nil)) pa_nil)) rfl)
    (pss_cons (ps_while PassesOwn.never (pt_cmpR op_lt (pe_callB call_lenA (by rfl) Z.z_len (by decide +kernel) (pa_cons (pv 2) pa_nil)) (pv 1) (nomark _))
    (pss_cons (ps_set (i := 4) sc_names_in_order.nd rfl (Or.inr rfl) (pe_bm PySem.F.plainAttrs_list PySem.F.slot_list_pop PySem.F.type_list_pop mt_popAt (pv 3) (pa_cons pe_int pa_nil)))
    (pss_cons (ps_expr (pe_bm PySem.F.plainAttrs_list PySem.F.slot_list_extend PySem.F.type_list_extend mt_extend (pv 3) (pa_cons (pe_ifExp (pt_cmpR op_lt (pe_callB call_lenA (by rfl) Z.z_len (by decide +kernel) (pa_cons (pv 4) pa_nil)) (pe_gi rfl Z.g_MOST_SIGNS) (nomark _)) (pe_lc (own := [("letter", 5)]) rfl sc_names_in_order.nd (pi_str (pe_gs rfl Z.g_LETTERS)) (blkOk_by (own := [("letter", 5)]) (N := N_names_in_order) (sc := defScope s_names_in_order) (by decide +kernel)) (fun _ _ _ _ _ => (pg_name (i := 5) sc_names_in_order.nd rfl (Or.inl rfl))) (fun _ _ _ _ _ => pts_nil) (fun _ _ _ _ _ => (pe_op op_addU (pv 4) (pv 5)))) (pe_lst pa_nil)) pa_nil)))
    (pss_one (ps_if (PW.pt (pw_and (pt_val (pe_call (ok_is_name Z) (hr.mono (by decide)) rfl Z.m_is_name Z.F_is_name.kp Z.b_is_name .nil pass0 (pa_cons (pv 4) pa_nil))) (pw_and1 (pt_cmpR (op_ninV hu) (pv 4) (pv 0) rfl))))
    (pss_one (ps_expr (pe_bm PySem.F.plainAttrs_list PySem.F.slot_list_append PySem.F.type_list_append mt_append (pv 2) (pa_cons (pv 4) pa_nil))))
    pss_nil)))))
    (pss_one (ps_ret (pv 2)))))
theorem seq0 (n : Nat) : seqIndex? 0 (n + 1) = some 0 := by
  unfold seqIndex?
  simp
theorem line0 : ((Pq 0).drop 0).map D.str = signs letters := by
  unfold Pq signs
  show ([Str.empty].flatMap exts ++ ([] : List Str).flatMap exts).map D.str = lets.map _
  rw [List.flatMap_nil, List.append_nil, List.flatMap_cons, List.flatMap_nil, List.append_nil]
  unfold exts
  rw [List.map_map]
  exact List.map_congr_left fun c _ => rfl
theorem exts_eq (w : Str) : (exts w).map D.str = ((signs letters).filter fun _ => true).map fun d => D.str (w ++ keyS d) := by
  rw [filter_true]
  unfold exts signs
  rw [List.map_map, List.map_map]
  rfl
theorem taken_eq {d : D} {ts : List Str} (hd : d = .lst (ts.map D.str) ∨ ∃ kds : List (Key × D), d = .dic kds ∧ kds.map (·.1) = ts.map Sum.inr) : takenD d = ts := by
  rcases hd with rfl | ⟨kds, rfl, e⟩
  · show (ts.map D.str).map keyS = ts
    rw [List.map_map]
    exact List.map_id ts
  · show kds.map (fun kd => keyK kd.1) = ts
    have e2 : kds.map (fun kd => keyK kd.1) = (kds.map (·.1)).map keyK := by rw [List.map_map]; rfl
    rw [e2, e, List.map_map]
    exact List.map_id ts
theorem nin_taken {K : PySem.W.Frag} {p : Option Addr} {d : D} {ts : List Str} {w : Str} (hd : d = .lst (ts.map D.str) ∨ ∃ kds : List (Key × D), d = .dic kds ∧ kds.map (·.1) = ts.map Sum.inr) : RD K p (rNinV K) (.str w) d (.bl (!ts.contains w)) := by
  rcases hd with rfl | ⟨kds, rfl, e⟩
  · have q := rd_ninL2 (K := K) (p := p) (d1 := .str w) (ds := ts.map D.str) rfl (flat_strs ts)
    rw [inD_strs] at q
    exact q
  · have q := rd_ninD2 (K := K) (p := p) (k := .inr w) (kds := kds)
    have e2 : ((kds.map (·.1)).any fun z => decide (z = (.inr w : Key))) = ts.contains w := by
      rw [e, List.any_map, List.contains_eq_any_beq]
      congr 1
      funext t
      show decide ((.inr t : Key) = .inr w) = (w == t)
      by_cases h : t = w
      · subst h; simp
      · have h2 : (w == t) = false := beq_eq_false_iff_ne.mpr fun z => h z.symm
        rw [h2]
        exact decide_eq_false fun z => h (Sum.inr.inj z)
    rw [e2] at q
    exact q
theorem rd_names_in_order {K : PySem.W.Frag} {mg : Str → Option Value} (Z : Fs K mg) {vs : List V} {H : Hp} {Q : VK} {E : XK} (h : sp_names_in_order K vs H Q E) : t_names_in_order Z { nx := fun _ H' => Q .non H', rt := Q } (L2.start N_names_in_order vs) H := by
  refine fnP2 h (by decide) fun S0 d e σ G hp st k => ?_
  obtain ⟨ts, many, hts, htl, hm, hmany, hd⟩ := hp
  cases (show e = .int (many : Int) from hm)
  have hd : d = .lst (ts.map D.str) ∨ ∃ kds : List (Key × D), d = .dic kds ∧ kds.map (·.1) = ts.map Sum.inr := hd
  have sz : 1000000 ≤ sizeLine := by rw [sizeLine_eq]; exact Nat.le_of_ble_eq_true rfl
  have hr : ordS (takenD d) many = ordS ts many := by rw [taken_eq hd]
  have p2 : EvO K none (tCB rListS (tCons (tC (.str "abcdefghijklmnopqrstuvwxyz")) tNil)) σ S0 (((Pq 0).drop 0).map D.str) := by
    rw [line0]
    exact eo_listS ed_str (Nat.le_trans (by decide +kernel) sz)
  refine s_seq (s_par st (EvO.x (ds := []) (eo_lst ea_nil (Nat.zero_le _))) p2.x (by decide) (by decide) (by decide) (Nat.le_refl _) fun t1 t2 σ1 S1 e1 e2 st1 => ?_)
  subst e1
  subst e2
  refine s_seq (s_while (α := Nat) (fun q => q ≤ W.length ∧ ((W.take q).filter (okIn ts)).length ≤ many) (fun q => [(2, .own (((W.take q).filter (okIn ts)).map D.str)), (3, .own (((Pq q).drop q).map D.str)), (0, .dat d), (1, .dat (.int (many : Int)))]) (fun q => W.length - q) (fun q => decide ((((W.take q).filter (okIn ts)).length : Int) < (many : Int))) 0 st1 ⟨Nat.zero_le _, Nat.zero_le _⟩ ⟨rfl, rfl, rfl, rfl, True.intro⟩ (fun q σ S iq st2 => ?_) (fun q σ S iq hb st2 D' hrt nx _ _ => ?_) (fun q σ S iq hb st2 => ?_))
  · refine EvT.is (et_test (ed_op (EvD.h (ed_len (eh_var st2 rfl) (rl_L (by rw [List.length_map]; omega)))) (EvD.h (ed_var st2 rfl)) rd_B0)) ?_
    rw [List.length_map]
  · have hlt : ((W.take q).filter (okIn ts)).length < many := by have := of_decide_eq_true hb; omega
    have hq : q < W.length := by
      refine Nat.lt_of_not_le fun z => ?_
      rw [List.take_of_length_le z] at hlt
      have := W_many hts
      omega
    obtain ⟨w, hw⟩ : ∃ w, W[q]? = some w := ⟨_, List.getElem?_eq_getElem hq⟩
    have hw3 := W_short (List.mem_of_getElem? hw)
    have hW := W_len
    have hPl := Pq_len q (Nat.le_of_lt hq)
    have eL : ((Pq q).drop q).map D.str = .str w :: ((Pq q).drop (q + 1)).map D.str := by rw [Pq_drop hw]; rfl
    refine s_seq (s_popAt (z := 0) (c := 0) (d := .str w) (i := 3) (j := 4) st2 rfl ed_int (by decide) (by rw [eL]; exact seq0 _) (by rw [eL]; rfl) (by decide) fun σ3 S3 st3 => ?_)
    have eE : (((Pq q).drop q).map D.str).eraseIdx 0 = ((Pq q).drop (q + 1)).map D.str := by rw [eL]; rfl
    rw [eE] at st3
    have ex : EvO K none (tIf (tTest (tOp (rI0 fun i j => .bl (decide (i < j))) (tCB (rLenA K) (tCons (tVar 4) tNil)) (tC (.int 8)))) (tLc (iStr (tC (.str "abcdefghijklmnopqrstuvwxyz"))) (gName 5) tYes (tOp (rAddU K) (tVar 4) (tVar 5)) [5]) (tLst tNil)) σ3 S3 ((exts w).map D.str) := by
      refine eo_if (b := true) (EvT.is (et_test (ed_op (EvD.h (ed_len (EvD.h (ed_var st3 rfl)) (rl_S (Nat.le_trans hw3 (Nat.le_trans (by decide) sz))))) (EvD.h ed_int) rd_B0)) (decide_eq_true (by omega))) (fun _ => ?_) (fun z => by cases z)
      rw [exts_eq]
      refine eo_lc (i := 5) (vs := [5]) (b := fun _ => true) (f := fun d => .str (w ++ keyS d)) st3 (es_str ed_str) (by decide) (by decide) (fun x hx B' n' σ' S' st' => ⟨et_yes, fun _ => ?_⟩) (Nat.lt_of_lt_of_le (by decide +kernel) sz)
      obtain ⟨c, rfl⟩ := signs_mem hx
      exact ed_op (EvD.h (ed_var st' rfl)) (EvD.h (ed_var st' rfl)) (rd_addS (by show w.length + 1 ≤ _; omega))
    refine s_seq (s_ext (i := 3) st3 rfl ex.q (by rw [List.length_map, List.length_map, List.length_drop, exts_len]; omega) fun S4 st4 => ?_)
    have eN : ((Pq q).drop (q + 1)).map D.str ++ (exts w).map D.str = ((Pq (q + 1)).drop (q + 1)).map D.str := by rw [← List.map_append, Pq_next hw]
    rw [eN] at st4
    have c1 : EvD K none (tCall (sp_is_name K) [] E0 (tCons (tVar 4) tNil)) σ3 S4 (.bl (isNameS w)) := ed_call (ds := [.str w]) (ea_cons (ed_var st4 rfl) ea_nil) rfl (show kns (.str w) from ⟨(by unfold kn; intro z; cases z), fun s e => by cases e; omega⟩)
    refine s_if st4 (EvT.is (et_and (et_B c1) fun _ => et_test (ed_op (EvD.h (ed_var st4 rfl)) (EvD.h (ed_var st4 rfl)) (nin_taken hd))) (b := okIn ts w) rfl) (fun hok S5 st5 => ?_) (fun hok S5 st5 => ?_)
    · refine s_app (i := 2) st5 rfl (ed_var st5 rfl) (by rw [List.length_map]; omega) fun S6 st6 => ?_
      have eF : ((W.take q).filter (okIn ts)).map D.str ++ [D.str w] = ((W.take (q + 1)).filter (okIn ts)).map D.str := by
        rw [found_step hw, if_pos hok, List.map_append]
        rfl
      rw [eF] at st6
      refine nx (q + 1) _ _ _ ⟨hq, ?_⟩ (by omega) st6 ⟨rfl, rfl, rfl, rfl, True.intro⟩
      rw [found_step hw, if_pos hok, List.length_append]
      exact hlt
    · refine s_next ?_
      have eF : ((W.take q).filter (okIn ts)) = ((W.take (q + 1)).filter (okIn ts)) := by
        rw [found_step hw, hok, if_neg Bool.false_ne_true]
      rw [eF] at st5 hlt
      exact nx (q + 1) _ _ _ ⟨hq, Nat.le_of_lt hlt⟩ (by omega) st5 ⟨rfl, rfl, rfl, rfl, True.intro⟩
  · have hge : ((W.take q).filter (okIn ts)).length = many := by
      have h1 := iq.2
      have h2 := of_decide_eq_false hb
      omega
    refine ed_own st2 rfl fun v S' _ g ht r => k v S' g ht ?_
    show Rp K S'.F v (.lst ((ordS (takenD d) many).map D.str))
    rw [hr, ← found_end hge]
    exact r
theorem ok_names_in_order {P : Program} {w : World} {K : PySem.W.Frag} {mg : Str → Option Value} {base : Heap} (Z : Fs K mg) : FnOk P w K mg base CX0 2 Z.a_names_in_order Z.d_names_in_order ["taken", "many"] (sp_names_in_order K) :=
  Z.F_names_in_order.ok sc_names_in_order (fun _ _ _ _ h => by first | exact spP_len h | exact spN_len h | exact spPen_len h) (fun cdv A outer s H vs Q E hr h => ⟨t_names_in_order Z, ps_names_in_order Z hr, rd_names_in_order Z h⟩)
/-! ## fixed -/
abbrev N_fixed : List Str := ["value", "done", "line", "one", "parts"]
theorem sc_fixed : FnScope N_fixed ["value"] (defScope s_fixed) := ⟨rfl, rfl, rfl, by decide +kernel, rfl, by decide +kernel, by decide +kernel⟩
abbrev sp_fixed (K : PySem.W.Frag) : Sp := spP K 1 (fun ds => ∃ s, h0 ds = .str s) (fun ds => h0 ds)
def t_fixed {K : PySem.W.Frag} {mg : Str → Option Value} (Z : Fs K mg) : TS :=
  (tSeq (tPar 1 2 (tCons (tC .non) (tCons (tLst (tCons (tTup (tCons (tVar 0) (tCons (tC .non) tNil))) tNil)) tNil)))
    (tSeq (tWhile (tTest (tOp (rNeU K) (tVar 2) (tLst tNil)))
    (tSeq (tAsg (tBM0 K "list" rPop (tVar 2)) (gTup K 2 (gCons (gName 3) (gCons (gName 4) gNil))))
    (tSeq (tIfS (tNot (tB (tCall (sp_is_row K) [] E0 (tCons (tVar 3) tNil))))
    (tAsg (tVar 3) (gName 1))
    (tIfS (tTest (tOp rIsN (tVar 4) (tC .non)))
    (tSeq (tDrop (tBM K "list" rAppend (tVar 2) (tCons (tTup (tCons (tVar 3) (tCons (tLst tNil) tNil))) tNil)))
    (tSeq (tAsg (tC .non) (gName 1))
    (tSeq (tIfS (tTest (tOp (rI0 fun i j => .bl (decide (j < i))) (tCB (rLenA K) (tCons (tVar 3) tNil)) (tC (.int 0))))
    (tSeq (tDrop (tBM K "list" rAppend (tVar 2) (tCons (tTup (tCons (tOp (rIx K) (tVar 3) (tC (.int 0))) (tCons (tC .non) tNil))) tNil)))
    tCont)
    tNext)
    (tSeq (tDrop (tBM0 K "list" rPop (tVar 2)))
    (tAsg (tTup tNil) (gName 1))))))
    (tSeq (tDrop (tBM K "list" rAppend (tVar 4) (tCons (tVar 1) tNil)))
    (tSeq (tIfS (tTest (tOp (rI0 fun i j => .bl (decide (i < j))) (tCB (rLenA K) (tCons (tVar 4) tNil)) (tCB (rLenA K) (tCons (tVar 3) tNil))))
    (tSeq (tDrop (tBM K "list" rAppend (tVar 2) (tCons (tTup (tCons (tVar 3) (tCons (tVar 4) tNil))) tNil)))
    (tSeq (tDrop (tBM K "list" rAppend (tVar 2) (tCons (tTup (tCons (tOp (rIx K) (tVar 3) (tCB (rLenA K) (tCons (tVar 4) tNil))) (tCons (tC .non) tNil))) tNil)))
    tCont))
    tNext)
    (tAsg (tCB (rTuple K) (tCons (tVar 4) tNil)) (gName 1))))))
    (tIfS (tTest (tOp (rEqU K) (tVar 2) (tLst tNil)))
    (tRet (tVar 1))
    tNext))))
    (tRet (tVar 1))))
theorem ps_fixed {P : Program} {w : World} {K : PySem.W.Frag} {mg : Str → Option Value} {base : Heap} (Z : Fs K mg) {cdv : Value} {A : Around} {outer : List Env} {s : Shared} {H : Hp} {E : XK} (hr : Room 1 (A.deeper (PyProof.Rows.envOfC "fixed" (defScope s_fixed) s.heap.objs.size Z.a_fixed cdv))) :
    PSs (cxOf CX0 P w K mg base N_fixed "fixed" (defScope s_fixed) Z.a_fixed cdv A outer s H E).nox (defBody s_fixed) (t_fixed Z) := by
  have hu := hu_of hr
  have hu64 := hr.units
  have hu66 := hu66_of hr
  exact (pss_cons (ps_par (i := 1) (j := 2) rfl sc_fixed.nd rfl rfl (by decide) rfl rfl (pa_cons pe_non (pa_cons (pe_lst (pa_cons (pe_tup (pa_cons (pv 0) (pa_cons pe_non pa_nil))) pa_nil)) pa_nil)) rfl)
    (pss_cons (ps_while PassesOwn.never (pt_cmpR (op_neU hu64) (pv 2) (pe_lst pa_nil) (nomark _))
    (pss_cons (ps_asg (pe_bm0 PySem.F.plainAttrs_list PySem.F.slot_list_pop PySem.F.type_list_pop mt_pop (pv 2)) (pg_tup rfl (pgs_cons (pg_name (i := 3) sc_fixed.nd rfl (Or.inl rfl)) (pgs_cons (pg_name (i := 4) sc_fixed.nd rfl (Or.inl rfl)) pgs_nil))))
    (pss_cons (ps_if (pt_not (pt_val (pe_call (ok_is_row Z) (hr.mono (by decide)) rfl Z.m_is_row Z.F_is_row.kp Z.b_is_row .nil pass0 (pa_cons (pv 3) pa_nil))))
    (pss_one (ps_set (i := 1) sc_fixed.nd rfl (Or.inl rfl) (pv 3)))
    (pss_one (ps_if (pt_cmpR op_isN (pv 4) pe_non (nomark _))
    (pss_cons (ps_expr (pe_bm PySem.F.plainAttrs_list PySem.F.slot_list_append PySem.F.type_list_append mt_append (pv 2) (pa_cons (pe_tup (pa_cons (pv 3) (pa_cons (pe_lst pa_nil) pa_nil))) pa_nil)))
    (pss_cons (ps_set (i := 1) sc_fixed.nd rfl (Or.inl rfl) pe_non)
    (pss_cons (ps_if (pt_cmpR op_gt (pe_callB call_lenA (by rfl) Z.z_len (by decide +kernel) (pa_cons (pv 3) pa_nil)) pe_int (nomark _))
    (pss_cons (ps_expr (pe_bm PySem.F.plainAttrs_list PySem.F.slot_list_append PySem.F.type_list_append mt_append (pv 2) (pa_cons (pe_tup (pa_cons (pe_ix ix_seq (pv 3) pe_int (fun _ _ => rfl)) (pa_cons pe_non pa_nil))) pa_nil)))
    (pss_one ps_continue))
    pss_nil)
    (pss_cons (ps_expr (pe_bm0 PySem.F.plainAttrs_list PySem.F.slot_list_pop PySem.F.type_list_pop mt_pop (pv 2)))
    (pss_one (ps_set (i := 1) sc_fixed.nd rfl (Or.inl rfl) (pe_tup pa_nil)))))))
    (pss_cons (ps_expr (pe_bm PySem.F.plainAttrs_list PySem.F.slot_list_append PySem.F.type_list_append mt_append (pv 4) (pa_cons (pv 1) pa_nil)))
    (pss_cons (ps_if (pt_cmpR op_lt (pe_callB call_lenA (by rfl) Z.z_len (by decide +kernel) (pa_cons (pv 4) pa_nil)) (pe_callB call_lenA (by rfl) Z.z_len (by decide +kernel) (pa_cons (pv 3) pa_nil)) (nomark _))
    (pss_cons (ps_expr (pe_bm PySem.F.plainAttrs_list PySem.F.slot_list_append PySem.F.type_list_append mt_append (pv 2) (pa_cons (pe_tup (pa_cons (pv 3) (pa_cons (pv 4) pa_nil))) pa_nil)))
    (pss_cons (ps_expr (pe_bm PySem.F.plainAttrs_list PySem.F.slot_list_append PySem.F.type_list_append mt_append (pv 2) (pa_cons (pe_tup (pa_cons (pe_ix ix_seq (pv 3) (pe_callB call_lenA (by rfl) Z.z_len (by decide +kernel) (pa_cons (pv 4) pa_nil)) (fun _ _ => rfl)) (pa_cons pe_non pa_nil))) pa_nil)))
    (pss_one ps_continue)))
    pss_nil)
    (pss_one (ps_set (i := 1) sc_fixed.nd rfl (Or.inl rfl) (pe_callTy call_tuple_of (by rfl) Z.z_tuple (by decide +kernel) (pa_cons (pv 4) pa_nil)))))))))
    (pss_one (ps_if (pt_cmpR (op_eqU hu64) (pv 2) (pe_lst pa_nil) (nomark _))
    (pss_one (ps_ret (pv 1)))
    pss_nil)))))
    (pss_one (ps_ret (pv 1)))))
theorem rd_fixed {K : PySem.W.Frag} {mg : Str → Option Value} (Z : Fs K mg) {vs : List V} {H : Hp} {Q : VK} {E : XK} (h : sp_fixed K vs H Q E) : t_fixed Z { nx := fun _ H' => Q .non H', rt := Q } (L2.start N_fixed vs) H := by
  refine fnP1 h (by decide) fun S0 d σ G hp st k => ?_
  obtain ⟨s, hs⟩ := hp
  cases (show d = .str s from hs)
  have par1 : EvO K none (tLst (tCons (tTup (tCons (tVar 0) (tCons (tC .non) tNil))) tNil)) σ S0 [.tup [.str s, .non]] := eo_lst (ea_cons (ed_tup (ea_cons (ed_var st rfl) (ea_cons ed_non ea_nil)) (by rw [sizeLine_eq]; exact Nat.le_of_ble_eq_true rfl)) ea_nil) (by rw [sizeLine_eq]; exact Nat.le_of_ble_eq_true rfl)
  refine s_seq (s_par st ed_non.x par1.x (by decide) (by decide) (by decide) (Nat.le_refl _) fun t1 t2 σ1 S1 e1 e2 st1 => ?_)
  subst e1
  subst e2
  refine s_seq (s_while (α := Unit) (fun _ => True) (fun _ => [(2, .own [.tup [.str s, .non]])]) (fun _ => 0) (fun _ => true) () st1 True.intro ⟨rfl, True.intro⟩ (fun _ σ S _ st2 => ?_) (fun _ σ S _ _ st2 D' hrt _ _ _ => ?_) (fun _ σ S _ hf _ => by cases hf))
  · exact et_test (ed_op (eh_var st2 rfl) (EvO.h (eo_lst ea_nil (Nat.zero_le _))) rd_neNil)
  · refine s_seq (s_popPair (ds := []) st2 rfl (by decide) (by decide) fun σ3 S3 st3 => ?_)
    have c1 : EvD K none (tCall (sp_is_row K) [] E0 (tCons (tVar 3) tNil)) σ3 S3 (.bl (isRowD (.str s))) := ed_call (ds := [.str s]) (ea_cons (ed_var st3 rfl) ea_nil) rfl (show kn (.str s) from by unfold kn; intro z; cases z)
    refine s_seq (s_if st3 (EvT.is (et_not (et_B c1)) rfl) (fun _ S4 st4 => ?_) (fun hb S4 st4 => by cases hb))
    refine s_dat st4 (ed_var st4 rfl) (by decide) fun σ5 S5 st5 => ?_
    refine s_if st5 (et_test (ed_op (eh_var st5 rfl) (EvO.h (eo_lst ea_nil (Nat.zero_le _))) rd_eqNil)) (fun _ S6 st6 => ?_) (fun hb S6 st6 => by cases hb)
    refine s_ret st6 (ed_var st6 rfl) (fun v S' g ht r => ?_)
    show D'.rt v S'.H
    rw [hrt]
    exact k v S' g ht r
theorem ok_fixed {P : Program} {w : World} {K : PySem.W.Frag} {mg : Str → Option Value} {base : Heap} (Z : Fs K mg) : FnOk P w K mg base CX0 2 Z.a_fixed Z.d_fixed ["value"] (sp_fixed K) :=
  Z.F_fixed.ok sc_fixed (fun _ _ _ _ h => by first | exact spP_len h | exact spN_len h | exact spPen_len h) (fun cdv A outer s H vs Q E hr h => ⟨t_fixed Z, ps_fixed Z hr, rd_fixed Z h⟩)
/-! ## statement_in -/
abbrev N_statement_in : List Str := ["value", "line", "many", "one"]
theorem sc_statement_in : FnScope N_statement_in ["value"] (defScope s_statement_in) := ⟨rfl, rfl, rfl, by decide +kernel, rfl, by decide +kernel, by decide +kernel⟩
def isStmt (s : Str) : Bool := (["nothing", "any", "no"] : List Str).contains s || isNameS s
abbrev sp_statement_in (K : PySem.W.Frag) : Sp := spP K 1 (fun ds => ∃ s : Str, h0 ds = .str s ∧ s.length ≤ 1000000) (fun ds => if isStmt (keyS (h0 ds)) = true then h0 ds else .non)
def t_statement_in {K : PySem.W.Frag} {mg : Str → Option Value} (Z : Fs K mg) : TS :=
  (tSeq (tPar 1 2 (tCons (tLst (tCons (tVar 0) tNil)) (tCons (tC (.int 0)) tNil)))
    (tSeq (tWhile (tTest (tOp (rNeU K) (tVar 1) (tLst tNil)))
    (tSeq (tPar 3 2 (tCons (tBM0 K "list" rPop (tVar 1)) (tCons (tOp (rAddU K) (tVar 2) (tC (.int 1))) tNil)))
    (tSeq (tIfS (tTest (tOp (rI0 fun i j => .bl (decide (j < i))) (tVar 2) (tC (.int 24))))
    (tRet (tC .non))
    tNext)
    (tIfS (tB (tCB (rIsi K) (tCons (tVar 3) (tCons (tC (.ty "str")) tNil))))
    (tIfS (tAnd (tTest (tOp (rNinV K) (tVar 3) (tC (.ref Z.a_BARE)))) (tNot (tB (tCall (sp_is_name K) [] E0 (tCons (tVar 3) tNil)))))
    (tRet (tC .non))
    tNext)
    (tIfS (tAnd (tB (tCB (rIsiT K) (tCons (tVar 3) (tCons (tTup (tCons (tC (.ty "list")) (tCons (tC (.ty "tuple")) tNil))) tNil)))) (tAnd (tTest (tOp (rEqU K) (tCB (rLenA K) (tCons (tVar 3) tNil)) (tC (.int 3)))) (tAnd (tB (tCB (rIsi K) (tCons (tOp (rIx K) (tVar 3) (tC (.int 0))) (tCons (tC (.ty "str")) tNil)))) (tTest (tOp (rInV K) (tOp (rIx K) (tVar 3) (tC (.int 0))) (tC (.ref Z.a_JOINS)))))))
    (tDrop (tBM K "list" rExtend (tVar 1) (tCons (tLst (tCons (tOp (rIx K) (tVar 3) (tC (.int 2))) (tCons (tOp (rIx K) (tVar 3) (tC (.int 1))) tNil))) tNil)))
    (tRet (tC .non)))))))
    (tRet (tCall (sp_fixed K) [] E0 (tCons (tVar 0) tNil)))))
theorem ps_statement_in {P : Program} {w : World} {K : PySem.W.Frag} {mg : Str → Option Value} {base : Heap} (Z : Fs K mg) {cdv : Value} {A : Around} {outer : List Env} {s : Shared} {H : Hp} {E : XK} (hr : Room 2 (A.deeper (PyProof.Rows.envOfC "statement_in" (defScope s_statement_in) s.heap.objs.size Z.a_statement_in cdv))) :
    PSs (cxOf CX0 P w K mg base N_statement_in "statement_in" (defScope s_statement_in) Z.a_statement_in cdv A outer s H E).nox (defBody s_statement_in) (t_statement_in Z) := by
  have hu := hu_of hr
  have hu64 := hr.units
  have hu66 := hu66_of hr
  exact (pss_cons (ps_par (i := 1) (j := 2) rfl sc_statement_in.nd rfl rfl (by decide) rfl rfl (pa_cons (pe_lst (pa_cons (pv 0) pa_nil)) (pa_cons pe_int pa_nil)) rfl)
    (pss_cons (ps_while PassesOwn.never (pt_cmpR (op_neU hu64) (pv 1) (pe_lst pa_nil) (nomark _))
    (pss_cons (ps_par (i := 3) (j := 2) rfl sc_statement_in.nd rfl rfl (by decide) rfl rfl (pa_cons (pe_bm0 PySem.F.plainAttrs_list PySem.F.slot_list_pop PySem.F.type_list_pop mt_pop (pv 1)) (pa_cons (pe_op op_addU (pv 2) pe_int) pa_nil)) rfl)
    (pss_cons (ps_if (pt_cmpR op_gt (pv 2) (pe_gi rfl Z.g_MOST_PARTS) (nomark _))
    (pss_one (ps_ret pe_non))
    pss_nil)
    (pss_one (ps_if (pt_val (pe_callB call_isi (by rfl) Z.z_isinstance (by decide +kernel) (pa_cons (pv 3) (pa_cons (pe_bltn rfl Z.z_str (by decide +kernel) rfl) pa_nil))))
    (pss_one (ps_if (PW.pt (pw_and (pt_cmpR (op_ninV hu) (pv 3) (pe_gr rfl Z.g_BARE) rfl) (pw_and1 (pt_not (pt_val (pe_call (ok_is_name Z) (hr.mono (by decide)) rfl Z.m_is_name Z.F_is_name.kp Z.b_is_name .nil pass0 (pa_cons (pv 3) pa_nil)))))))
    (pss_one (ps_ret pe_non))
    pss_nil))
    (pss_one (ps_if (PW.pt (pw_and (pt_val (pe_callB call_isiT (by rfl) Z.z_isinstance (by decide +kernel) (pa_cons (pv 3) (pa_cons (pe_tup (pa_cons (pe_bltn rfl Z.z_list (by decide +kernel) rfl) (pa_cons (pe_bltn rfl Z.z_tuple (by decide +kernel) rfl) pa_nil))) pa_nil)))) (pw_and (pt_cmpR (op_eqU hu64) (pe_callB call_lenA (by rfl) Z.z_len (by decide +kernel) (pa_cons (pv 3) pa_nil)) pe_int (nomark _)) (pw_and (pt_val (pe_callB call_isi (by rfl) Z.z_isinstance (by decide +kernel) (pa_cons (pe_ix ix_seq (pv 3) pe_int (fun _ _ => rfl)) (pa_cons (pe_bltn rfl Z.z_str (by decide +kernel) rfl) pa_nil)))) (pw_and1 (pt_cmpR (op_inV hu) (pe_ix ix_seq (pv 3) pe_int (fun _ _ => rfl)) (pe_gr rfl Z.g_JOINS) rfl))))))
    (pss_one (ps_expr (pe_bm PySem.F.plainAttrs_list PySem.F.slot_list_extend PySem.F.type_list_extend mt_extend (pv 1) (pa_cons (pe_lst (pa_cons (pe_ix ix_seq (pv 3) pe_int (fun _ _ => rfl)) (pa_cons (pe_ix ix_seq (pv 3) pe_int (fun _ _ => rfl)) pa_nil))) pa_nil))))
    (pss_one (ps_ret pe_non)))))))))
    (pss_one (ps_ret (pe_call (ok_fixed Z) (hr.mono (by decide)) rfl Z.m_fixed Z.F_fixed.kp Z.b_fixed .nil pass0 (pa_cons (pv 0) pa_nil))))))
theorem rd_statement_in {K : PySem.W.Frag} {mg : Str → Option Value} (Z : Fs K mg) {vs : List V} {H : Hp} {Q : VK} {E : XK} (h : sp_statement_in K vs H Q E) : t_statement_in Z { nx := fun _ H' => Q .non H', rt := Q } (L2.start N_statement_in vs) H := by
  refine fnP1 h (by decide) fun S0 d σ G hp st k => ?_
  obtain ⟨s, hs, hz⟩ := hp
  cases (show d = .str s from hs)
  have hk : kn (.str s) := by unfold kn; intro z; cases z
  have ret0 : isStmt s = false → ∀ (σ : St) (S : Wd) (l : En) (G' : Ends), G'.rt = G.rt → Sta K none S0 S0.F N_statement_in.length 0 0 σ S l → tRet (tC .non) G' σ S.H := fun e σ S l G' hg st' => by
    refine s_ret st' ed_non (fun v S' g ht r => ?_)
    rw [hg]
    refine k v S' g ht ?_
    show Rp K S'.F v (if isStmt s = true then _ else _)
    rw [e, if_neg Bool.false_ne_true]
    exact r
  have par1 : EvO K none (tLst (tCons (tVar 0) tNil)) σ S0 [.str s] := eo_lst (ea_cons (ed_var st rfl) ea_nil) (by rw [sizeLine_eq]; exact Nat.le_of_ble_eq_true rfl)
  refine s_seq (s_par st par1.x ed_int.x (by decide) (by decide) (by decide) (Nat.le_refl _) fun t1 t2 σ1 S1 e1 e2 st1 => ?_)
  subst e1
  subst e2
  refine s_seq (s_while (α := Bool) (fun a => a = false → isStmt s = true) (fun a => if a = true then [(1, .own [.str s]), (2, .dat (.int 0)), (0, .dat (.str s))] else [(1, .own []), (2, .dat (.int 1)), (0, .dat (.str s))]) (fun a => if a = true then 1 else 0) (fun a => a) true st1 (fun z => by cases z) ⟨rfl, rfl, rfl, True.intro⟩ (fun a σ S _ st2 => ?_) (fun a σ S _ ha st2 D' hrt nx _ _ => ?_) (fun a σ S ia hf st2 => ?_))
  · cases a
    · exact et_test (ed_op (eh_var st2 rfl) (EvO.h (eo_lst ea_nil (Nat.zero_le _))) rd_neNil)
    · exact et_test (ed_op (eh_var st2 rfl) (EvO.h (eo_lst ea_nil (Nat.zero_le _))) rd_neNil)
  · have ha : a = true := ha
    subst ha
    refine s_seq (s_popPar (c := 1) (ds := []) (d := .str s) (d2 := .int (0 + 1)) st2 rfl (by decide) (by decide) (by decide) (fun S' st' => ed_op (EvD.h (ed_var st' rfl)) (EvD.h ed_int) rd_add) fun σ3 S3 st3 => ?_)
    refine s_seq (s_if (b := false) st3 (et_test (EvD.is (ed_op (EvD.h (ed_var st3 rfl)) (EvD.h ed_int) rd_B0) rfl)) (fun hb S4 st4 => by cases hb) (fun _ S4 st4 => ?_))
    refine s_next ?_
    dsimp only
    refine s_if st4 (et_B (ed_isi (EvD.h (ed_var st4 rfl)) (kn_str hk))) (fun _ S5 st5 => ?_) (fun hb S5 st5 => by cases hb)
    have hb1 : EvD K none (tC (.ref Z.a_BARE)) σ3 S5 (.tup ((["nothing", "any", "no"] : List Str).map D.str)) := ed_c Z.t_BARE.rp
    have hb2 : EvD K none (tCall (sp_is_name K) [] E0 (tCons (tVar 3) tNil)) σ3 S5 (.bl (isNameS s)) := ed_call (ds := [.str s]) (ea_cons (ed_var st5 rfl) ea_nil) rfl (show kns (.str s) from ⟨hk, fun s' e => by cases e; exact hz⟩)
    refine s_if st5 (EvT.is (et_and (et_test (ed_op (EvD.h (ed_var st5 rfl)) hb1.h (rd_ninT2 rfl (flat_strs _)))) fun _ => et_not (et_B hb2)) (b := !isStmt s) ?_) (fun hb S6 st6 => ?_) (fun hb S6 st6 => ?_)
    · rw [inD_strs]
      unfold isStmt
      rw [Bool.not_or]
    · exact ret0 (by simpa using hb) _ _ _ _ hrt st6
    · refine s_next ?_
      exact nx false _ S6 _ (fun _ => by simpa using hb) (by decide) st6 ⟨rfl, rfl, rfl, True.intro⟩
  · have hf : a = false := hf
    subst hf
    refine s_ret st2 (EvD.is (ed_call (ds := [.str s]) (ea_cons (ed_var st2 rfl) ea_nil) rfl ⟨s, rfl⟩) ?_) k
    show D.str s = if isStmt s = true then _ else _
    rw [ia rfl, if_pos rfl]
    rfl
theorem ok_statement_in {P : Program} {w : World} {K : PySem.W.Frag} {mg : Str → Option Value} {base : Heap} (Z : Fs K mg) : FnOk P w K mg base CX0 3 Z.a_statement_in Z.d_statement_in ["value"] (sp_statement_in K) :=
  Z.F_statement_in.ok sc_statement_in (fun _ _ _ _ h => by first | exact spP_len h | exact spN_len h | exact spPen_len h) (fun cdv A outer s H vs Q E hr h => ⟨t_statement_in Z, ps_statement_in Z hr, rd_statement_in Z h⟩)
/-! ## is_statement -/
abbrev N_is_statement : List Str := ["value"]
theorem sc_is_statement : FnScope N_is_statement ["value"] (defScope s_is_statement) := ⟨rfl, rfl, rfl, by decide +kernel, rfl, by decide +kernel, by decide +kernel⟩
abbrev sp_is_statement (K : PySem.W.Frag) : Sp := spP K 1 (fun ds => ∃ s : Str, h0 ds = .str s ∧ s.length ≤ 1000000) (fun ds => .bl (isStmt (keyS (h0 ds))))
def t_is_statement {K : PySem.W.Frag} {mg : Str → Option Value} (Z : Fs K mg) : TS :=
  (tRet (tOp rNotN (tCall (sp_statement_in K) [] E0 (tCons (tVar 0) tNil)) (tC .non)))
theorem ps_is_statement {P : Program} {w : World} {K : PySem.W.Frag} {mg : Str → Option Value} {base : Heap} (Z : Fs K mg) {cdv : Value} {A : Around} {outer : List Env} {s : Shared} {H : Hp} {E : XK} (hr : Room 3 (A.deeper (PyProof.Rows.envOfC "is_statement" (defScope s_is_statement) s.heap.objs.size Z.a_is_statement cdv))) :
    PSs (cxOf CX0 P w K mg base N_is_statement "is_statement" (defScope s_is_statement) Z.a_is_statement cdv A outer s H E).nox (defBody s_is_statement) (t_is_statement Z) := by
  have hu := hu_of hr
  have hu64 := hr.units
  have hu66 := hu66_of hr
  exact (pss_one (ps_ret (pe_cmpR op_notN (pe_call (ok_statement_in Z) (hr.mono (by decide)) rfl Z.m_statement_in Z.F_statement_in.kp Z.b_statement_in .nil pass0 (pa_cons (pv 0) pa_nil)) pe_non (nomark _))))
theorem rd_is_statement {K : PySem.W.Frag} {mg : Str → Option Value} (Z : Fs K mg) {vs : List V} {H : Hp} {Q : VK} {E : XK} (h : sp_is_statement K vs H Q E) : t_is_statement Z { nx := fun _ H' => Q .non H', rt := Q } (L2.start N_is_statement vs) H := by
  refine fnP1 h (by decide) fun S0 d σ G hp st k => ?_
  obtain ⟨s, hs, hz⟩ := hp
  cases (show d = .str s from hs)
  have c1 : EvD K none (tCall (sp_statement_in K) [] E0 (tCons (tVar 0) tNil)) σ S0 (if isStmt s = true then .str s else .non) := ed_call (ds := [.str s]) (ea_cons (ed_var st rfl) ea_nil) rfl ⟨s, rfl, hz⟩
  refine s_ret st (EvD.is (ed_op c1.h (EvD.h ed_non) (rd_notN (b := !isStmt s) ?_)) ?_) k
  · cases isStmt s <;> rfl
  · show D.bl (!!isStmt s) = D.bl (isStmt s)
    rw [Bool.not_not]
theorem ok_is_statement {P : Program} {w : World} {K : PySem.W.Frag} {mg : Str → Option Value} {base : Heap} (Z : Fs K mg) : FnOk P w K mg base CX0 4 Z.a_is_statement Z.d_is_statement ["value"] (sp_is_statement K) :=
  Z.F_is_statement.ok sc_is_statement (fun _ _ _ _ h => by first | exact spP_len h | exact spN_len h | exact spPen_len h) (fun cdv A outer s H vs Q E hr h => ⟨t_is_statement Z, ps_is_statement Z hr, rd_is_statement Z h⟩)
/-! ## _law_pen -/
abbrev N__law_pen : List Str := ["script", "cell"]
theorem sc__law_pen : FnScope N__law_pen ["script"] (defScope s__law_pen) := ⟨rfl, rfl, rfl, by decide +kernel, rfl, by decide +kernel, by decide +kernel⟩
abbrev sp__law_pen (K : PySem.W.Frag) : Sp := spPen K
def t__law_pen {K : PySem.W.Frag} {mg : Str → Option Value} (Z : Fs K mg) : TS :=
  (tRet (tLst (tCons (tLc (iList K (tSl (rSlL K) (tVar 0) tNoPart (tPart (tC (.int 63))))) (gName 1) tYes (tCB rInt1 (tCons (tVar 1) tNil)) [1]) (tCons (tC (.int 0)) (tCons (tC (.int 0)) tNil)))))
theorem ps__law_pen {P : Program} {w : World} {K : PySem.W.Frag} {mg : Str → Option Value} {base : Heap} (Z : Fs K mg) {cdv : Value} {A : Around} {outer : List Env} {s : Shared} {H : Hp} {E : XK} (hr : Room 0 (A.deeper (PyProof.Rows.envOfC "_law_pen" (defScope s__law_pen) s.heap.objs.size Z.a__law_pen cdv))) :
    PSs (cxOf CX0 P w K mg base N__law_pen "_law_pen" (defScope s__law_pen) Z.a__law_pen cdv A outer s H E).nox (defBody s__law_pen) (t__law_pen Z) := by
  have hu := hu_of hr
  have hu64 := hr.units
  have hu66 := hu66_of hr
  exact (pss_one (ps_ret (pe_lst (pa_cons (pe_lc (own := [("cell", 1)]) rfl sc__law_pen.nd (pi_list (pe_slice sl_list (pv 0) po_none (po_some pe_int))) (blkOk_by (own := [("cell", 1)]) (N := N__law_pen) (sc := defScope s__law_pen) (by decide +kernel)) (fun _ _ _ _ _ => (pg_name (i := 1) sc__law_pen.nd rfl (Or.inl rfl))) (fun _ _ _ _ _ => pts_nil) (fun _ _ _ _ _ => (pe_callTy call_int1 (by rfl) Z.z_int (by decide +kernel) (pa_cons (pv 1) pa_nil)))) (pa_cons pe_int (pa_cons pe_int pa_nil))))))
theorem rd__law_pen {K : PySem.W.Frag} {mg : Str → Option Value} (Z : Fs K mg) {vs : List V} {H : Hp} {Q : VK} {E : XK} (h : sp__law_pen K vs H Q E) : t__law_pen Z { nx := fun _ H' => Q .non H', rt := Q } (L2.start N__law_pen vs) H := by
  show penT K _ _ _
  exact pen_run h rfl
theorem ok__law_pen {P : Program} {w : World} {K : PySem.W.Frag} {mg : Str → Option Value} {base : Heap} (Z : Fs K mg) : FnOk P w K mg base CX0 1 Z.a__law_pen Z.d__law_pen ["script"] (sp__law_pen K) :=
  Z.F__law_pen.ok sc__law_pen (fun _ _ _ _ h => by first | exact spP_len h | exact spN_len h | exact spPen_len h) (fun cdv A outer s H vs Q E hr h => ⟨t__law_pen Z, ps__law_pen Z hr, rd__law_pen Z h⟩)
/-! ## _law_draw -/
abbrev N__law_draw : List Str := ["pen", "many", "rest", "turn", "cell", "mixed"]
theorem sc__law_draw : FnScope N__law_draw ["pen", "many"] (defScope s__law_draw) := ⟨rfl, rfl, rfl, by decide +kernel, rfl, by decide +kernel, by decide +kernel⟩
abbrev sp__law_draw (K : PySem.W.Frag) : Sp := spDraw K
def t__law_draw {K : PySem.W.Frag} {mg : Str → Option Value} (Z : Fs K mg) : TS :=
  (tSeq (tIfS (tTest (tOp (rI0 fun i j => .bl (decide (j < i))) (tOp (rIx K) (tVar 0) (tC (.int 2))) (tC (.int 0))))
    (tSeq (tAsg (tCB rInt1 (tCons (tOp (rIx K) (tVar 0) (tC (.int 2))) tNil)) (gName 2))
    (tSeq (tAsg (tOp (rI CDiv fun i j => .int (i / j)) (tVar 2) (tVar 1)) (gSub (tVar 0) (tC (.int 2)) rSetL))
    (tRet (tOp (rI (fun _ j => 0 < j) fun i j => .int (i % j)) (tCB rInt1 (tCons (tVar 2) tNil)) (tVar 1)))))
    tNext)
    (tSeq (tAsg (tOp (rIx K) (tVar 0) (tC (.int 1))) (gName 3))
    (tSeq (tAsg (tOp (rAddU K) (tVar 3) (tC (.int 1))) (gSub (tVar 0) (tC (.int 1)) rSetL))
    (tSeq (tAsg (tOp (rAddU K) (tOp rMulU (tC (.int 52711)) (tVar 3)) (tC (.int 9241))) (gName 4))
    (tSeq (tIfS (tTest (tOp (rNeU K) (tOp (rIx K) (tVar 0) (tC (.int 0))) (tLst tNil)))
    (tAsg (tOp (rIx K) (tOp (rIx K) (tVar 0) (tC (.int 0))) (tOp (rI (fun _ j => 0 < j) fun i j => .int (i % j)) (tCB rInt1 (tCons (tVar 3) tNil)) (tCB (rLenA K) (tCons (tOp (rIx K) (tVar 0) (tC (.int 0))) tNil)))) (gName 4))
    tNext)
    (tSeq (tIfS (tAnd (tTest (tOp (rI0 fun i j => .bl (decide (i < j))) (tVar 3) (tCB (rLenA K) (tCons (tOp (rIx K) (tVar 0) (tC (.int 0))) tNil)))) (tTest (tOp (rI0 fun i j => .bl (decide (j ≤ i))) (tCB rAbs (tCons (tVar 4) tNil)) (tOp (rI CPowI fun i j => .int (i ^ j.toNat)) (tC (.int 10)) (tC (.int 18))))))
    (tSeq (tAsg (tOp (rAddU K) (tOp rMulU (tC (.int 2)) (tOp (rI0 fun i j => .int (i - j)) (tCB rAbs (tCons (tVar 4) tNil)) (tOp (rI CPowI fun i j => .int (i ^ j.toNat)) (tC (.int 10)) (tC (.int 18))))) (tCB rInt1 (tCons (tOp (rI0 fun i j => .bl (decide (i < j))) (tVar 4) (tC (.int 0))) tNil))) (gName 2))
    (tSeq (tAsg (tOp (rI CDiv fun i j => .int (i / j)) (tCB rInt1 (tCons (tVar 2) tNil)) (tVar 1)) (gSub (tVar 0) (tC (.int 2)) rSetL))
    (tRet (tOp (rI (fun _ j => 0 < j) fun i j => .int (i % j)) (tCB rInt1 (tCons (tVar 2) tNil)) (tVar 1)))))
    tNext)
    (tSeq (tAsg (tOp (rI (fun _ j => 0 < j) fun i j => .int (i % j)) (tCB rInt1 (tCons (tOp (rI CPowI fun i j => .int (i ^ j.toNat)) (tOp (rAddU K) (tOp (rAddU K) (tOp (rI (fun _ j => 0 < j) fun i j => .int (i % j)) (tCB rInt1 (tCons (tVar 4) tNil)) (tC (.int 2147483549))) (tOp rMulU (tC (.int 52711)) (tVar 3))) (tC (.int 9241))) (tC (.int 5))) tNil)) (tC (.int 2147483629))) (gName 5))
    (tSeq (tAsg (tOp (rI (fun _ j => 0 < j) fun i j => .int (i % j)) (tCB rInt1 (tCons (tOp (rI CPowI fun i j => .int (i ^ j.toNat)) (tOp (rAddU K) (tOp (rAddU K) (tOp rMulU (tVar 5) (tOp (rAddU K) (tOp rMulU (tC (.int 2)) (tVar 3)) (tC (.int 6007)))) (tOp rMulU (tOp rMulU (tC (.int 41011)) (tVar 3)) (tVar 3))) (tC (.int 52711))) (tC (.int 3))) tNil)) (tC (.int 2147483587))) (gName 5))
    (tRet (tOp (rI (fun _ j => 0 < j) fun i j => .int (i % j)) (tCB rInt1 (tCons (tOp (rI CDiv fun i j => .int (i / j)) (tVar 5) (tC (.int 64))) tNil)) (tVar 1)))))))))))
theorem ps__law_draw {P : Program} {w : World} {K : PySem.W.Frag} {mg : Str → Option Value} {base : Heap} (Z : Fs K mg) {cdv : Value} {A : Around} {outer : List Env} {s : Shared} {H : Hp} {E : XK} (hr : Room 0 (A.deeper (PyProof.Rows.envOfC "_law_draw" (defScope s__law_draw) s.heap.objs.size Z.a__law_draw cdv))) :
    PSs (cxOf CX0 P w K mg base N__law_draw "_law_draw" (defScope s__law_draw) Z.a__law_draw cdv A outer s H E).nox (defBody s__law_draw) (t__law_draw Z) := by
  have hu := hu_of hr
  have hu64 := hr.units
  have hu66 := hu66_of hr
  exact (pss_cons (ps_if (pt_cmpR op_gt (pe_ix ix_seq (pv 0) pe_int (fun _ _ => rfl)) pe_int (nomark _))
    (pss_cons (ps_set (i := 2) sc__law_draw.nd rfl (Or.inl rfl) (pe_callTy call_int1 (by rfl) Z.z_int (by decide +kernel) (pa_cons (pe_ix ix_seq (pv 0) pe_int (fun _ _ => rfl)) pa_nil)))
    (pss_cons (ps_asg (pe_op op_fdiv (pv 2) (pv 1)) (pg_sub (pv 0) pe_int set_list))
    (pss_one (ps_ret (pe_op op_mod (pe_callTy call_int1 (by rfl) Z.z_int (by decide +kernel) (pa_cons (pv 2) pa_nil)) (pv 1))))))
    pss_nil)
    (pss_cons (ps_set (i := 3) sc__law_draw.nd rfl (Or.inl rfl) (pe_ix ix_seq (pv 0) pe_int (fun _ _ => rfl)))
    (pss_cons (ps_asg (pe_op op_addU (pv 3) pe_int) (pg_sub (pv 0) pe_int set_list))
    (pss_cons (ps_set (i := 4) sc__law_draw.nd rfl (Or.inl rfl) (pe_op op_addU (pe_op op_mulU pe_int (pv 3)) pe_int))
    (pss_cons (ps_if (pt_cmpR (op_neU hu64) (pe_ix ix_seq (pv 0) pe_int (fun _ _ => rfl)) (pe_lst pa_nil) (nomark _))
    (pss_one (ps_set (i := 4) sc__law_draw.nd rfl (Or.inl rfl) (pe_ix ix_seq (pe_ix ix_seq (pv 0) pe_int (fun _ _ => rfl)) (pe_op op_mod (pe_callTy call_int1 (by rfl) Z.z_int (by decide +kernel) (pa_cons (pv 3) pa_nil)) (pe_callB call_lenA (by rfl) Z.z_len (by decide +kernel) (pa_cons (pe_ix ix_seq (pv 0) pe_int (fun _ _ => rfl)) pa_nil))) (fun _ _ => rfl))))
    pss_nil)
    (pss_cons (ps_if (PW.pt (pw_and (pt_cmpR op_lt (pv 3) (pe_callB call_lenA (by rfl) Z.z_len (by decide +kernel) (pa_cons (pe_ix ix_seq (pv 0) pe_int (fun _ _ => rfl)) pa_nil)) (nomark _)) (pw_and1 (pt_cmpR op_ge (pe_callB call_abs (by rfl) Z.z_abs (by decide +kernel) (pa_cons (pv 4) pa_nil)) (pe_op op_powI pe_int pe_int) (nomark _)))))
    (pss_cons (ps_set (i := 2) sc__law_draw.nd rfl (Or.inl rfl) (pe_op op_addU (pe_op op_mulU pe_int (pe_op op_sub (pe_callB call_abs (by rfl) Z.z_abs (by decide +kernel) (pa_cons (pv 4) pa_nil)) (pe_op op_powI pe_int pe_int))) (pe_callTy call_int1 (by rfl) Z.z_int (by decide +kernel) (pa_cons (pe_cmpR op_lt (pv 4) pe_int (nomark _)) pa_nil))))
    (pss_cons (ps_asg (pe_op op_fdiv (pe_callTy call_int1 (by rfl) Z.z_int (by decide +kernel) (pa_cons (pv 2) pa_nil)) (pv 1)) (pg_sub (pv 0) pe_int set_list))
    (pss_one (ps_ret (pe_op op_mod (pe_callTy call_int1 (by rfl) Z.z_int (by decide +kernel) (pa_cons (pv 2) pa_nil)) (pv 1))))))
    pss_nil)
    (pss_cons (ps_set (i := 5) sc__law_draw.nd rfl (Or.inl rfl) (pe_op op_mod (pe_callTy call_int1 (by rfl) Z.z_int (by decide +kernel) (pa_cons (pe_op op_powI (pe_op op_addU (pe_op op_addU (pe_op op_mod (pe_callTy call_int1 (by rfl) Z.z_int (by decide +kernel) (pa_cons (pv 4) pa_nil)) pe_int) (pe_op op_mulU pe_int (pv 3))) pe_int) pe_int) pa_nil)) pe_int))
    (pss_cons (ps_set (i := 5) sc__law_draw.nd rfl (Or.inl rfl) (pe_op op_mod (pe_callTy call_int1 (by rfl) Z.z_int (by decide +kernel) (pa_cons (pe_op op_powI (pe_op op_addU (pe_op op_addU (pe_op op_mulU (pv 5) (pe_op op_addU (pe_op op_mulU pe_int (pv 3)) pe_int)) (pe_op op_mulU (pe_op op_mulU pe_int (pv 3)) (pv 3))) pe_int) pe_int) pa_nil)) pe_int))
    (pss_one (ps_ret (pe_op op_mod (pe_callTy call_int1 (by rfl) Z.z_int (by decide +kernel) (pa_cons (pe_op op_fdiv (pv 5) pe_int) pa_nil)) (pv 1))))))))))))
theorem rd__law_draw {K : PySem.W.Frag} {mg : Str → Option Value} (Z : Fs K mg) {vs : List V} {H : Hp} {Q : VK} {E : XK} (h : sp__law_draw K vs H Q E) : t__law_draw Z { nx := fun _ H' => Q .non H', rt := Q } (L2.start N__law_draw vs) H := by
  show drawT K 52711 9241 52711 9241 6007 41011 52711 _ _ _
  exact draw_run h rfl (by decide) (by decide) (by decide) (by decide) (by decide) (by decide) (by decide)
theorem ok__law_draw {P : Program} {w : World} {K : PySem.W.Frag} {mg : Str → Option Value} {base : Heap} (Z : Fs K mg) : FnOk P w K mg base CX0 1 Z.a__law_draw Z.d__law_draw ["pen", "many"] (sp__law_draw K) :=
  Z.F__law_draw.ok sc__law_draw (fun _ _ _ _ h => by first | exact spP_len h | exact spN_len h | exact spPen_len h) (fun cdv A outer s H vs Q E hr h => ⟨t__law_draw Z, ps__law_draw Z hr, rd__law_draw Z h⟩)
/-! ## _law_pick -/
abbrev N__law_pick : List Str := ["pen", "some"]
theorem sc__law_pick : FnScope N__law_pick ["pen", "some"] (defScope s__law_pick) := ⟨rfl, rfl, rfl, by decide +kernel, rfl, by decide +kernel, by decide +kernel⟩
abbrev sp__law_pick (K : PySem.W.Frag) : Sp := spPick K
def t__law_pick {K : PySem.W.Frag} {mg : Str → Option Value} (Z : Fs K mg) : TS :=
  (tRet (tOp (rIx K) (tVar 1) (tCall (sp__law_draw K) [] E0 (tCons (tVar 0) (tCons (tCB (rLenA K) (tCons (tVar 1) tNil)) tNil)))))
theorem ps__law_pick {P : Program} {w : World} {K : PySem.W.Frag} {mg : Str → Option Value} {base : Heap} (Z : Fs K mg) {cdv : Value} {A : Around} {outer : List Env} {s : Shared} {H : Hp} {E : XK} (hr : Room 1 (A.deeper (PyProof.Rows.envOfC "_law_pick" (defScope s__law_pick) s.heap.objs.size Z.a__law_pick cdv))) :
    PSs (cxOf CX0 P w K mg base N__law_pick "_law_pick" (defScope s__law_pick) Z.a__law_pick cdv A outer s H E).nox (defBody s__law_pick) (t__law_pick Z) := by
  have hu := hu_of hr
  have hu64 := hr.units
  have hu66 := hu66_of hr
  exact (pss_one (ps_ret (pe_ix ix_seq (pv 1) (pe_call (ok__law_draw Z) (hr.mono (by decide)) rfl Z.m__law_draw Z.F__law_draw.kp Z.b__law_draw .nil pass0 (pa_cons (pv 0) (pa_cons (pe_callB call_lenA (by rfl) Z.z_len (by decide +kernel) (pa_cons (pv 1) pa_nil)) pa_nil))) (fun _ _ => rfl))))
theorem rd__law_pick {K : PySem.W.Frag} {mg : Str → Option Value} (Z : Fs K mg) {vs : List V} {H : Hp} {Q : VK} {E : XK} (h : sp__law_pick K vs H Q E) : t__law_pick Z { nx := fun _ H' => Q .non H', rt := Q } (L2.start N__law_pick vs) H := by
  show pickT K _ _ _
  exact pick_run h rfl
theorem ok__law_pick {P : Program} {w : World} {K : PySem.W.Frag} {mg : Str → Option Value} {base : Heap} (Z : Fs K mg) : FnOk P w K mg base CX0 2 Z.a__law_pick Z.d__law_pick ["pen", "some"] (sp__law_pick K) :=
  Z.F__law_pick.ok sc__law_pick (fun _ _ _ _ h => by first | exact spP_len h | exact spN_len h | exact spPen_len h) (fun cdv A outer s H vs Q E hr h => ⟨t__law_pick Z, ps__law_pick Z hr, rd__law_pick Z h⟩)
/-! ## _law_words -/
abbrev N__law_words : List Str := []
theorem sc__law_words : FnScope N__law_words [] (defScope s__law_words) := ⟨rfl, rfl, rfl, by decide +kernel, rfl, by decide +kernel, by decide +kernel⟩
abbrev sp__law_words (K : PySem.W.Frag) : Sp := spP K 0 (fun _ => True) (fun _ => .lst (words.map D.str))
def t__law_words {K : PySem.W.Frag} {mg : Str → Option Value} (Z : Fs K mg) : TS :=
  (tRet (tM1 rSplit (tC (.str "both gives pick or nothing any no split call take open use never give box pair fun offer left right unit rest first second")) (tC (.str " "))))
theorem ps__law_words {P : Program} {w : World} {K : PySem.W.Frag} {mg : Str → Option Value} {base : Heap} (Z : Fs K mg) {cdv : Value} {A : Around} {outer : List Env} {s : Shared} {H : Hp} {E : XK} (hr : Room 0 (A.deeper (PyProof.Rows.envOfC "_law_words" (defScope s__law_words) s.heap.objs.size Z.a__law_words cdv))) :
    PSs (cxOf CX0 P w K mg base N__law_words "_law_words" (defScope s__law_words) Z.a__law_words cdv A outer s H E).nox (defBody s__law_words) (t__law_words Z) := by
  have hu := hu_of hr
  have hu64 := hr.units
  have hu66 := hu66_of hr
  exact (pss_one (ps_ret (pe_split pe_str pe_str)))
theorem rd__law_words {K : PySem.W.Frag} {mg : Str → Option Value} (Z : Fs K mg) {vs : List V} {H : Hp} {Q : VK} {E : XK} (h : sp__law_words K vs H Q E) : t__law_words Z { nx := fun _ H' => Q .non H', rt := Q } (L2.start N__law_words vs) H := by
  refine fnP h (by decide) fun S0 ds σ G hn hp st k => ?_
  refine s_ret st (EvD.is (EvO.ed (eo_split ed_str ed_str rfl (by rw [sizeLine_eq]; decide))) ?_) k
  show D.lst _ = D.lst (words.map D.str)
  congr 2
  decide +kernel
theorem ok__law_words {P : Program} {w : World} {K : PySem.W.Frag} {mg : Str → Option Value} {base : Heap} (Z : Fs K mg) : FnOk P w K mg base CX0 1 Z.a__law_words Z.d__law_words [] (sp__law_words K) :=
  Z.F__law_words.ok sc__law_words (fun _ _ _ _ h => by first | exact spP_len h | exact spN_len h | exact spPen_len h) (fun cdv A outer s H vs Q E hr h => ⟨t__law_words Z, ps__law_words Z hr, rd__law_words Z h⟩)
/-! ## _law_is_name -/
abbrev N__law_is_name : List Str := ["value", "sign"]
theorem sc__law_is_name : FnScope N__law_is_name ["value"] (defScope s__law_is_name) := ⟨rfl, rfl, rfl, by decide +kernel, rfl, by decide +kernel, by decide +kernel⟩
abbrev sp__law_is_name (K : PySem.W.Frag) : Sp := spP K 1 (fun ds => kns (h0 ds)) (fun ds => .bl (isNameD (h0 ds)))
def t__law_is_name {K : PySem.W.Frag} {mg : Str → Option Value} (Z : Fs K mg) : TS :=
  (tSeq (tIfS (tOr (tNot (tB (tCB (rIsi K) (tCons (tVar 0) (tCons (tC (.ty "str")) tNil))))) (tOr (tTest (tOp (rInV K) (tVar 0) (tCall (sp__law_words K) [] E0 tNil))) (tNot (tTest (tChain (rI0 fun i j => .bl (decide (i ≤ j))) (rI0 fun i j => .bl (decide (i ≤ j))) (tC (.int 1)) (tCB (rLenA K) (tCons (tVar 0) tNil)) (tC (.int 8)))))))
    (tRet (tC (.bl false)))
    tNext)
    (tRet (tOp (rEqU K) (tLc (iStr (tVar 0)) (gName 1) (tTest (tOp (rNinV K) (tVar 1) (tC (.str "abcdefghijklmnopqrstuvwxyz")))) (tVar 1) [1]) (tLst tNil))))
theorem ps__law_is_name {P : Program} {w : World} {K : PySem.W.Frag} {mg : Str → Option Value} {base : Heap} (Z : Fs K mg) {cdv : Value} {A : Around} {outer : List Env} {s : Shared} {H : Hp} {E : XK} (hr : Room 1 (A.deeper (PyProof.Rows.envOfC "_law_is_name" (defScope s__law_is_name) s.heap.objs.size Z.a__law_is_name cdv))) :
    PSs (cxOf CX0 P w K mg base N__law_is_name "_law_is_name" (defScope s__law_is_name) Z.a__law_is_name cdv A outer s H E).nox (defBody s__law_is_name) (t__law_is_name Z) := by
  have hu := hu_of hr
  have hu64 := hr.units
  have hu66 := hu66_of hr
  exact (pss_cons (ps_if (PW.pt (pw_or (pt_not (pt_val (pe_callB call_isi (by rfl) Z.z_isinstance (by decide +kernel) (pa_cons (pv 0) (pa_cons (pe_bltn rfl Z.z_str (by decide +kernel) rfl) pa_nil))))) (pw_or (pt_cmpR (op_inV hu) (pv 0) (pe_call0 (ok__law_words Z) (hr.mono (by decide)) rfl Z.m__law_words Z.F__law_words.kp Z.b__law_words .nil pass0) rfl) (pw_or1 (pt_not (pt_chain op_le op_le pe_int (pe_callB call_lenA (by rfl) Z.z_len (by decide +kernel) (pa_cons (pv 0) pa_nil)) pe_int))))))
    (pss_one (ps_ret pe_bl))
    pss_nil)
    (pss_one (ps_ret (pe_cmpR (op_eqU hu64) (pe_lc (own := [("sign", 1)]) rfl sc__law_is_name.nd (pi_str (pv 0)) (blkOk_by (own := [("sign", 1)]) (N := N__law_is_name) (sc := defScope s__law_is_name) (by decide +kernel)) (fun _ _ _ _ _ => (pg_name (i := 1) sc__law_is_name.nd rfl (Or.inl rfl))) (fun _ _ _ _ _ => (pts_one (pt_cmpR (op_ninV hu) (pv 1) pe_str rfl))) (fun _ _ _ _ _ => (pv 1))) (pe_lst pa_nil) (nomark _)))))
theorem no_odd (s : Str) : ((signs s).filter fun d => !isLetD d).isEmpty = s.cps.toList.all isLet := by
  unfold signs
  generalize s.cps.toList = l
  induction l with
  | nil => rfl
  | cons c r ih =>
    rw [List.map_cons, List.filter_cons, List.all_cons]
    have e : isLetD (.str ⟨#[c]⟩) = isLet c := by
      show [c].all isLet = isLet c
      rw [List.all_cons, List.all_nil, Bool.and_true]
    rw [e]
    cases isLet c with
    | true => simpa using ih
    | false => rfl
theorem rd__law_is_name {K : PySem.W.Frag} {mg : Str → Option Value} (Z : Fs K mg) {vs : List V} {H : Hp} {Q : VK} {E : XK} (h : sp__law_is_name K vs H Q E) : t__law_is_name Z { nx := fun _ H' => Q .non H', rt := Q } (L2.start N__law_is_name vs) H := by
  refine fnP1 h (by decide) fun S0 d σ G hp st k => ?_
  obtain ⟨hk, hl⟩ := hp
  have hk : kn d := hk
  have e1 := kn_str hk
  by_cases hs : ∃ s, d = .str s
  · obtain ⟨s, rfl⟩ := hs
    have hz := hl s rfl
    have hw : EvD K none (tCall (sp__law_words K) [] E0 tNil) σ S0 (.lst (words.map D.str)) := ed_call (ds := []) ea_nil rfl True.intro
    refine s_seq (s_if st (et_or (a := false) (EvT.is (et_not (et_B (ed_isi (by k_extra "eh") e1))) rfl) fun _ =>
      et_or (et_test (ed_op (by k_extra "eh") hw.h (rd_inL2 rfl (flat_strs words)))) fun _ => et_not (et_test (ed_chain (by k_extra "eh") (EvD.h (ed_cb (eh_cons (by k_extra "eh") eh_nil) (rl_S (le_line hz)))) rd_B0 (fun _ => by k_extra "eh") rd_B0))) (fun hb S1 st1 => ?_) (fun hb S1 st1 => ?_))
    · refine s_ret st1 (EvD.is ed_bl ?_) k
      show D.bl false = D.bl (isNameS s)
      rw [name_no]
      unfold nameTest
      rw [Bool.false_or, Bool.or_comm]
      exact hb
    · have hb' : nameTest s = false := by
        unfold nameTest
        rw [Bool.false_or, Bool.or_comm]
        exact hb
      refine s_next ?_
      dsimp only
      refine (s_ret st1 (EvD.is (ed_op (EvO.h (eo_lc (i := 1) (vs := [1]) (f := fun d => d) (b := fun d => !isLetD d) st1 (es_str (ed_var st1 rfl)) (by decide) (by decide) (fun d hd B' n' σ' S' st' => ⟨?_, fun _ => ed_var st' rfl⟩) (signs_len (lt_line hz)))) (EvO.h (eo_lst ea_nil (Nat.zero_le _))) rd_eqNil) ?_) k)
      · obtain ⟨c, rfl⟩ := signs_mem hd
        refine EvT.is (et_test (ed_op (EvD.h (ed_var st' rfl)) (by k_extra "eh") rd_ninS2)) ?_
        show (!_) = (!([c].all isLet))
        rw [List.all_cons, List.all_nil, Bool.and_true]
        rfl
      · show D.bl _ = D.bl (isNameS s)
        rw [name_yes hb', List.map_id']
        congr 1
        exact no_odd s
  · have e2 : isiD "str" d = some false := by
      rw [e1]
      cases d <;> first | rfl | exact absurd ⟨_, rfl⟩ hs
    refine s_seq (s_if st (et_orT (EvT.is (et_not (et_B (ed_isi (by k_extra "eh") e2))) rfl)) (fun hb S1 st1 => ?_) (fun hb S1 st1 => by cases hb))
    refine s_ret st1 (EvD.is ed_bl ?_) k
    show D.bl false = D.bl (isNameD d)
    cases d <;> first | rfl | exact absurd ⟨_, rfl⟩ hs
theorem ok__law_is_name {P : Program} {w : World} {K : PySem.W.Frag} {mg : Str → Option Value} {base : Heap} (Z : Fs K mg) : FnOk P w K mg base CX0 2 Z.a__law_is_name Z.d__law_is_name ["value"] (sp__law_is_name K) :=
  Z.F__law_is_name.ok sc__law_is_name (fun _ _ _ _ h => by first | exact spP_len h | exact spN_len h | exact spPen_len h) (fun cdv A outer s H vs Q E hr h => ⟨t__law_is_name Z, ps__law_is_name Z hr, rd__law_is_name Z h⟩)
/-! ## _law_text_drawn -/
abbrev N__law_text_drawn : List Str := ["pen", "signs", "turn"]
theorem sc__law_text_drawn : FnScope N__law_text_drawn ["pen"] (defScope s__law_text_drawn) := ⟨rfl, rfl, rfl, by decide +kernel, rfl, by decide +kernel, by decide +kernel⟩
abbrev sp__law_text_drawn (K : PySem.W.Frag) : Sp := spN K 0 12 (fun _ => True) (fun _ d => ∃ s : Str, d = .str s ∧ s.length ≤ 10)
def t__law_text_drawn {K : PySem.W.Frag} {mg : Str → Option Value} (Z : Fs K mg) : TS :=
  (tSeq (tAsg (tCall (sp__law_pick K) [] E0 (tCons (tVar 0) (tCons (tLst (tCons (tC (.str "abcdefghijklmnopqrstuvwxyz")) (tCons (tC (.str "az")) (tCons (tC (.str "abC")) (tCons (tC (.str "a b")) (tCons (tC (.str "a_1")) (tCons (tC (.str "a~")) (tCons (tC (.str "a{")) (tCons (tC (.str "a-")) tNil))))))))) tNil))) (gName 1))
    (tRet (tM1 (rJoin K) (tC (.str "")) (tLc (iRng1 (tCons (tCall (sp__law_draw K) [] E0 (tCons (tVar 0) (tCons (tC (.int 11)) tNil))) tNil)) (gName 2) tYes (tCall (sp__law_pick K) [] E0 (tCons (tVar 0) (tCons (tVar 1) tNil))) [2]))))
theorem ps__law_text_drawn {P : Program} {w : World} {K : PySem.W.Frag} {mg : Str → Option Value} {base : Heap} (Z : Fs K mg) {cdv : Value} {A : Around} {outer : List Env} {s : Shared} {H : Hp} {E : XK} (hr : Room 2 (A.deeper (PyProof.Rows.envOfC "_law_text_drawn" (defScope s__law_text_drawn) s.heap.objs.size Z.a__law_text_drawn cdv))) :
    PSs (cxOf CX0 P w K mg base N__law_text_drawn "_law_text_drawn" (defScope s__law_text_drawn) Z.a__law_text_drawn cdv A outer s H E).nox (defBody s__law_text_drawn) (t__law_text_drawn Z) := by
  have hu := hu_of hr
  have hu64 := hr.units
  have hu66 := hu66_of hr
  exact (pss_cons (ps_set (i := 1) sc__law_text_drawn.nd rfl (Or.inr rfl) (pe_call (ok__law_pick Z) (hr.mono (by decide)) rfl Z.m__law_pick Z.F__law_pick.kp Z.b__law_pick .nil pass0 (pa_cons (pv 0) (pa_cons (pe_lst (pa_cons pe_str (pa_cons pe_str (pa_cons pe_str (pa_cons pe_str (pa_cons pe_str (pa_cons pe_str (pa_cons pe_str (pa_cons pe_str pa_nil))))))))) pa_nil))))
    (pss_one (ps_ret (pe_join pe_str (pe_lc (own := [("turn", 2)]) rfl sc__law_text_drawn.nd (pi_range1 rfl Z.z_range (pa_cons (pe_call (ok__law_draw Z) (hr.mono (by decide)) rfl Z.m__law_draw Z.F__law_draw.kp Z.b__law_draw .nil pass0 (pa_cons (pv 0) (pa_cons pe_int pa_nil))) pa_nil)) (blkOk_by (own := [("turn", 2)]) (N := N__law_text_drawn) (sc := defScope s__law_text_drawn) (by decide +kernel)) (fun _ _ _ _ _ => (pg_name (i := 2) sc__law_text_drawn.nd rfl (Or.inl rfl))) (fun _ _ _ _ _ => pts_nil) (fun _ _ _ _ _ => (pe_call (ok__law_pick Z) (hr.mono (by decide)) rfl Z.m__law_pick Z.F__law_pick.kp Z.b__law_pick .nil pass0 (pa_cons (pv 0) (pa_cons (pv 1) pa_nil)))))))))
theorem signs_length (s : Str) : (signs s).length = s.length := by unfold signs; rw [List.length_map]; rfl
def txt26 : D → Bool
  | .str s => decide (1 ≤ s.length) && decide (s.length ≤ 26)
  | _ => false
theorem txt26_of {d : D} (h : txt26 d = true) : ∃ s, d = .str s ∧ 1 ≤ s.length ∧ s.length ≤ 26 := by
  cases d with
  | str s =>
    have h2 := Bool.and_eq_true_iff.mp h
    exact ⟨s, rfl, of_decide_eq_true h2.1, of_decide_eq_true h2.2⟩
  | _ => cases h
theorem map_str_inj : ∀ {a b : List Str}, a.map D.str = b.map D.str → a = b
  | [], [], _ => rfl
  | [], _ :: _, h => by cases h
  | _ :: _, [], h => by cases h
  | x :: a, y :: b, h => by
    rw [List.map_cons, List.map_cons] at h
    have h1 := (List.cons.inj h).1
    cases h1
    rw [map_str_inj (List.cons.inj h).2]
theorem rd__law_text_drawn {K : PySem.W.Frag} {mg : Str → Option Value} (Z : Fs K mg) {vs : List V} {H : Hp} {Q : VK} {E : XK} (h : sp__law_text_drawn K vs H Q E) : t__law_text_drawn Z { nx := fun _ H' => Q .non H', rt := Q } (L2.start N__law_text_drawn vs) H := by
  refine fnN h (by decide) fun S0 a ds σ G hn hp st k => ?_
  cases ds with
  | cons _ _ => cases hn
  | nil =>
  refine s_seq (s_N st (en_call (n := 1) (N := 1) (ds := [.lst _]) (ev_var st rfl) (ea_cons (EvO.ed (eo_lst (by k_extra "ea") (by rw [sizeLine_eq]; exact Nat.le_of_ble_eq_true rfl))) ea_nil) rfl ⟨_, rfl, (by intro z; cases z), Nat.le_of_ble_eq_true rfl⟩) (by decide) (by decide) fun d σ1 S1 hd st1 => ?_)
  obtain ⟨es, he, hd⟩ := hd
  cases he
  have hs : txt26 d = true := List.all_eq_true.mp (by decide +kernel) d hd
  obtain ⟨s, rfl, hs1, hs2⟩ := txt26_of hs
  have rg : EvSN K (some a) (iRng1 (tCons (tCall (sp__law_draw K) [] E0 (tCons (tVar 0) (tCons (tC (.int 11)) tNil))) tNil)) σ1 S1 1 (fun ds => ∃ z : Int, ds = rng 0 z.toNat ∧ 0 ≤ z ∧ z ≤ 10) := by
    have e := es_rng1N (P := fun d => ∃ z : Int, d = .int z ∧ z ≤ 10) (EvN.le (en_call (n := 1) (N := 1) (ds := [.int 11]) (ev_var st1 rfl) (ea_cons ed_int ea_nil) rfl ⟨11, rfl, by decide, by decide⟩ : EvN K (some a) (tCall (sp__law_draw K) [] E0 (tCons (tVar 0) (tCons (tC (.int 11)) tNil))) σ1 S1 1 _) (Nat.le_refl 1) (by
      rintro d ⟨r, m, rfl, hm, h1, h2⟩
      cases hm
      exact ⟨r, rfl, h1, by omega, r, rfl, by omega⟩))
    intro S2 g2 hb R q
    refine e S2 g2 hb R fun J ds S3 g3 t3 hds src => q J ds S3 g3 t3 ?_ src
    obtain ⟨z, e1, e2, z', e3, e4⟩ := hds
    cases e3
    exact ⟨z, e1, e2, e4⟩
  have lc := en_lcN (i := 2) (vs := [2]) (w := 1) (L := 10) (R := fun _ e => ∃ s : Str, e = .str s ∧ s.length ≤ 1) (te := tCall (sp__law_pick K) [] E0 (tCons (tVar 0) (tCons (tVar 1) tNil))) st1 rg (by decide) (by decide) (fun ds hds => by
      obtain ⟨z, rfl, _, h2⟩ := hds
      rw [rng_len]
      omega) (by rw [sizeLine_eq]; exact Nat.le_of_ble_eq_true rfl) (fun ds hds d hd B' n' σ' S' st' => by
    refine EvN.le (en_call (n := 1) (N := 1) (ds := [.str s]) (ev_var st' rfl) (ea_cons (ed_var st' rfl) ea_nil) rfl ⟨signs s, rfl, ?_, ?_⟩) (Nat.le_refl _) ?_
    · intro z
      have := congrArg List.length z
      rw [signs_length] at this
      rw [this] at hs1
      cases hs1
    · rw [signs_length]; omega
    · rintro e ⟨es, he, hd⟩
      cases he
      obtain ⟨c, rfl⟩ := signs_mem hd
      exact ⟨_, rfl, Nat.le_refl 1⟩)
  refine s_retN st1 (en_join ed_str lc ?_) (by decide) (fun v d S' hd g ht r => k v d S' ?_ g ht r)
  · rintro es ⟨ds, ⟨z, rfl, _, h2⟩, hl, hall⟩
    obtain ⟨ys, rfl, hys⟩ := strs_of (P := fun s => s.length ≤ 1) fun e he => (lc_all hl hall e he).choose_spec.2
    refine ⟨ys, rfl, ?_⟩
    rw [List.length_map, rng_len] at hl
    have q := sum_le hys
    show _ + ys.length * 0 ≤ _
    omega
  · obtain ⟨ys, ⟨ds, ⟨z, rfl, _, h2⟩, hl, hall⟩, rfl⟩ := hd
    obtain ⟨ys', e', hys⟩ := strs_of (P := fun s => s.length ≤ 1) fun e he => (lc_all hl hall e he).choose_spec.2
    have e2 : ys = ys' := map_str_inj e'
    subst e2
    rw [List.length_map, rng_len] at hl
    refine ⟨_, rfl, ?_⟩
    rw [TL.join_eq]
    have q := sum_le hys
    have q2 := join_len "" ys
    have q3 : ("" : Str).length = 0 := rfl
    rw [q3] at q2
    omega
theorem ok__law_text_drawn {P : Program} {w : World} {K : PySem.W.Frag} {mg : Str → Option Value} {base : Heap} (Z : Fs K mg) : FnOk P w K mg base CX0 3 Z.a__law_text_drawn Z.d__law_text_drawn ["pen"] (sp__law_text_drawn K) :=
  Z.F__law_text_drawn.ok sc__law_text_drawn (fun _ _ _ _ h => by first | exact spP_len h | exact spN_len h | exact spPen_len h) (fun cdv A outer s H vs Q E hr h => ⟨t__law_text_drawn Z, ps__law_text_drawn Z hr, rd__law_text_drawn Z h⟩)
/-! ## _law_order -/
abbrev N__law_order : List Str := ["taken", "many", "found", "size", "letters", "line", "turn", "sign", "one"]
theorem sc__law_order : FnScope N__law_order ["taken", "many"] (defScope s__law_order) := ⟨rfl, rfl, rfl, by decide +kernel, rfl, by decide +kernel, by decide +kernel⟩
abbrev sp__law_order (K : PySem.W.Frag) : Sp := spP K 2 preOrd (fun ds => .lst ((ordS (takenD (h0 ds)) (manyD (h1 ds))).map D.str))
def t__law_order {K : PySem.W.Frag} {mg : Str → Option Value} (Z : Fs K mg) : TS :=
  (tSeq (tPar 2 3 (tCons (tLst tNil) (tCons (tC (.int 1)) tNil)))
    (tSeq (tAsg (tC (.str "abcdefghijklmnopqrstuvwxyz")) (gName 4))
    (tSeq (tWhile (tTest (tOp (rI0 fun i j => .bl (decide (i < j))) (tCB (rLenA K) (tCons (tVar 2) tNil)) (tVar 1)))
    (tSeq (tAsg (tLst (tCons (tC (.str "")) tNil)) (gName 5))
    (tSeq (tFor (iRng1 (tCons (tVar 3) tNil)) (gName 6)
    (tAsg (tCB (rSumL K) (tCons (tLc (iList K (tVar 5)) (gName 8) tYes (tLc (iStr (tVar 4)) (gName 7) tYes (tOp (rAddU K) (tVar 8) (tVar 7)) [7]) [8]) (tCons (tLst tNil) tNil))) (gName 5)))
    (tSeq (tAsg (tOp (rAddU K) (tVar 2) (tLc (iList K (tVar 5)) (gName 8) (tAnd (tTest (tOp (rNinV K) (tVar 8) (tVar 0))) (tTest (tOp (rNinV K) (tVar 8) (tCall (sp__law_words K) [] E0 tNil)))) (tVar 8) [8])) (gName 2))
    (tAsg (tOp (rAddU K) (tVar 3) (tC (.int 1))) (gName 3))))))
    (tRet (tSl (rSlL K) (tVar 2) tNoPart (tPart (tVar 1)))))))
theorem ps__law_order {P : Program} {w : World} {K : PySem.W.Frag} {mg : Str → Option Value} {base : Heap} (Z : Fs K mg) {cdv : Value} {A : Around} {outer : List Env} {s : Shared} {H : Hp} {E : XK} (hr : Room 1 (A.deeper (PyProof.Rows.envOfC "_law_order" (defScope s__law_order) s.heap.objs.size Z.a__law_order cdv))) :
    PSs (cxOf CX0 P w K mg base N__law_order "_law_order" (defScope s__law_order) Z.a__law_order cdv A outer s H E).nox (defBody s__law_order) (t__law_order Z) := by
  have hu := hu_of hr
  have hu64 := hr.units
  have hu66 := hu66_of hr
  exact (pss_cons (ps_par (i := 2) (j := 3) rfl sc__law_order.nd rfl rfl (by decide) rfl rfl (pa_cons (pe_lst pa_nil) (pa_cons pe_int pa_nil)) rfl)
    (pss_cons (ps_set (i := 4) sc__law_order.nd rfl (Or.inr rfl) pe_str)
    (pss_cons (ps_while PassesOwn.never (pt_cmpR op_lt (pe_callB call_lenA (by rfl) Z.z_len (by decide +kernel) (pa_cons (pv 2) pa_nil)) (pv 1) (nomark _))
    (pss_cons (ps_set (i := 5) sc__law_order.nd rfl (Or.inl rfl) (pe_lst (pa_cons pe_str pa_nil)))
    (pss_cons (ps_for PassesOwn.never rfl (pi_range1 rfl Z.z_range (pa_cons (pv 3) pa_nil)) (pg_name (i := 6) sc__law_order.nd rfl (Or.inl rfl))
    (pss_one (ps_set (i := 5) sc__law_order.nd rfl (Or.inl rfl) (pe_callB (call_sumL rfl) (by rfl) Z.z_sum (by decide +kernel) (pa_cons (pe_lc (own := [("one", 8)]) rfl sc__law_order.nd (pi_list (pv 5)) (blkOk_by (own := [("one", 8)]) (N := N__law_order) (sc := defScope s__law_order) (by decide +kernel)) (fun _ _ _ _ _ => (pg_name (i := 8) sc__law_order.nd rfl (Or.inr rfl))) (fun _ _ _ _ _ => pts_nil) (fun _ _ _ _ _ => (pe_lc (own := [("sign", 7)]) rfl sc__law_order.nd (pi_str (pv 4)) (blkOk_by (own := [("sign", 7)]) (by rfl)) (fun _ _ _ _ _ => (pg_name (i := 7) sc__law_order.nd rfl (Or.inl rfl))) (fun _ _ _ _ _ => pts_nil) (fun _ _ _ _ _ => (pe_op op_addU (pv 8) (pv 7)))))) (pa_cons (pe_lst pa_nil) pa_nil))))))
    (pss_cons (ps_set (i := 2) sc__law_order.nd rfl (Or.inl rfl) (pe_op op_addU (pv 2) (pe_lc (own := [("one", 8)]) rfl sc__law_order.nd (pi_list (pv 5)) (blkOk_by (own := [("one", 8)]) (N := N__law_order) (sc := defScope s__law_order) (by decide +kernel)) (fun _ _ _ _ _ => (pg_name (i := 8) sc__law_order.nd rfl (Or.inl rfl))) (fun _ _ _ _ _ => (pts_one (PW.pt (pw_and (pt_cmpR (op_ninV hu) (pv 8) (pv 0) rfl) (pw_and1 (pt_cmpR (op_ninV hu) (pv 8) (pe_call0 (ok__law_words Z) (hr.mono (by decide)) rfl Z.m__law_words Z.F__law_words.kp Z.b__law_words .nil pass0) rfl)))))) (fun _ _ _ _ _ => (pv 8)))))
    (pss_one (ps_set (i := 3) sc__law_order.nd rfl (Or.inl rfl) (pe_op op_addU (pv 3) pe_int)))))))
    (pss_one (ps_ret (pe_slice sl_list (pv 2) po_none (po_some (pv 1))))))))
theorem Es_len : ∀ q, q ≤ 3 → (Es q).length ≤ 18278
  | 0, _ => Nat.zero_le _
  | 1, _ => by
    show ([] ++ lev 1).length ≤ _
    rw [List.nil_append, lev_L, List.length_map, levL_len]
    decide
  | 2, _ => by
    show ([] ++ lev 1 ++ lev 2).length ≤ _
    rw [List.nil_append, List.length_append, lev_L, lev_L, List.length_map, List.length_map, levL_len, levL_len]
    decide
  | 3, _ => by rw [Es3, W_len]; exact Nat.le_refl _
theorem lev_let : ∀ n, ∀ w ∈ lev n, w.cps.toList.all isLet = true
  | 0, w, h => by rw [List.mem_singleton.mp h]; rfl
  | n + 1, w, h => by
    obtain ⟨v, hv, hw⟩ := List.mem_flatMap.mp h
    obtain ⟨c, hc, rfl⟩ := List.mem_map.mp hw
    have e : (v ++ (⟨#[c]⟩ : Str)).cps.toList = v.cps.toList ++ [c] := by
      show (v.cps ++ #[c]).toList = _
      simp
    rw [e, List.all_append, lev_let n v hv, List.all_cons, List.all_nil, Bool.and_true, Bool.true_and]
    exact decide_eq_true hc
theorem ok_lev {ts : List Str} {n : Nat} {w : Str} (h1 : 1 ≤ n) (h2 : n ≤ 3) (hw : w ∈ lev n) : okIn ts w = (!ts.contains w && !words.contains w) := by
  have e := lev_len n w hw
  unfold okIn isNameS
  rw [lev_let n w hw, e, decide_eq_true h1, decide_eq_true (show n ≤ 8 by omega), Bool.true_and, Bool.true_and, Bool.and_true, Bool.and_comm]
theorem cut_take {xs : List D} {n : Nat} : cutL xs none (some (n : Int)) = xs.take n := by
  unfold cutL
  rw [HT.sIx_nat]
  show (xs.drop 0).take (min n xs.length - 0) = xs.take n
  rw [List.drop_zero, Nat.sub_zero]
  by_cases h : n ≤ xs.length
  · rw [Nat.min_eq_left h]
  · rw [Nat.min_eq_right (by omega), List.take_length, List.take_of_length_le (by omega)]
theorem rd__law_order {K : PySem.W.Frag} {mg : Str → Option Value} (Z : Fs K mg) {vs : List V} {H : Hp} {Q : VK} {E : XK} (h : sp__law_order K vs H Q E) : t__law_order Z { nx := fun _ H' => Q .non H', rt := Q } (L2.start N__law_order vs) H := by
  refine fnP2 h (by decide) fun S0 d e σ G hp st k => ?_
  obtain ⟨ts, many, hts, htl, hm, hmany, hd⟩ := hp
  cases (show e = .int (many : Int) from hm)
  have hd : d = .lst (ts.map D.str) ∨ ∃ kds : List (Key × D), d = .dic kds ∧ kds.map (·.1) = ts.map Sum.inr := hd
  have sz : 1000000 ≤ sizeLine := by rw [sizeLine_eq]; exact Nat.le_of_ble_eq_true rfl
  have hr : ordS (takenD d) many = ordS ts many := by rw [taken_eq hd]
  refine s_seq (s_par st (EvO.x (ds := []) (eo_lst ea_nil (Nat.zero_le _))) ed_int.x (by decide) (by decide) (by decide) (Nat.le_refl _) fun t1 t2 σ1 S1 e1 e2 st1 => ?_)
  subst e1
  subst e2
  dsimp only
  refine s_seq (s_dat st1 ed_str (by decide) fun σ2 S2 st2 => ?_)
  have eLen : ∀ q, q ≤ 3 → ((Es q).filter (okIn ts)).length ≤ 18278 := fun q hq => Nat.le_trans (List.length_filter_le _ _) (Es_len q hq)
  refine s_seq (s_while (α := Nat) (fun q => q ≤ 3) (fun q => [(2, .own (((Es q).filter (okIn ts)).map D.str)), (3, .dat (.int ((q + 1 : Nat) : Int))), (4, .dat (.str letters)), (0, .dat d), (1, .dat (.int (many : Int)))]) (fun q => 3 - q) (fun q => decide ((((Es q).filter (okIn ts)).length : Int) < (many : Int))) 0 st2 (Nat.zero_le _) ⟨rfl, rfl, rfl, rfl, rfl, True.intro⟩ (fun q σ S iq st3 => ?_) (fun q σ S iq hb st3 D' hrt nx _ _ => ?_) (fun q σ S iq hb st3 => ?_))
  · refine EvT.is (et_test (ed_op (EvD.h (ed_len (eh_var st3 rfl) (rl_L (by rw [List.length_map]; have := eLen q iq; omega)))) (EvD.h (ed_var st3 rfl)) rd_B0)) ?_
    rw [List.length_map]
  · have hlt : ((Es q).filter (okIn ts)).length < many := by have := of_decide_eq_true hb; omega
    have hq : q < 3 := by
      rcases Nat.lt_or_ge q 3 with z | z
      · exact z
      · have e : q = 3 := Nat.le_antisymm iq z
        subst e
        rw [Es3] at hlt
        have := W_many hts
        omega
    refine s_seq (s_dat (d := .lst ((lev 0).map D.str)) st3 (EvO.ed (eo_lst (ea_cons ed_str ea_nil) (by rw [sizeLine_eq]; exact Nat.le_of_ble_eq_true rfl))) (by decide) fun σ4 S4 st4 => ?_)
    refine s_seq (s_for (w := 0) (α := Nat) (i := 6) (fun c a => a = c) (fun a => [(5, .dat (.lst ((lev a).map D.str))), (2, .own (((Es q).filter (okIn ts)).map D.str)), (3, .dat (.int ((q + 1 : Nat) : Int))), (4, .dat (.str letters)), (0, .dat d), (1, .dat (.int (many : Int)))]) 0 st4 (es_rng1 (z := ((q + 1 : Nat) : Int)) (eh_cons (EvD.h (ed_var st4 rfl)) eh_nil) ⟨by omega, by omega⟩) (by decide) rfl ⟨rfl, rfl, rfl, rfl, rfl, rfl, True.intro⟩ (fun B' c a x σ5 S5 hx ia st5 D2 hrt2 nx2 _ _ => ?_) (fun a σ5 S5 ia st5 => ?_))
    · subst ia
      have ha : a < q + 1 := by
        have := (List.getElem?_eq_some_iff.mp hx).1
        rw [rng_len] at this
        omega
      have hl3 : (lev a).length ≤ 676 := by
        rw [lev_L, List.length_map, levL_len]
        exact Nat.le_trans (Nat.pow_le_pow_right (by decide) (show a ≤ 2 by omega)) (by decide)
      have inner : EvD K none (tLc (iList K (tVar 5)) (gName 8) tYes (tLc (iStr (tVar 4)) (gName 7) tYes (tOp (rAddU K) (tVar 8) (tVar 7)) [7]) [8]) σ5 S5 (.lst ((((lev a).map fun w => (exts w).map D.str)).map D.lst)) := by
        refine EvD.is (EvO.ed (eo_lc (i := 8) (vs := [8]) (b := fun _ => true) (f := fun d => .lst ((exts (keyS d)).map D.str)) st5 (es_list (ed_var st5 rfl)) (by decide) (by decide) (fun y hy B'' n' σ' S' st' => ⟨et_yes, fun _ => ?_⟩) (by rw [List.length_map]; omega))) ?_
        · obtain ⟨w, hw, rfl⟩ := List.mem_map.mp hy
          have hwl := lev_len a w hw
          refine EvD.is (EvO.ed (eo_lc (i := 7) (vs := [7]) (b := fun _ => true) (f := fun d => .str (w ++ keyS d)) st' (es_str (ed_var st' rfl)) (by decide) (by decide) (fun z hz B3 n3 σ3 S3 st3' => ⟨et_yes, fun _ => ?_⟩) (Nat.lt_of_lt_of_le (by decide +kernel) sz))) ?_
          · obtain ⟨c, rfl⟩ := signs_mem hz
            exact ed_op (EvD.h (ed_var st3' rfl)) (EvD.h (ed_var st3' rfl)) (rd_addS (by show w.length + 1 ≤ _; omega))
          · exact congrArg D.lst (exts_eq w).symm
        · rw [filter_true, List.map_map, List.map_map]
          rfl
      have fl : ((lev a).map fun w => (exts w).map D.str).flatten = (lev (a + 1)).map D.str := by
        show _ = ((lev a).flatMap exts).map D.str
        rw [List.map_flatMap]
        rfl
      have hl4 : ((lev a).map fun w => (exts w).map D.str).flatten.length ≤ sizeLine := by
        rw [fl, List.length_map, lev_L, List.length_map, levL_len]
        exact Nat.le_trans (Nat.pow_le_pow_right (by decide) (show a + 1 ≤ 3 by omega)) (Nat.le_trans (by decide) sz)
      have hpos : 0 < ((lev a).map fun w => (exts w).map D.str).length := by
        rw [List.length_map, lev_L, List.length_map, levL_len]
        exact Nat.pos_of_ne_zero (Nat.ne_of_gt (Nat.pow_pos (by decide)))
      refine s_dat st5 (EvD.is (EvO.ed (eo_sum inner hpos hl4)) (by rw [fl])) (by decide) fun σ6 S6 st6 => ?_
      exact nx2 (a + 1) _ _ _ rfl (st6.more (by omega)) ⟨rfl, rfl, rfl, rfl, rfl, rfl, True.intro⟩
    · rw [rng_len] at ia
      have ia2 : a = q + 1 := by rw [ia]; omega
      subst ia2
      have lcw : EvO K none (tLc (iList K (tVar 5)) (gName 8) (tAnd (tTest (tOp (rNinV K) (tVar 8) (tVar 0))) (tTest (tOp (rNinV K) (tVar 8) (tCall (sp__law_words K) [] E0 tNil)))) (tVar 8) [8]) σ5 S5 (((lev (q + 1)).filter (okIn ts)).map D.str) := by
        have e : ((lev (q + 1)).filter (okIn ts)).map D.str = (((lev (q + 1)).map D.str).filter fun d => okIn ts (keyS d)).map fun d => d := by
          rw [List.map_id', List.filter_map]
          rfl
        rw [e]
        refine eo_lc (i := 8) (vs := [8]) (b := fun d => okIn ts (keyS d)) (f := fun d => d) st5 (es_list (ed_var st5 rfl)) (by decide) (by decide) (fun y hy B'' n' σ' S' st' => ⟨?_, fun _ => ed_var st' rfl⟩) ?_
        · obtain ⟨w, hw, rfl⟩ := List.mem_map.mp hy
          have cw : EvD K none (tCall (sp__law_words K) [] E0 tNil) σ' S' (.lst (words.map D.str)) := ed_call (ds := []) ea_nil rfl True.intro
          refine EvT.is (et_and (et_test (ed_op (EvD.h (ed_var st' rfl)) (EvD.h (ed_var st' rfl)) (nin_taken hd))) fun _ => et_test (ed_op (EvD.h (ed_var st' rfl)) cw.h (rd_ninL2 rfl (flat_strs words)))) ?_
          show (!ts.contains w && !inD (.str w) (words.map D.str)) = okIn ts w
          rw [inD_strs, ok_lev (by omega) (by omega) hw]
        · rw [List.length_map, lev_L, List.length_map, levL_len]
          exact Nat.lt_of_le_of_lt (Nat.pow_le_pow_right (by decide) (show q + 1 ≤ 3 by omega)) (Nat.lt_of_lt_of_le (by decide) sz)
      have eF : ((Es q).filter (okIn ts)).map D.str ++ ((lev (q + 1)).filter (okIn ts)).map D.str = ((Es (q + 1)).filter (okIn ts)).map D.str := by
        rw [← List.map_append, ← List.filter_append]
        rfl
      refine s_seq (s_own st5 (eo_catU (eq_var st5 rfl) lcw.q ?_) (by decide) fun σ6 S6 st6 => ?_)
      · rw [← List.length_append, eF, List.length_map]
        have := eLen (q + 1) hq
        omega
      · rw [eF] at st6
        refine s_dat st6 (ed_op (EvD.h (ed_var st6 rfl)) (EvD.h ed_int) rd_add) (by decide) fun σ7 S7 st7 => ?_
        exact nx (q + 1) _ _ _ hq (by omega) (st7.more (by omega)) ⟨rfl, rfl, rfl, rfl, rfl, True.intro⟩
  · have hge : many ≤ ((Es q).filter (okIn ts)).length := by
      have h2 := of_decide_eq_false hb
      omega
    refine s_ret st3 (EvD.is (EvO.ed (eo_sl (eq_var st3 rfl) eb_no (eb_int (ed_var st3 rfl)))) ?_) k
    show D.lst _ = D.lst ((ordS (takenD d) many).map D.str)
    rw [hr, ← Es_end iq hge, cut_take, List.map_take]
theorem ok__law_order {P : Program} {w : World} {K : PySem.W.Frag} {mg : Str → Option Value} {base : Heap} (Z : Fs K mg) : FnOk P w K mg base CX0 2 Z.a__law_order Z.d__law_order ["taken", "many"] (sp__law_order K) :=
  Z.F__law_order.ok sc__law_order (fun _ _ _ _ h => by first | exact spP_len h | exact spN_len h | exact spPen_len h) (fun cdv A outer s H vs Q E hr h => ⟨t__law_order Z, ps__law_order Z hr, rd__law_order Z h⟩)
/-! ## _law_kinds_right -/
abbrev N__law_kinds_right : List Str := ["pen", "value", "whole", "low", "high", "due"]
theorem sc__law_kinds_right : FnScope N__law_kinds_right ["pen"] (defScope s__law_kinds_right) := ⟨rfl, rfl, rfl, by decide +kernel, rfl, by decide +kernel, by decide +kernel⟩
abbrev sp__law_kinds_right (K : PySem.W.Frag) : Sp := spN K 0 4 (fun _ => True) (fun _ d => d = .bl true)
def t__law_kinds_right {K : PySem.W.Frag} {mg : Str → Option Value} (Z : Fs K mg) : TS :=
  (tSeq (tAsg (tCall (sp__law_pick K) [] E0 (tCons (tVar 0) (tCons (tLst (tCons (tC .non) (tCons (tC (.bl true)) (tCons (tC (.bl false)) (tCons (tC (.int 0)) (tCons (tC (.int 1)) (tCons (tUn (rU fun i => .int (-i)) (tC (.int 1))) (tCons (tC (.int 5)) (tCons (tOp (rI CPowI fun i j => .int (i ^ j.toNat)) (tC (.int 10)) (tC (.int 30))) (tCons (tUn (rU fun i => .int (-i)) (tOp (rI CPowI fun i j => .int (i ^ j.toNat)) (tC (.int 10)) (tC (.int 30)))) (tCons (tC (.str "")) (tCons (tC (.str "1")) (tCons (tTup tNil) (tCons (tLst tNil) (tCons tDNewK (tCons (tTup (tCons (tC (.int 1)) tNil)) (tCons (tLst (tCons (tC (.str "a")) tNil)) (tCons (tLst (tCons (tLst (tCons (tC (.str "a")) tNil)) tNil)) tNil)))))))))))))))))) tNil))) (gName 1))
    (tSeq (tAsg (tAndV (tCB (rIsi K) (tCons (tVar 1) (tCons (tC (.ty "int")) tNil))) (tNotV (tCB (rIsi K) (tCons (tVar 1) (tCons (tC (.ty "bool")) tNil))))) (gName 2))
    (tSeq (tPar 3 4 (tCons (tOp (rI0 fun i j => .int (i - j)) (tCall (sp__law_draw K) [] E0 (tCons (tVar 0) (tCons (tC (.int 7)) tNil))) (tC (.int 3))) (tCons (tCall (sp__law_pick K) [] E0 (tCons (tVar 0) (tCons (tLst (tCons (tC .non) (tCons (tOp (rI0 fun i j => .int (i - j)) (tCall (sp__law_draw K) [] E0 (tCons (tVar 0) (tCons (tC (.int 9)) tNil))) (tC (.int 3))) (tCons (tOp (rI CPowI fun i j => .int (i ^ j.toNat)) (tC (.int 10)) (tC (.int 30))) tNil)))) tNil))) tNil)))
    (tSeq (tAsg (tLst (tCons (tVar 2) (tCons (tAndV (tVar 2) (tAndV (tOp (rI0 fun i j => .bl (decide (i ≤ j))) (tVar 3) (tVar 1)) (tOrV (tOp rIsN (tVar 4) (tC .non)) (tOp (rI0 fun i j => .bl (decide (i ≤ j))) (tVar 1) (tVar 4))))) (tCons (tCB (rIsiT K) (tCons (tVar 1) (tCons (tTup (tCons (tC (.ty "list")) (tCons (tC (.ty "tuple")) tNil))) tNil))) tNil)))) (gName 5))
    (tRet (tChain (rEqU K) (rEqU K) (tCB (rRepr K) (tCons (tLst (tCons (tCall (sp_is_integer K) [] E0 (tCons (tVar 1) tNil)) (tCons (tCall (sp_is_within K) [] E0 (tCons (tVar 1) (tCons (tVar 3) (tCons (tVar 4) tNil)))) (tCons (tCall (sp_is_row K) [] E0 (tCons (tVar 1) tNil)) tNil)))) tNil)) (tCB (rRepr K) (tCons (tVar 5) tNil)) (tCB (rRepr K) (tCons (tLst (tCons (tCallK (sp_is_integer K) (gv_is_integer_value) E0 tNil (tCons (tVar 1) tNil)) (tCons (tCallK (sp_is_within K) (gv_is_within_most_least_value) E0 tNil (tCons (tVar 4) (tCons (tVar 3) (tCons (tVar 1) tNil)))) (tCons (tCallK (sp_is_row K) (gv_is_row_value) E0 tNil (tCons (tVar 1) tNil)) tNil)))) tNil))))))))
theorem ps__law_kinds_right {P : Program} {w : World} {K : PySem.W.Frag} {mg : Str → Option Value} {base : Heap} (Z : Fs K mg) {cdv : Value} {A : Around} {outer : List Env} {s : Shared} {H : Hp} {E : XK} (hG : A.guards = some []) (hr : Room 2 (A.deeper (PyProof.Rows.envOfC "_law_kinds_right" (defScope s__law_kinds_right) s.heap.objs.size Z.a__law_kinds_right cdv))) :
    PSs (cxOf CX0 P w K mg base N__law_kinds_right "_law_kinds_right" (defScope s__law_kinds_right) Z.a__law_kinds_right cdv A outer s H E).nox (defBody s__law_kinds_right) (t__law_kinds_right Z) := by
  have hu := hu_of hr
  have hu64 := hr.units
  have hu66 := hu66_of hr
  exact (pss_cons (ps_set (i := 1) sc__law_kinds_right.nd rfl (Or.inl rfl) (pe_call (ok__law_pick Z) (hr.mono (by decide)) rfl Z.m__law_pick Z.F__law_pick.kp Z.b__law_pick .nil pass0 (pa_cons (pv 0) (pa_cons (pe_lst (pa_cons pe_non (pa_cons pe_bl (pa_cons pe_bl (pa_cons pe_int (pa_cons pe_int (pa_cons (pe_un un_neg pe_int) (pa_cons pe_int (pa_cons (pe_op op_powI pe_int pe_int) (pa_cons (pe_un un_neg (pe_op op_powI pe_int pe_int)) (pa_cons pe_str (pa_cons pe_str (pa_cons (pe_tup pa_nil) (pa_cons (pe_lst pa_nil) (pa_cons pe_dnewK (pa_cons (pe_tup (pa_cons pe_int pa_nil)) (pa_cons (pe_lst (pa_cons pe_str pa_nil)) (pa_cons (pe_lst (pa_cons (pe_lst (pa_cons pe_str pa_nil)) pa_nil)) pa_nil)))))))))))))))))) pa_nil))))
    (pss_cons (ps_set (i := 2) sc__law_kinds_right.nd rfl (Or.inl rfl) (pe_and (pe_callB call_isi (by rfl) Z.z_isinstance (by decide +kernel) (pa_cons (pv 1) (pa_cons (pe_bltn rfl Z.z_int (by decide +kernel) rfl) pa_nil))) (pe_one (pe_not (pe_callB call_isi (by rfl) Z.z_isinstance (by decide +kernel) (pa_cons (pv 1) (pa_cons (pe_bltn rfl Z.z_bool (by decide +kernel) rfl) pa_nil)))))))
    (pss_cons (ps_par (i := 3) (j := 4) rfl sc__law_kinds_right.nd rfl rfl (by decide) rfl rfl (pa_cons (pe_op op_sub (pe_call (ok__law_draw Z) (hr.mono (by decide)) rfl Z.m__law_draw Z.F__law_draw.kp Z.b__law_draw .nil pass0 (pa_cons (pv 0) (pa_cons pe_int pa_nil))) pe_int) (pa_cons (pe_call (ok__law_pick Z) (hr.mono (by decide)) rfl Z.m__law_pick Z.F__law_pick.kp Z.b__law_pick .nil pass0 (pa_cons (pv 0) (pa_cons (pe_lst (pa_cons pe_non (pa_cons (pe_op op_sub (pe_call (ok__law_draw Z) (hr.mono (by decide)) rfl Z.m__law_draw Z.F__law_draw.kp Z.b__law_draw .nil pass0 (pa_cons (pv 0) (pa_cons pe_int pa_nil))) pe_int) (pa_cons (pe_op op_powI pe_int pe_int) pa_nil)))) pa_nil))) pa_nil)) rfl)
    (pss_cons (ps_set (i := 5) sc__law_kinds_right.nd rfl (Or.inl rfl) (pe_lst (pa_cons (pv 2) (pa_cons (pe_and (pv 2) (pe_and (pe_cmpR op_le (pv 3) (pv 1) (nomark _)) (pe_one (pe_or (pe_cmpR op_isN (pv 4) pe_non (nomark _)) (pe_one (pe_cmpR op_le (pv 1) (pv 4) (nomark _))))))) (pa_cons (pe_callB call_isiT (by rfl) Z.z_isinstance (by decide +kernel) (pa_cons (pv 1) (pa_cons (pe_tup (pa_cons (pe_bltn rfl Z.z_list (by decide +kernel) rfl) (pa_cons (pe_bltn rfl Z.z_tuple (by decide +kernel) rfl) pa_nil))) pa_nil))) pa_nil)))))
    (pss_one (ps_ret (pe_chain (op_eqU hu64) (op_eqU hu64) (pe_callB (call_repr hG hu66) (by rfl) Z.z_repr (by decide +kernel) (pa_cons (pe_lst (pa_cons (pe_call (ok_is_integer Z) (hr.mono (by decide)) rfl Z.m_is_integer Z.F_is_integer.kp Z.b_is_integer .nil pass0 (pa_cons (pv 1) pa_nil)) (pa_cons (pe_call (ok_is_within Z) (hr.mono (by decide)) rfl Z.m_is_within Z.F_is_within.kp Z.b_is_within .nil pass0 (pa_cons (pv 1) (pa_cons (pv 3) (pa_cons (pv 4) pa_nil)))) (pa_cons (pe_call (ok_is_row Z) (hr.mono (by decide)) rfl Z.m_is_row Z.F_is_row.kp Z.b_is_row .nil pass0 (pa_cons (pv 1) pa_nil)) pa_nil)))) pa_nil)) (pe_callB (call_repr hG hu66) (by rfl) Z.z_repr (by decide +kernel) (pa_cons (pv 5) pa_nil)) (pe_callB (call_repr hG hu66) (by rfl) Z.z_repr (by decide +kernel) (pa_cons (pe_lst (pa_cons (pe_callK0 (ok_is_integer Z) (hr.mono (by decide)) rfl Z.m_is_integer Z.F_is_integer.kp (Z.k_is_integer_value) pass0 (pk_cons (pv 1) pk_nil)) (pa_cons (pe_callK0 (ok_is_within Z) (hr.mono (by decide)) rfl Z.m_is_within Z.F_is_within.kp (Z.k_is_within_most_least_value) pass0 (pk_cons (pv 4) (pk_cons (pv 3) (pk_cons (pv 1) pk_nil)))) (pa_cons (pe_callK0 (ok_is_row Z) (hr.mono (by decide)) rfl Z.m_is_row Z.F_is_row.kp (Z.k_is_row_value) pass0 (pk_cons (pv 1) pk_nil)) pa_nil)))) pa_nil)))))))))
theorem rd__law_kinds_right {K : PySem.W.Frag} {mg : Str → Option Value} (Z : Fs K mg) {vs : List V} {H : Hp} {Q : VK} {E : XK} (h : sp__law_kinds_right K vs H Q E) : t__law_kinds_right Z { nx := fun _ H' => Q .non H', rt := Q } (L2.start N__law_kinds_right vs) H := by
  refine fnN h (by decide) fun S0 a ds σ G hn hp st k => ?_
  cases ds with
  | cons _ _ => cases hn
  | nil =>
  have hz : ∀ n, Nat.ble n 1000 = true → n ≤ sizeLine := fun n e => Nat.le_trans (Nat.le_of_ble_eq_true e) (by rw [sizeLine_eq]; exact Nat.le_of_ble_eq_true rfl)
  have hpow : ∀ (σ : St) (S : Wd), EvD K (some a) (tOp (rI CPowI fun i j => .int (i ^ j.toNat)) (tC (.int 10)) (tC (.int 30))) σ S (.int (10 ^ 30)) := fun σ S => ed_pow (k := 0) ed_int ed_int (pow_ok (k := 4) (by decide) (by decide) (by decide) (by decide))
  have lsa : ∀ (σ : St) (S : Wd), EvD K (some a) (tLst (tCons (tC (.str "a")) tNil)) σ S (.lst [.str "a"]) := fun σ S => EvO.ed (eo_lst (ea_cons ed_str ea_nil) (hz _ rfl))
  refine s_seq (s_N st (en_call (n := 1) (N := 1) (ds := [.lst [.non, .bl true, .bl false, .int 0, .int 1, .int (-1), .int 5, .int (10 ^ 30), .int (-(10 ^ 30)), .str "", .str "1", .tup [], .lst [], .dic [], .tup [.int 1], .lst [.str "a"], .lst [.lst [.str "a"]]]]) (ev_var st rfl)
    (ea_cons (EvO.ed (eo_lst (ea_cons ed_non (ea_cons ed_bl (ea_cons ed_bl (ea_cons ed_int (ea_cons ed_int (ea_cons (ed_neg ed_int) (ea_cons ed_int (ea_cons (hpow _ _) (ea_cons (ed_neg (hpow _ _)) (ea_cons ed_str (ea_cons ed_str (ea_cons (ed_tup ea_nil (hz _ rfl)) (ea_cons (EvO.ed (eo_lst ea_nil (hz _ rfl))) (ea_cons (EvOD.ed eod_new) (ea_cons (ed_tup (ea_cons ed_int ea_nil) (hz _ rfl)) (ea_cons (lsa _ _) (ea_cons (EvO.ed (eo_lst (ea_cons (lsa _ _) ea_nil) (hz _ rfl))) ea_nil))))))))))))))))) (hz _ rfl))) ea_nil) rfl ⟨_, rfl, (by intro z; cases z), Nat.le_of_ble_eq_true rfl⟩) (by decide) (by decide) fun d σ1 S1 hd st1 => ?_)
  have hk : kn d := by
    obtain ⟨es, he, hd⟩ := hd
    cases he
    have q : (tyD d).isSome = true := (List.all_eq_true (p := fun d => (tyD d).isSome)).mp (by decide +kernel) d hd
    unfold kn
    intro z
    rw [z] at q
    cases q
  obtain ⟨b, e1, e2, e3⟩ := kn_int hk
  refine s_seq (s_dat (d := .bl (isIntD d)) st1 (EvD.is (ed_and (ed_isi (EvD.h (ed_var st1 rfl)) e1) fun _ => ed_not (ed_isi (EvD.h (ed_var st1 rfl)) e2)) ?_) (by decide) fun σ2 S2 st2 => ?_)
  · show D.bl _ = D.bl (isIntD d)
    cases b <;> cases q : isIntD d <;> simp_all
  have lowE : EvN K (some a) (tOp (rI0 fun i j => .int (i - j)) (tCall (sp__law_draw K) [] E0 (tCons (tVar 0) (tCons (tC (.int 7)) tNil))) (tC (.int 3))) σ2 S2 1 (fun d => ∃ z : Int, d = .int z) :=
    en_op1 (en_call (n := 1) (N := 1) (ds := [.int 7]) (ev_var st2 rfl) (ea_cons ed_int ea_nil) rfl ⟨7, rfl, by decide, by decide⟩) ed_int (fun d hd => by
      obtain ⟨r, m, rfl, _⟩ := hd
      exact ⟨_, ⟨_, rfl⟩, rd_I0 (f := fun i j => i - j)⟩)
  have hiE : EvN K (some a) (tCall (sp__law_pick K) [] E0 (tCons (tVar 0) (tCons (tLst (tCons (tC .non) (tCons (tOp (rI0 fun i j => .int (i - j)) (tCall (sp__law_draw K) [] E0 (tCons (tVar 0) (tCons (tC (.int 9)) tNil))) (tC (.int 3))) (tCons (tOp (rI CPowI fun i j => .int (i ^ j.toNat)) (tC (.int 10)) (tC (.int 30))) tNil)))) tNil))) σ2 S2 2 (fun d => d = .non ∨ ∃ z : Int, d = .int z) := by
    have inn : EvN K (some a) (tOp (rI0 fun i j => .int (i - j)) (tCall (sp__law_draw K) [] E0 (tCons (tVar 0) (tCons (tC (.int 9)) tNil))) (tC (.int 3))) σ2 S2 1 (fun d => ∃ z : Int, d = .int z) :=
      en_op1 (en_call (n := 1) (N := 1) (ds := [.int 9]) (ev_var st2 rfl) (ea_cons ed_int ea_nil) rfl ⟨9, rfl, by decide, by decide⟩) ed_int (fun d hd => by
        obtain ⟨r, m, rfl, _⟩ := hd
        exact ⟨_, ⟨_, rfl⟩, rd_I0 (f := fun i j => i - j)⟩)
    have args := ean_cons (en_lst (ean_cons (EvD.toN (ed_non (K := K) (p := some a) (σ := σ2) (S := S2))) (ean_cons inn (ean_cons (EvD.toN (hpow σ2 S2)) ean_nil))) (fun ds hds => by
      obtain ⟨_, _, rfl, _, _, _, rfl, _, _, _, rfl, _, rfl⟩ := hds
      exact hz _ rfl)) ean_nil
    refine EvN.le (en_callA (nn := 1) (N := 1) (ev_var st2 rfl) args (fun ds hds => ?_)) (Nat.le_of_ble_eq_true rfl) (fun e he => ?_)
    · obtain ⟨_, _, rfl, ⟨_, rfl, _, _, rfl, rfl, _, _, rfl, ⟨z, rfl⟩, _, _, rfl, rfl, rfl⟩, rfl⟩ := hds
      exact ⟨rfl, _, rfl, (by intro z; cases z), Nat.le_of_ble_eq_true rfl⟩
    · obtain ⟨ds, ⟨_, _, rfl, ⟨_, rfl, _, _, rfl, rfl, _, _, rfl, ⟨z, rfl⟩, _, _, rfl, rfl, rfl⟩, rfl⟩, es, he, hd⟩ := he
      cases he
      rcases List.mem_cons.mp hd with rfl | hd
      · exact .inl rfl
      · rcases List.mem_cons.mp hd with rfl | hd
        · exact .inr ⟨_, rfl⟩
        · rcases List.mem_cons.mp hd with rfl | hd
          · exact .inr ⟨_, rfl⟩
          · cases hd
  refine s_seq (s_par st2 lowE.x hiE.x (by decide) (by decide) (by decide) (by decide) fun t1 t2 σ3 S3 p1 p2 st3 => ?_)
  obtain ⟨_, rfl, i, rfl⟩ := p1
  obtain ⟨hi, rfl, hhi⟩ := p2
  dsimp only
  have within : EvD K (some a) (tAndV (tVar 2) (tAndV (tOp (rI0 fun i j => .bl (decide (i ≤ j))) (tVar 3) (tVar 1)) (tOrV (tOp rIsN (tVar 4) (tC .non)) (tOp (rI0 fun i j => .bl (decide (i ≤ j))) (tVar 1) (tVar 4))))) σ3 S3 (.bl (isWithin d (.int i) hi)) := by
    by_cases hv : isIntD d = true
    · obtain ⟨j, rfl⟩ : ∃ j, d = .int j := by cases d <;> first | exact ⟨_, rfl⟩ | cases hv
      rcases hhi with rfl | ⟨u, rfl⟩
      · refine EvD.is (ed_and (ed_var st3 rfl) fun _ => ed_and (ed_op (EvD.h (ed_var st3 rfl)) (EvD.h (ed_var st3 rfl)) rd_B0) fun _ => ed_orT (ed_op (EvD.h (ed_var st3 rfl)) (EvD.h ed_non) (rd_isN rfl))) ?_
        show D.bl (true && (decide (i ≤ j) && true)) = D.bl (decide (i ≤ j))
        rw [Bool.and_true, Bool.true_and]
      · refine EvD.is (ed_and (ed_var st3 rfl) fun _ => ed_and (ed_op (EvD.h (ed_var st3 rfl)) (EvD.h (ed_var st3 rfl)) rd_B0) fun _ => ed_or (a := false) (ed_op (EvD.h (ed_var st3 rfl)) (EvD.h ed_non) (rd_isN rfl)) fun _ => ed_op (EvD.h (ed_var st3 rfl)) (EvD.h (ed_var st3 rfl)) rd_B0) ?_
        rfl
    · have hf : isIntD d = false := by simpa using hv
      refine EvD.is (ed_andF (EvD.is (ed_var st3 rfl) (by rw [hf]))) ?_
      cases d <;> first | rfl | exact absurd rfl hv
  have due : EvD K (some a) (tLst (tCons (tVar 2) (tCons (tAndV (tVar 2) (tAndV (tOp (rI0 fun i j => .bl (decide (i ≤ j))) (tVar 3) (tVar 1)) (tOrV (tOp rIsN (tVar 4) (tC .non)) (tOp (rI0 fun i j => .bl (decide (i ≤ j))) (tVar 1) (tVar 4))))) (tCons (tCB (rIsiT K) (tCons (tVar 1) (tCons (tTup (tCons (tC (.ty "list")) (tCons (tC (.ty "tuple")) tNil))) tNil))) tNil)))) σ3 S3 (.lst [.bl (isIntD d), .bl (isWithin d (.int i) hi), .bl (isRowD d)]) :=
    EvO.ed (eo_lst (ea_cons (ed_var st3 rfl) (ea_cons within (ea_cons (ed_isi2 (EvD.h (ed_var st3 rfl)) (kn_row hk)) ea_nil))) (hz _ rfl))
  refine s_seq (s_dat st3 due (by decide) fun σ4 S4 st4 => ?_)
  have hw : ∀ x : D, (x = .non ∨ ∃ z : Int, x = .int z) → kn d ∧ (∃ q, D.int i = .int q) ∧ (x = .non ∨ ∃ q, x = .int q) := fun x hx => ⟨hk, ⟨i, rfl⟩, hx⟩
  have v1 : EvD K (some a) (tVar 1) σ4 S4 d := ed_var st4 rfl
  have v3 : EvD K (some a) (tVar 3) σ4 S4 (.int i) := ed_var st4 rfl
  have v4 : EvD K (some a) (tVar 4) σ4 S4 hi := ed_var st4 rfl
  refine s_ret st4 (EvD.is (ed_chain (EvD.h (ed_cb (eh_cons (EvO.h (eo_lst (ea_cons (ed_call (ds := [d]) (ea_cons v1 ea_nil) rfl hk) (ea_cons (ed_call (ds := [d, .int i, hi]) (ea_cons v1 (ea_cons v3 (ea_cons v4 ea_nil))) rfl (hw _ hhi)) (ea_cons (ed_call (ds := [d]) (ea_cons v1 ea_nil) rfl hk) ea_nil))) (hz _ rfl))) eh_nil) (rep3 _ _ _)))
    (EvD.h (ed_cb (eh_cons (EvD.h (ed_var st4 rfl)) eh_nil) (rep3 _ _ _))) rd_eqUs
    (fun _ => EvD.h (ed_cb (eh_cons (EvO.h (eo_lst (ea_cons (ed_callK (gD := gv_is_integer_value []) (ds := [d]) (ea_cons v1 ea_nil) (fun F vs r => by
        cases r with
        | cons r1 r => cases r; exact .cons r1 .nil) rfl hk) (ea_cons (ed_callK (gD := gv_is_within_most_least_value []) (ds := [hi, .int i, d]) (ea_cons v4 (ea_cons v3 (ea_cons v1 ea_nil))) (fun F vs r => by
        cases r with
        | cons r1 r => cases r with
          | cons r2 r => cases r with
            | cons r3 r => cases r; exact .cons r3 (.cons r2 (.cons r1 .nil))) rfl (hw _ hhi)) (ea_cons (ed_callK (gD := gv_is_row_value []) (ds := [d]) (ea_cons v1 ea_nil) (fun F vs r => by
        cases r with
        | cons r1 r => cases r; exact .cons r1 .nil) rfl hk) ea_nil))) (hz _ rfl))) eh_nil) (rep3 _ _ _))) rd_eqUs) ?_) (fun v S' g ht r => k v (.bl true) S' rfl g (Nat.le_trans ht (by omega)) r)
  exact congrArg D.bl (by rw [Bool.and_eq_true]; exact ⟨decide_eq_true rfl, decide_eq_true rfl⟩)
theorem ok__law_kinds_right {P : Program} {w : World} {K : PySem.W.Frag} {mg : Str → Option Value} {base : Heap} (Z : Fs K mg) : GnOk P w K mg base CX0 3 Z.a__law_kinds_right Z.d__law_kinds_right ["pen"] (sp__law_kinds_right K) :=
  gn_ok Z.F__law_kinds_right sc__law_kinds_right (fun _ _ _ _ h => by first | exact spP_len h | exact spN_len h | exact spPen_len h) (fun cdv A outer s H vs Q E hG hr h => ⟨t__law_kinds_right Z, ps__law_kinds_right Z hG hr, rd__law_kinds_right Z h⟩)
/-! ## law -/
abbrev N_law : List Str := ["script", "pen", "turn", "text", "some", "lap", "due", "one", "odd", "taken", "many"]
theorem sc_law : FnScope N_law ["script"] (defScope s_law) := ⟨rfl, rfl, rfl, by decide +kernel, rfl, by decide +kernel, by decide +kernel⟩
abbrev sp_law (K : PySem.W.Frag) : Sp := fun vs H Q _ => ∃ (a : Addr) (ns : List Int), vs = [.ref a] ∧ SqL K H a (ns.map V.int) ∧ ns.length ≤ 63 ∧ ∀ H', Q (.bl true) H'
theorem ln_law {K : PySem.W.Frag} {vs : List V} {H : Hp} {Q : VK} {E : XK} (h : sp_law K vs H Q E) : vs.length = 1 := by
  obtain ⟨a, ns, rfl, _⟩ := h
  rfl
def t_law {K : PySem.W.Frag} {mg : Str → Option Value} (Z : Fs K mg) : TS :=
  (tSeq (tAsg (tCall (sp__law_pen K) [] E0 (tCons (tVar 0) tNil)) (gName 1))
    (tSeq (tFor (iRng1 (tCons (tC (.int 12)) tNil)) (gName 2)
    (tSeq (tIfS (tNot (tB (tCall (sp__law_kinds_right K) [] E0 (tCons (tVar 1) tNil))))
    (tRet (tC (.bl false)))
    tNext)
    (tSeq (tAsg (tCall (sp__law_pick K) [] E0 (tCons (tVar 1) (tCons (tLst (tCons (tCall (sp__law_text_drawn K) [] E0 (tCons (tVar 1) tNil)) (tCons (tCall (sp__law_text_drawn K) [] E0 (tCons (tVar 1) tNil)) (tCons (tCall (sp__law_pick K) [] E0 (tCons (tVar 1) (tCons (tCall (sp__law_words K) [] E0 tNil) tNil))) (tCons (tOp (rAddU K) (tCall (sp__law_pick K) [] E0 (tCons (tVar 1) (tCons (tCall (sp__law_words K) [] E0 tNil) tNil))) (tC (.str "s"))) tNil))))) tNil))) (gName 3))
    (tSeq (tIfS (tTest (tOp (rNeU K) (tCB (rRepr K) (tCons (tLst (tCons (tCall (sp_is_name K) [] E0 (tCons (tVar 3) tNil)) (tCons (tCallK (sp_is_name K) (gv_is_name_value) E0 tNil (tCons (tVar 3) tNil)) (tCons (tCall (sp_is_statement K) [] E0 (tCons (tVar 3) tNil)) tNil)))) tNil)) (tCB (rRepr K) (tCons (tOp (rAddU K) (tOp rMulU (tLst (tCons (tCall (sp__law_is_name K) [] E0 (tCons (tVar 3) tNil)) tNil)) (tC (.int 2))) (tLst (tCons (tOrV (tCall (sp__law_is_name K) [] E0 (tCons (tVar 3) tNil)) (tOp (rInV K) (tVar 3) (tTup (tCons (tC (.str "nothing")) (tCons (tC (.str "any")) (tCons (tC (.str "no")) tNil)))))) tNil))) tNil))))
    (tRet (tC (.bl false)))
    tNext)
    (tSeq (tAsg (tLc (iRng1 (tCons (tCall (sp__law_draw K) [] E0 (tCons (tVar 1) (tCons (tC (.int 5)) tNil))) tNil)) (gName 5) tYes (tCall (sp__law_pick K) [] E0 (tCons (tVar 1) (tCons (tLst (tCons (tC (.str "a")) (tCons (tC (.str "b")) (tCons (tC (.str "zz")) (tCons (tC (.str "abcdefgh")) (tCons (tVar 3) (tCons (tC (.str "any")) tNil))))))) tNil))) [5]) (gName 4))
    (tSeq (tAsg (tAndV (tOp (rEqU K) (tLc (iList K (tVar 4)) (gName 7) (tNot (tB (tCall (sp__law_is_name K) [] E0 (tCons (tVar 7) tNil)))) (tVar 7) [7]) (tLst tNil)) (tOp (rEqU K) (tLenSetT K (tVar 4)) (tCB (rLenA K) (tCons (tVar 4) tNil)))) (gName 6))
    (tIfS (tTest (tOp (rNeU K) (tCB (rRepr K) (tCons (tLst (tCons (tCall (sp_are_names K) [] E0 (tCons (tVar 4) tNil)) (tCons (tCall (sp_are_names K) [] E0 (tCons (tCB (rTuple K) (tCons (tVar 4) tNil)) tNil)) (tCons (tCallK (sp_are_names K) (gv_are_names_value) E0 tNil (tCons (tVar 4) tNil)) tNil)))) tNil)) (tCB (rRepr K) (tCons (tOp rMulU (tLst (tCons (tVar 6) tNil)) (tC (.int 3))) tNil))))
    (tRet (tC (.bl false)))
    tNext)))))))
    (tSeq (tAsg (tCall (sp__law_pick K) [] E0 (tCons (tVar 1) (tCons (tLst (tCons (tC .non) (tCons (tC (.int 5)) (tCons (tC (.bl true)) (tCons (tC (.str "a")) (tCons (tDisp [((tC (.str "a")), (tC (.int 1)))]) (tCons (tLst (tCons (tC (.int 1)) tNil)) (tCons (tLst (tCons (tC .non) tNil)) (tCons (tLst (tCons (tLst (tCons (tC (.str "a")) tNil)) tNil)) (tCons (tLst (tCons (tC (.bl true)) tNil)) tNil)))))))))) tNil))) (gName 8))
    (tSeq (tIfS (tOr (tTest (tOp rNotB (tCall (sp_are_names K) [] E0 (tCons (tVar 8) tNil)) (tC (.bl false)))) (tOr (tTest (tOp (rNeU K) (tLc (iTup K (tTup (tCons (tC .non) (tCons (tC (.int 5)) (tCons (tC (.bl true)) (tCons (tLst (tCons (tC (.str "a")) tNil)) (tCons (tTup (tCons (tC (.str "a")) tNil)) (tCons tDNewK tNil)))))))) (gName 7) (tTest (tOp rNotB (tCall (sp_is_name K) [] E0 (tCons (tVar 7) tNil)) (tC (.bl false)))) (tVar 7) [7]) (tLst tNil))) (tTest (tOp rNotB (tCall (sp_are_names K) [] E0 (tCons (tTup tNil) tNil)) (tC (.bl true))))))
    (tRet (tC (.bl false)))
    tNext)
    (tSeq (tPar 9 10 (tCons (tLc (iRng1 (tCons (tCall (sp__law_draw K) [] E0 (tCons (tVar 1) (tCons (tC (.int 12)) tNil))) tNil)) (gName 5) tYes (tCall (sp__law_pick K) [] E0 (tCons (tVar 1) (tCons (tLst (tCons (tC (.str "a")) (tCons (tC (.str "b")) (tCons (tC (.str "c")) (tCons (tC (.str "z")) (tCons (tC (.str "aa")) (tCons (tC (.str "ab")) (tCons (tC (.str "zz")) (tCons (tC (.str "no")) (tCons (tC (.str "or")) (tCons (tC (.str "x")) tNil))))))))))) tNil))) [5]) (tCons (tCall (sp__law_pick K) [] E0 (tCons (tVar 1) (tCons (tLst (tCons (tC (.int 0)) (tCons (tC (.int 1)) (tCons (tC (.int 5)) (tCons (tC (.int 26)) (tCons (tC (.int 30)) (tCons (tC (.int 700)) (tCons (tC (.int 730)) tNil)))))))) tNil))) tNil)))
    (tSeq (tAsg (tCall (sp__law_order K) [] E0 (tCons (tVar 9) (tCons (tVar 10) tNil))) (gName 6))
    (tRet (tAndV (tOp (rEqU K) (tCall (sp_names_in_order K) [] E0 (tCons (tVar 9) (tCons (tVar 10) tNil))) (tVar 6)) (tOp (rEqU K) (tCallK (sp_names_in_order K) (gv_names_in_order_many_taken) E0 tNil (tCons (tVar 10) (tCons (tCB (rDictP K) (tCons (tLc (iList K (tVar 9)) (gName 7) tYes (tTup (tCons (tVar 7) (tCons (tC (.bl true)) tNil))) [7]) tNil)) tNil))) (tVar 6))))))))))
theorem ps_law {P : Program} {w : World} {K : PySem.W.Frag} {mg : Str → Option Value} {base : Heap} (Z : Fs K mg) {cdv : Value} {A : Around} {outer : List Env} {s : Shared} {H : Hp} {E : XK} (hG : A.guards = some []) (hr : Room 4 (A.deeper (PyProof.Rows.envOfC "law" (defScope s_law) s.heap.objs.size Z.a_law cdv))) :
    PSs (cxOf CX0 P w K mg base N_law "law" (defScope s_law) Z.a_law cdv A outer s H E).nox (defBody s_law) (t_law Z) := by
  have hu := hu_of hr
  have hu64 := hr.units
  have hu66 := hu66_of hr
  exact (pss_cons (ps_set (i := 1) sc_law.nd rfl (Or.inr rfl) (pe_call (ok__law_pen Z) (hr.mono (by decide)) rfl Z.m__law_pen Z.F__law_pen.kp Z.b__law_pen .nil pass0 (pa_cons (pv 0) pa_nil)))
    (pss_cons (ps_for PassesOwn.never rfl (pi_range1 rfl Z.z_range (pa_cons pe_int pa_nil)) (pg_name (i := 2) sc_law.nd rfl (Or.inl rfl))
    (pss_cons (ps_if (pt_not (pt_val (pe_callG (ok__law_kinds_right Z) hG (hr.mono (by decide)) rfl Z.m__law_kinds_right Z.F__law_kinds_right.kp Z.b__law_kinds_right pass0 (pa_cons (pv 1) pa_nil))))
    (pss_one (ps_ret pe_bl))
    pss_nil)
    (pss_cons (ps_set (i := 3) sc_law.nd rfl (Or.inr rfl) (pe_call (ok__law_pick Z) (hr.mono (by decide)) rfl Z.m__law_pick Z.F__law_pick.kp Z.b__law_pick .nil pass0 (pa_cons (pv 1) (pa_cons (pe_lst (pa_cons (pe_call (ok__law_text_drawn Z) (hr.mono (by decide)) rfl Z.m__law_text_drawn Z.F__law_text_drawn.kp Z.b__law_text_drawn .nil pass0 (pa_cons (pv 1) pa_nil)) (pa_cons (pe_call (ok__law_text_drawn Z) (hr.mono (by decide)) rfl Z.m__law_text_drawn Z.F__law_text_drawn.kp Z.b__law_text_drawn .nil pass0 (pa_cons (pv 1) pa_nil)) (pa_cons (pe_call (ok__law_pick Z) (hr.mono (by decide)) rfl Z.m__law_pick Z.F__law_pick.kp Z.b__law_pick .nil pass0 (pa_cons (pv 1) (pa_cons (pe_call0 (ok__law_words Z) (hr.mono (by decide)) rfl Z.m__law_words Z.F__law_words.kp Z.b__law_words .nil pass0) pa_nil))) (pa_cons (pe_op op_addU (pe_call (ok__law_pick Z) (hr.mono (by decide)) rfl Z.m__law_pick Z.F__law_pick.kp Z.b__law_pick .nil pass0 (pa_cons (pv 1) (pa_cons (pe_call0 (ok__law_words Z) (hr.mono (by decide)) rfl Z.m__law_words Z.F__law_words.kp Z.b__law_words .nil pass0) pa_nil))) pe_str) pa_nil))))) pa_nil))))
    (pss_cons (ps_if (pt_cmpR (op_neU hu64) (pe_callB (call_repr hG hu66) (by rfl) Z.z_repr (by decide +kernel) (pa_cons (pe_lst (pa_cons (pe_call (ok_is_name Z) (hr.mono (by decide)) rfl Z.m_is_name Z.F_is_name.kp Z.b_is_name .nil pass0 (pa_cons (pv 3) pa_nil)) (pa_cons (pe_callK0 (ok_is_name Z) (hr.mono (by decide)) rfl Z.m_is_name Z.F_is_name.kp (Z.k_is_name_value) pass0 (pk_cons (pv 3) pk_nil)) (pa_cons (pe_call (ok_is_statement Z) (hr.mono (by decide)) rfl Z.m_is_statement Z.F_is_statement.kp Z.b_is_statement .nil pass0 (pa_cons (pv 3) pa_nil)) pa_nil)))) pa_nil)) (pe_callB (call_repr hG hu66) (by rfl) Z.z_repr (by decide +kernel) (pa_cons (pe_op op_addU (pe_op op_mulU (pe_lst (pa_cons (pe_call (ok__law_is_name Z) (hr.mono (by decide)) rfl Z.m__law_is_name Z.F__law_is_name.kp Z.b__law_is_name .nil pass0 (pa_cons (pv 3) pa_nil)) pa_nil)) pe_int) (pe_lst (pa_cons (pe_or (pe_call (ok__law_is_name Z) (hr.mono (by decide)) rfl Z.m__law_is_name Z.F__law_is_name.kp Z.b__law_is_name .nil pass0 (pa_cons (pv 3) pa_nil)) (pe_one (pe_cmpR (op_inV hu) (pv 3) (pe_tup (pa_cons pe_str (pa_cons pe_str (pa_cons pe_str pa_nil)))) rfl))) pa_nil))) pa_nil)) (nomark _))
    (pss_one (ps_ret pe_bl))
    pss_nil)
    (pss_cons (ps_setLc (i := 4) (own := [("lap", 5)]) rfl sc_law.nd rfl rfl (sw_true rfl rfl rfl (by decide +kernel)) (pi_range1 rfl Z.z_range (pa_cons (pe_call (ok__law_draw Z) (hr.mono (by decide)) rfl Z.m__law_draw Z.F__law_draw.kp Z.b__law_draw .nil pass0 (pa_cons (pv 1) (pa_cons pe_int pa_nil))) pa_nil)) (blkOk_by (own := [("lap", 5)]) (N := N_law) (sc := defScope s_law) (by decide +kernel)) (fun _ _ _ _ _ => (pg_name (i := 5) sc_law.nd rfl (Or.inl rfl))) (fun _ _ _ _ _ => pts_nil) (fun _ _ _ _ _ => (pe_call (ok__law_pick Z) (hr.mono (by decide)) rfl Z.m__law_pick Z.F__law_pick.kp Z.b__law_pick .nil pass0 (pa_cons (pv 1) (pa_cons (pe_lst (pa_cons pe_str (pa_cons pe_str (pa_cons pe_str (pa_cons pe_str (pa_cons (pv 3) (pa_cons pe_str pa_nil))))))) pa_nil)))))
    (pss_cons (ps_set (i := 6) sc_law.nd rfl (Or.inl rfl) (pe_and (pe_cmpR (op_eqU hu64) (pe_lc (own := [("one", 7)]) rfl sc_law.nd (pi_list (pv 4)) (blkOk_by (own := [("one", 7)]) (N := N_law) (sc := defScope s_law) (by decide +kernel)) (fun _ _ _ _ _ => (pg_name (i := 7) sc_law.nd rfl (Or.inl rfl))) (fun _ _ _ _ _ => (pts_one (pt_not (pt_val (pe_call (ok__law_is_name Z) (hr.mono (by decide)) rfl Z.m__law_is_name Z.F__law_is_name.kp Z.b__law_is_name .nil pass0 (pa_cons (pv 7) pa_nil)))))) (fun _ _ _ _ _ => (pv 7))) (pe_lst pa_nil) (nomark _)) (pe_one (pe_cmpR (op_eqU hu64) (pe_lenSetT rfl rfl Z.z_len rfl Z.z_set (pv 4)) (pe_callB call_lenA (by rfl) Z.z_len (by decide +kernel) (pa_cons (pv 4) pa_nil)) (nomark _)))))
    (pss_one (ps_if (pt_cmpR (op_neU hu64) (pe_callB (call_repr hG hu66) (by rfl) Z.z_repr (by decide +kernel) (pa_cons (pe_lst (pa_cons (pe_call (ok_are_names Z) (hr.mono (by decide)) rfl Z.m_are_names Z.F_are_names.kp Z.b_are_names .nil pass0 (pa_cons (pv 4) pa_nil)) (pa_cons (pe_call (ok_are_names Z) (hr.mono (by decide)) rfl Z.m_are_names Z.F_are_names.kp Z.b_are_names .nil pass0 (pa_cons (pe_callTy call_tuple_of (by rfl) Z.z_tuple (by decide +kernel) (pa_cons (pv 4) pa_nil)) pa_nil)) (pa_cons (pe_callK0 (ok_are_names Z) (hr.mono (by decide)) rfl Z.m_are_names Z.F_are_names.kp (Z.k_are_names_value) pass0 (pk_cons (pv 4) pk_nil)) pa_nil)))) pa_nil)) (pe_callB (call_repr hG hu66) (by rfl) Z.z_repr (by decide +kernel) (pa_cons (pe_op op_mulU (pe_lst (pa_cons (pv 6) pa_nil)) pe_int) pa_nil)) (nomark _))
    (pss_one (ps_ret pe_bl))
    pss_nil))))))))
    (pss_cons (ps_set (i := 8) sc_law.nd rfl (Or.inl rfl) (pe_call (ok__law_pick Z) (hr.mono (by decide)) rfl Z.m__law_pick Z.F__law_pick.kp Z.b__law_pick .nil pass0 (pa_cons (pv 1) (pa_cons (pe_lst (pa_cons pe_non (pa_cons pe_int (pa_cons pe_bl (pa_cons pe_str (pa_cons (pe_disp (pps_cons pe_str pe_int pps_nil) (by rfl) (by rfl) (fun z => by cases z) (by decide)) (pa_cons (pe_lst (pa_cons pe_int pa_nil)) (pa_cons (pe_lst (pa_cons pe_non pa_nil)) (pa_cons (pe_lst (pa_cons (pe_lst (pa_cons pe_str pa_nil)) pa_nil)) (pa_cons (pe_lst (pa_cons pe_bl pa_nil)) pa_nil)))))))))) pa_nil))))
    (pss_cons (ps_if (PW.pt (pw_or (pt_cmpR op_notBl (pe_call (ok_are_names Z) (hr.mono (by decide)) rfl Z.m_are_names Z.F_are_names.kp Z.b_are_names .nil pass0 (pa_cons (pv 8) pa_nil)) pe_bl (nomark _)) (pw_or (pt_cmpR (op_neU hu64) (pe_lc (own := [("one", 7)]) rfl sc_law.nd (pi_tup (pe_tup (pa_cons pe_non (pa_cons pe_int (pa_cons pe_bl (pa_cons (pe_lst (pa_cons pe_str pa_nil)) (pa_cons (pe_tup (pa_cons pe_str pa_nil)) (pa_cons pe_dnewK pa_nil)))))))) (blkOk_by (own := [("one", 7)]) (N := N_law) (sc := defScope s_law) (by decide +kernel)) (fun _ _ _ _ _ => (pg_name (i := 7) sc_law.nd rfl (Or.inl rfl))) (fun _ _ _ _ _ => (pts_one (pt_cmpR op_notBl (pe_call (ok_is_name Z) (hr.mono (by decide)) rfl Z.m_is_name Z.F_is_name.kp Z.b_is_name .nil pass0 (pa_cons (pv 7) pa_nil)) pe_bl (nomark _)))) (fun _ _ _ _ _ => (pv 7))) (pe_lst pa_nil) (nomark _)) (pw_or1 (pt_cmpR op_notBl (pe_call (ok_are_names Z) (hr.mono (by decide)) rfl Z.m_are_names Z.F_are_names.kp Z.b_are_names .nil pass0 (pa_cons (pe_tup pa_nil) pa_nil)) pe_bl (nomark _))))))
    (pss_one (ps_ret pe_bl))
    pss_nil)
    (pss_cons (ps_par (i := 9) (j := 10) rfl sc_law.nd rfl rfl (by decide) rfl rfl (pa_cons (pe_lc (own := [("lap", 5)]) rfl sc_law.nd (pi_range1 rfl Z.z_range (pa_cons (pe_call (ok__law_draw Z) (hr.mono (by decide)) rfl Z.m__law_draw Z.F__law_draw.kp Z.b__law_draw .nil pass0 (pa_cons (pv 1) (pa_cons pe_int pa_nil))) pa_nil)) (blkOk_by (own := [("lap", 5)]) (N := N_law) (sc := defScope s_law) (by decide +kernel)) (fun _ _ _ _ _ => (pg_name (i := 5) sc_law.nd rfl (Or.inl rfl))) (fun _ _ _ _ _ => pts_nil) (fun _ _ _ _ _ => (pe_call (ok__law_pick Z) (hr.mono (by decide)) rfl Z.m__law_pick Z.F__law_pick.kp Z.b__law_pick .nil pass0 (pa_cons (pv 1) (pa_cons (pe_lst (pa_cons pe_str (pa_cons pe_str (pa_cons pe_str (pa_cons pe_str (pa_cons pe_str (pa_cons pe_str (pa_cons pe_str (pa_cons pe_str (pa_cons pe_str (pa_cons pe_str pa_nil))))))))))) pa_nil))))) (pa_cons (pe_call (ok__law_pick Z) (hr.mono (by decide)) rfl Z.m__law_pick Z.F__law_pick.kp Z.b__law_pick .nil pass0 (pa_cons (pv 1) (pa_cons (pe_lst (pa_cons pe_int (pa_cons pe_int (pa_cons pe_int (pa_cons pe_int (pa_cons pe_int (pa_cons pe_int (pa_cons pe_int pa_nil)))))))) pa_nil))) pa_nil)) rfl)
    (pss_cons (ps_set (i := 6) sc_law.nd rfl (Or.inl rfl) (pe_call (ok__law_order Z) (hr.mono (by decide)) rfl Z.m__law_order Z.F__law_order.kp Z.b__law_order .nil pass0 (pa_cons (pv 9) (pa_cons (pv 10) pa_nil))))
    (pss_one (ps_ret (pe_and (pe_cmpR (op_eqU hu64) (pe_call (ok_names_in_order Z) (hr.mono (by decide)) rfl Z.m_names_in_order Z.F_names_in_order.kp Z.b_names_in_order .nil pass0 (pa_cons (pv 9) (pa_cons (pv 10) pa_nil))) (pv 6) (nomark _)) (pe_one (pe_cmpR (op_eqU hu64) (pe_callK0 (ok_names_in_order Z) (hr.mono (by decide)) rfl Z.m_names_in_order Z.F_names_in_order.kp (Z.k_names_in_order_many_taken) pass0 (pk_cons (pv 10) (pk_cons (pe_callTy (call_dictP rfl) (by rfl) Z.z_dict (by decide +kernel) (pa_cons (pe_lc (own := [("one", 7)]) rfl sc_law.nd (pi_list (pv 9)) (blkOk_by (own := [("one", 7)]) (N := N_law) (sc := defScope s_law) (by decide +kernel)) (fun _ _ _ _ _ => (pg_name (i := 7) sc_law.nd rfl (Or.inl rfl))) (fun _ _ _ _ _ => pts_nil) (fun _ _ _ _ _ => (pe_tup (pa_cons (pv 7) (pa_cons pe_bl pa_nil))))) pa_nil)) pk_nil))) (pv 6) (nomark _))))))))))))
def odds : List D := [.non, .int 5, .bl true, .str "a", .dic [(.inr "a", .int 1)], .lst [.int 1], .lst [.non], .lst [.lst [.str "a"]], .lst [.bl true]]
def shortB : D → Bool
  | .str s => decide (s.length ≤ 1000)
  | _ => true
def knsB (e : D) : Bool := (tyD e).isSome && shortB e
theorem knsB_of {e : D} (h : knsB e = true) : kns e := by
  unfold knsB at h
  obtain ⟨h1, h2⟩ := Bool.and_eq_true_iff.mp h
  refine ⟨?_, fun s es => ?_⟩
  · unfold kn
    intro z
    rw [z] at h1
    cases h1
  · subst es
    have := of_decide_eq_true h2
    omega
def oddOk (d : D) : Bool := (tyD d).isSome && (match rowD d with
  | some es => decide (es.length ≤ 1000) && es.all knsB
  | none => true) && !areNamesD d
theorem odds_ok : odds.all oddOk = true := by decide +kernel
theorem oddOk_of {d : D} (h : oddOk d = true) : (kn d ∧ ∀ es, rowD d = some es → es.length ≤ 1000 ∧ ∀ e ∈ es, kns e) ∧ areNamesD d = false := by
  unfold oddOk at h
  obtain ⟨h12, h3⟩ := Bool.and_eq_true_iff.mp h
  obtain ⟨h1, h2⟩ := Bool.and_eq_true_iff.mp h12
  refine ⟨⟨?_, fun es e => ?_⟩, by simpa using h3⟩
  · unfold kn
    intro z
    rw [z] at h1
    cases h1
  · rw [e] at h2
    obtain ⟨h4, h5⟩ := Bool.and_eq_true_iff.mp h2
    exact ⟨of_decide_eq_true h4, fun x hx => knsB_of (List.all_eq_true.mp h5 x hx)⟩
def sixs : List D := [.non, .int 5, .bl true, .lst [.str "a"], .tup [.str "a"], .dic []]
theorem sixs_kns (x : D) (h : x ∈ sixs) : kns x := knsB_of ((List.all_eq_true (p := knsB)).mp (by decide +kernel) x h)
theorem ord_uniq (ts : List Str) (m : Nat) : ordS (uniq ts) m = ordS ts m := by
  have e : okIn (uniq ts) = okIn ts := by
    funext w
    unfold okIn
    have e2 : (uniq ts).contains w = ts.contains w := by
      refine Bool.eq_iff_iff.mpr ?_
      rw [List.contains_iff_mem, List.contains_iff_mem]
      exact uniq_mem ts w
    rw [e2]
  unfold ordS
  rw [e]
theorem strOk_let {w : Str} (h : w.cps.toList.all isLet = true) : PyData.strOk w = true := by
  unfold PyData.strOk
  rw [← Array.all_toList]
  refine List.all_eq_true.mpr fun c hc => ?_
  have h1 : c ∈ lets := of_decide_eq_true (List.all_eq_true.mp h c hc)
  exact (List.all_eq_true (p := fun c => decide (c < 0x110000))).mp (by decide +kernel : lets.all (fun c => decide (c < 0x110000)) = true) c h1
theorem W_strOk {w : Str} (h : w ∈ W) : PyData.strOk w = true := by
  unfold W at h
  rcases List.mem_append.mp h with h | h
  · rcases List.mem_append.mp h with h | h
    · exact strOk_let (lev_let 1 w h)
    · exact strOk_let (lev_let 2 w h)
  · exact strOk_let (lev_let 3 w h)
theorem none_odd (l : List D) : (l.filter fun d => !isNameD d).isEmpty = l.all isNameD := by
  induction l with
  | nil => rfl
  | cons x r ih =>
    rw [List.filter_cons, List.all_cons]
    cases isNameD x with
    | true => simpa using ih
    | false => rfl
theorem rng_draw {K : PySem.W.Frag} {a : Addr} {σ : St} {S : Wd} {m : Int} {N : Nat} {tv : TE} (hv : EvV K (some a) tv σ S (.ref a)) (h1 : 1 ≤ m ∧ m ≤ 1000) (h2 : m ≤ (N : Int) + 1) : EvSN K (some a) (iRng1 (tCons (tCall (sp__law_draw K) [] E0 (tCons tv (tCons (tC (.int m)) tNil))) tNil)) σ S 1 (fun ds => ∃ z : Int, ds = rng 0 z.toNat ∧ 0 ≤ z ∧ z ≤ (N : Int)) := by
  have e := es_rng1N (P := fun d => ∃ z : Int, d = .int z ∧ z ≤ (N : Int)) (EvN.le (en_call (n := 1) (N := 1) (ds := [.int m]) hv (ea_cons ed_int ea_nil) rfl ⟨m, rfl, by omega, by omega⟩ : EvN K (some a) (tCall (sp__law_draw K) [] E0 (tCons tv (tCons (tC (.int m)) tNil))) σ S 1 _) (Nat.le_refl 1) (by
    rintro d ⟨r, m', rfl, hm, h1', h2'⟩
    cases hm
    exact ⟨r, rfl, h1', by omega, r, rfl, by omega⟩))
  intro S2 g2 hb R q
  refine e S2 g2 hb R fun J ds S3 g3 t3 hds src => q J ds S3 g3 t3 ?_ src
  obtain ⟨z, e1, e2, z', e3, e4⟩ := hds
  cases e3
  exact ⟨z, e1, e2, e4⟩
theorem rd_law {K : PySem.W.Frag} {mg : Str → Option Value} (Z : Fs K mg) {vs : List V} {H : Hp} {Q : VK} {E : XK} (h : sp_law K vs H Q E) : t_law Z { nx := fun _ H' => Q .non H', rt := Q } (L2.start N_law vs) H := by
  obtain ⟨sc, ns, rfl, hs, hl, k⟩ := h
  have hz : ∀ n, Nat.ble n 1000 = true → n ≤ sizeLine := fun n e => Nat.le_trans (Nat.le_of_ble_eq_true e) (by rw [sizeLine_eq]; exact Nat.le_of_ble_eq_true rfl)
  refine ⟨_, rfl, sc, ns, fun _ => none, rfl, hs, hl, ⟨fun a o e => (by cases e), fun a e => (by cases e)⟩, fun a c F' H' g hc ha hF hH => ?_⟩
  have okp : Ok K (some a) ⟨F', H', 0⟩ := ⟨g.ok.sub, fun b e => by
    cases e
    exact ⟨⟨c, 0, 0, ns, ha, hc, hl, Int.le_refl _, Int.le_refl _, Int.le_refl _⟩, hF⟩⟩
  have st : Sta K (some a) ⟨F', H', 0⟩ F' N_law.length 1000 0 ((L2.start N_law [V.ref sc]).set 1 (some (.ref a))) ⟨F', H', 0⟩ [(1, .val (.ref a))] := by
    refine ⟨okp, Gr.refl okp, fun _ _ q => q, rfl, by show 0 + 1000 ≤ 1000000000; decide, Nat.le_refl _, fun q hq => ?_, fun x hx b hb ne oa => ?_⟩
    · rw [List.mem_singleton.mp hq]
      exact ⟨.ref a, rfl, rfl⟩
    · rw [List.mem_singleton.mp hx] at oa
      cases oa
  show tSeq _ _ _ _ _
  refine s_seq (s_for (w := 36) (α := Unit) (fun _ _ => True) (fun _ => [(1, .val (.ref a))]) () st (es_rng1 (z := 12) (eh_cons (EvD.h ed_int) eh_nil) ⟨by decide, by decide⟩) (by decide) True.intro ⟨rfl, True.intro⟩ (fun B' c _ x σ1 S1 hx _ st1 D' hrt nx _ _ => ?_) (fun _ σ1 S1 _ st1 => ?_))
  · have hc : c < 12 := by
      have := (List.getElem?_eq_some_iff.mp hx).1
      rw [rng_len] at this
      exact this
    have hcw : 0 + c * 36 + 36 ≤ 1000 := by omega
    refine s_seq (s_ifN (k := 4) st1 (EvN.le (en_call (n := 0) (N := 4) (ds := []) (ev_var st1 rfl) ea_nil rfl True.intro) (Nat.le_refl _) fun d h => h) (by omega) fun S2 st2 => ?_)
    refine s_next ?_
    dsimp only
    have td : EvN K (some a) (tCall (sp__law_text_drawn K) [] E0 (tCons (tVar 1) tNil)) σ1 S2 12 (fun d => ∃ s : Str, d = .str s ∧ s.length ≤ 11) := EvN.le (en_call (n := 0) (N := 12) (ds := []) (ev_var st2 rfl) ea_nil rfl True.intro) (Nat.le_refl _) fun d ⟨s, e, h⟩ => ⟨s, e, by omega⟩
    have cw : EvD K (some a) (tCall (sp__law_words K) [] E0 tNil) σ1 S2 (.lst (words.map D.str)) := ed_call (ds := []) ea_nil rfl True.intro
    have pw : EvN K (some a) (tCall (sp__law_pick K) [] E0 (tCons (tVar 1) (tCons (tCall (sp__law_words K) [] E0 tNil) tNil))) σ1 S2 1 (fun d => ∃ s : Str, d = .str s ∧ s.length ≤ 10) := EvN.le (en_call (n := 1) (N := 1) (ds := [.lst (words.map D.str)]) (ev_var st2 rfl) (ea_cons cw ea_nil) rfl ⟨_, rfl, (by intro z; cases z), Nat.le_of_ble_eq_true rfl⟩) (Nat.le_refl _) fun d ⟨es, he, hd⟩ => by
      cases he
      obtain ⟨s, hs, rfl⟩ := List.mem_map.mp hd
      exact ⟨s, rfl, of_decide_eq_true ((List.all_eq_true (p := fun s : Str => decide (s.length ≤ 10))).mp (by decide +kernel) s hs)⟩
    have pws : EvN K (some a) (tOp (rAddU K) (tCall (sp__law_pick K) [] E0 (tCons (tVar 1) (tCons (tCall (sp__law_words K) [] E0 tNil) tNil))) (tC (.str "s"))) σ1 S2 1 (fun d => ∃ s : Str, d = .str s ∧ s.length ≤ 11) := en_op1 pw ed_str fun d ⟨s, e, h⟩ => by
      subst e
      refine ⟨.str (s ++ "s"), ⟨_, rfl, ?_⟩, rd_addS ?_⟩
      · rw [str_len_app]
        show s.length + 1 ≤ 11
        omega
      · show s.length + 1 ≤ sizeLine
        exact Nat.le_trans (by omega) (hz 11 rfl)
    have pick4 := ean_cons (en_lst (ean_cons td (ean_cons td (ean_cons pw (ean_cons pws ean_nil)))) (fun ds hds => by
      obtain ⟨_, _, rfl, _, _, _, rfl, _, _, _, rfl, _, _, _, rfl, _, rfl⟩ := hds
      exact hz _ rfl)) ean_nil
    refine s_seq (s_N (k := 27) (P := fun d => ∃ s : Str, d = .str s ∧ s.length ≤ 11) st2 (EvN.le (en_callA (nn := 1) (N := 1) (ev_var st2 rfl) pick4 (fun ds hds => ?_)) (Nat.le_of_ble_eq_true rfl) (fun e he => ?_)) (by decide) (by omega) fun d σ3 S3 hd st3 => ?_)
    · obtain ⟨_, _, rfl, ⟨_, rfl, _, _, rfl, _, _, _, rfl, _, _, _, rfl, _, _, _, rfl, _, rfl⟩, rfl⟩ := hds
      exact ⟨rfl, _, rfl, (by intro z; cases z), Nat.le_of_ble_eq_true rfl⟩
    · obtain ⟨ds, ⟨_, _, rfl, ⟨_, rfl, d1, _, rfl, h1, d2, _, rfl, h2, d3, _, rfl, h3, d4, _, rfl, h4, rfl⟩, rfl⟩, es, he, hd⟩ := he
      cases he
      rcases List.mem_cons.mp hd with rfl | hd
      · exact h1
      · rcases List.mem_cons.mp hd with rfl | hd
        · exact h2
        · rcases List.mem_cons.mp hd with rfl | hd
          · obtain ⟨s, e, h⟩ := h3
            exact ⟨s, e, by omega⟩
          · rcases List.mem_cons.mp hd with rfl | hd
            · exact h4
            · cases hd
    obtain ⟨s, rfl, hs11⟩ := hd
    have knS : kn (.str s) := by unfold kn; intro z; cases z
    have knsS : kns (.str s) := ⟨knS, fun t e => by cases e; omega⟩
    have stS : ∃ t : Str, D.str s = .str t ∧ t.length ≤ 1000000 := ⟨s, rfl, by omega⟩
    have v3 : EvD K (some a) (tVar 3) σ3 S3 (.str s) := ed_var st3 rfl
    have rep1 : EvD K (some a) (tCB (rRepr K) (tCons (tLst (tCons (tCall (sp_is_name K) [] E0 (tCons (tVar 3) tNil)) (tCons (tCallK (sp_is_name K) (gv_is_name_value) E0 tNil (tCons (tVar 3) tNil)) (tCons (tCall (sp_is_statement K) [] E0 (tCons (tVar 3) tNil)) tNil)))) tNil)) σ3 S3 (.str (D.lst [.bl (isNameS s), .bl (isNameS s), .bl (isStmt s)]).py.shown) :=
      ed_cb (eh_cons (EvO.h (eo_lst (ea_cons (ed_call (ds := [.str s]) (ea_cons v3 ea_nil) rfl knsS) (ea_cons (ed_callK (gD := gv_is_name_value []) (ds := [.str s]) (ea_cons v3 ea_nil) (fun F vs r => by
        cases r with
        | cons r1 r => cases r; exact .cons r1 .nil) rfl knsS) (ea_cons (ed_call (ds := [.str s]) (ea_cons v3 ea_nil) rfl stS) ea_nil))) (hz _ rfl))) eh_nil) (rep3 _ _ _)
    have ln1 : EvD K (some a) (tCall (sp__law_is_name K) [] E0 (tCons (tVar 3) tNil)) σ3 S3 (.bl (isNameS s)) := ed_call (ds := [.str s]) (ea_cons v3 ea_nil) rfl knsS
    have cat1 : EvO K (some a) (tOp (rAddU K) (tOp rMulU (tLst (tCons (tCall (sp__law_is_name K) [] E0 (tCons (tVar 3) tNil)) tNil)) (tC (.int 2))) (tLst (tCons (tOrV (tCall (sp__law_is_name K) [] E0 (tCons (tVar 3) tNil)) (tOp (rInV K) (tVar 3) (tTup (tCons (tC (.str "nothing")) (tCons (tC (.str "any")) (tCons (tC (.str "no")) tNil)))))) tNil))) σ3 S3 [.bl (isNameS s), .bl (isNameS s), .bl (isStmt s)] := by
      have e : ((List.replicate (2 : Int).toNat [D.bl (isNameS s)]).flatten ++ [D.bl (isNameS s || inD (.str s) [.str "nothing", .str "any", .str "no"])]) = [.bl (isNameS s), .bl (isNameS s), .bl (isStmt s)] := by
        have e2 : (isNameS s || inD (.str s) [.str "nothing", .str "any", .str "no"]) = isStmt s := by
          rw [Bool.or_comm]
          unfold isStmt
          exact congrArg (· || isNameS s) (inD_strs s ["nothing", "any", "no"])
        rw [e2]
        rfl
      rw [← e]
      exact eo_catU (EvO.q (eo_repU (EvO.q (eo_lst (ea_cons ln1 ea_nil) (hz _ rfl))) ed_int ⟨by decide, by decide⟩ (hz _ rfl))) (EvO.q (eo_lst (ea_cons (ed_or ln1 fun _ => ed_op v3.h (EvD.h (ed_tup (ea_cons ed_str (ea_cons ed_str (ea_cons ed_str ea_nil))) (hz _ rfl))) (rd_inT2 rfl rfl)) ea_nil) (hz _ rfl))) (hz _ rfl)
    refine s_seq (s_if (b := false) st3 (EvT.is (et_test (ed_op rep1.h (EvD.h (ed_cb (eh_cons cat1.h eh_nil) (rep3 _ _ _))) rd_neUs)) ?_) (fun hb S4 st4 => by cases hb) (fun _ S4 st4 => ?_))
    · rw [decide_eq_true rfl]
      rfl
    refine s_next ?_
    dsimp only
    have six : ∀ (σ : St) (S : Wd), EvD K (some a) (tVar 3) σ S (.str s) → EvV K (some a) (tVar 1) σ S (.ref a) → EvN K (some a) (tCall (sp__law_pick K) [] E0 (tCons (tVar 1) (tCons (tLst (tCons (tC (.str "a")) (tCons (tC (.str "b")) (tCons (tC (.str "zz")) (tCons (tC (.str "abcdefgh")) (tCons (tVar 3) (tCons (tC (.str "any")) tNil))))))) tNil))) σ S 1 (fun d => ∃ t : Str, d = .str t ∧ t.length ≤ 11) := fun σ S hv hp =>
      EvN.le (en_call (n := 1) (N := 1) (ds := [.lst ((["a", "b", "zz", "abcdefgh", s, "any"] : List Str).map D.str)]) hp (ea_cons (EvO.ed (eo_lst (ea_cons ed_str (ea_cons ed_str (ea_cons ed_str (ea_cons ed_str (ea_cons hv (ea_cons ed_str ea_nil)))))) (hz _ rfl))) ea_nil) rfl ⟨_, rfl, (by intro z; cases z), Nat.le_of_ble_eq_true rfl⟩) (Nat.le_refl _) fun d ⟨es, he, hd⟩ => by
        cases he
        obtain ⟨t, ht, rfl⟩ := List.mem_map.mp hd
        refine ⟨t, rfl, ?_⟩
        rcases List.mem_cons.mp ht with rfl | ht
        · exact Nat.le_of_ble_eq_true rfl
        rcases List.mem_cons.mp ht with rfl | ht
        · exact Nat.le_of_ble_eq_true rfl
        rcases List.mem_cons.mp ht with rfl | ht
        · exact Nat.le_of_ble_eq_true rfl
        rcases List.mem_cons.mp ht with rfl | ht
        · exact Nat.le_of_ble_eq_true rfl
        rcases List.mem_cons.mp ht with rfl | ht
        · exact hs11
        rcases List.mem_cons.mp ht with rfl | ht
        · exact Nat.le_of_ble_eq_true rfl
        cases ht
    have lc := en_lcN (i := 5) (vs := [5]) (w := 1) (L := 4) (R := fun _ e => ∃ t : Str, e = .str t ∧ t.length ≤ 11) (te := tCall (sp__law_pick K) [] E0 (tCons (tVar 1) (tCons (tLst (tCons (tC (.str "a")) (tCons (tC (.str "b")) (tCons (tC (.str "zz")) (tCons (tC (.str "abcdefgh")) (tCons (tVar 3) (tCons (tC (.str "any")) tNil))))))) tNil))) st4 (rng_draw (tv := tVar 1) (m := 5) (N := 4) (ev_var st4 rfl) (by decide) (by decide)) (by decide) (by decide) (fun ds hds => by
        obtain ⟨z, rfl, _, h2⟩ := hds
        rw [rng_len]
        omega) (Nat.lt_of_lt_of_le (by decide) (hz 5 rfl)) (fun ds hds d hd B' n' σ' S' st' => six σ' S' (ed_var st' rfl) (ev_var st' rfl))
    refine s_seq (s_N (k := 5) (P := fun d => ∃ ys : List Str, d = .lst (ys.map D.str) ∧ ys.length ≤ 4 ∧ ∀ y ∈ ys, y.length ≤ 11) st4 (EvN.le lc.ed (Nat.le_refl _) fun d hd => ?_) (by decide) (by omega) fun d σ5 S5 hd st5 => ?_)
    · obtain ⟨es, rfl, ds, ⟨z, rfl, _, h2⟩, hl2, hall⟩ := hd
      obtain ⟨ys, rfl, hys⟩ := strs_of (P := fun s => s.length ≤ 11) fun e he => (lc_all hl2 hall e he).choose_spec.2
      rw [List.length_map, rng_len] at hl2
      exact ⟨ys, rfl, by omega, hys⟩
    obtain ⟨ys, rfl, hys4, hys⟩ := hd
    have elk : ∀ x ∈ ys.map D.str, kns x := fun x hx => by
      obtain ⟨y, hy, rfl⟩ := List.mem_map.mp hx
      exact ⟨(by unfold kn; intro z; cases z), fun t e => by cases e; have := hys y hy; omega⟩
    have elm : (ys.map D.str).length ≤ 4 := by rw [List.length_map]; exact hys4
    have lcd : EvO K (some a) (tLc (iList K (tVar 4)) (gName 7) (tNot (tB (tCall (sp__law_is_name K) [] E0 (tCons (tVar 7) tNil)))) (tVar 7) [7]) σ5 S5 (((ys.map D.str).filter fun d => !isNameD d).map fun d => d) :=
      eo_lc (i := 7) (vs := [7]) (b := fun d => !isNameD d) (f := fun d => d) st5 (es_list (ed_var st5 rfl)) (by decide) (by decide) (fun x hx B'' n' σ' S' st' => ⟨et_not (et_B (ed_call (ds := [x]) (ea_cons (ed_var st' rfl) ea_nil) rfl (elk x hx))), fun _ => ed_var st' rfl⟩) (Nat.lt_of_le_of_lt elm (Nat.lt_of_lt_of_le (by decide) (hz 5 rfl)))
    have v4 : EvD K (some a) (tVar 4) σ5 S5 (.lst (ys.map D.str)) := ed_var st5 rfl
    refine s_seq (s_dat (d := .bl (areNamesD (.lst (ys.map D.str)))) st5 (EvD.is (ed_and (ed_op lcd.h (EvO.h (eo_lst ea_nil (hz _ rfl))) rd_eqNil) fun _ => ed_op (EvD.h (ed_lenSet v4.ql (by omega))) (EvD.h (ed_len v4.h (rl_L (Nat.le_trans elm (hz 4 rfl))))) rd_eqI) ?_) (by decide) fun σ6 S6 st6 => ?_)
    · rw [List.map_id', none_odd, List.length_map]
      show D.bl (_ && decide (((uniq ys).length : Int) = (ys.length : Int))) = D.bl ((ys.map D.str).all isNameD && decide ((uniq ((ys.map D.str).map keyS)).length = (ys.map D.str).length))
      have e3 : (ys.map D.str).map keyS = ys := by rw [List.map_map]; exact List.map_id ys
      rw [e3, List.length_map]
      congr 2
      exact decide_eq_decide.mpr (by omega)
    have v4' : EvD K (some a) (tVar 4) σ6 S6 (.lst (ys.map D.str)) := ed_var st6 rfl
    have preL : kn (.lst (ys.map D.str)) ∧ ∀ es, rowD (.lst (ys.map D.str)) = some es → es.length ≤ 1000 ∧ ∀ e ∈ es, kns e := ⟨(by unfold kn; intro z; cases z), fun es e => by cases e; exact ⟨by omega, elk⟩⟩
    have preT : kn (.tup (ys.map D.str)) ∧ ∀ es, rowD (.tup (ys.map D.str)) = some es → es.length ≤ 1000 ∧ ∀ e ∈ es, kns e := ⟨(by unfold kn; intro z; cases z), fun es e => by cases e; exact ⟨by omega, elk⟩⟩
    have rep2 : EvD K (some a) (tCB (rRepr K) (tCons (tLst (tCons (tCall (sp_are_names K) [] E0 (tCons (tVar 4) tNil)) (tCons (tCall (sp_are_names K) [] E0 (tCons (tCB (rTuple K) (tCons (tVar 4) tNil)) tNil)) (tCons (tCallK (sp_are_names K) (gv_are_names_value) E0 tNil (tCons (tVar 4) tNil)) tNil)))) tNil)) σ6 S6 (.str (D.lst [.bl (areNamesD (.lst (ys.map D.str))), .bl (areNamesD (.lst (ys.map D.str))), .bl (areNamesD (.lst (ys.map D.str)))]).py.shown) :=
      ed_cb (eh_cons (EvO.h (eo_lst (ea_cons (ed_call (ds := [.lst (ys.map D.str)]) (ea_cons v4' ea_nil) rfl preL) (ea_cons (ed_call (ds := [.tup (ys.map D.str)]) (ea_cons (ed_tuple v4'.ql) ea_nil) rfl preT) (ea_cons (ed_callK (gD := gv_are_names_value []) (ds := [.lst (ys.map D.str)]) (ea_cons v4' ea_nil) (fun F vs r => by
        cases r with
        | cons r1 r => cases r; exact .cons r1 .nil) rfl preL) ea_nil))) (hz _ rfl))) eh_nil) (rep3 _ _ _)
    have cat2 : EvO K (some a) (tOp rMulU (tLst (tCons (tVar 6) tNil)) (tC (.int 3))) σ6 S6 [.bl (areNamesD (.lst (ys.map D.str))), .bl (areNamesD (.lst (ys.map D.str))), .bl (areNamesD (.lst (ys.map D.str)))] :=
      eo_repU (EvO.q (eo_lst (ea_cons (ed_var st6 rfl) ea_nil) (hz _ rfl))) ed_int ⟨by decide, by decide⟩ (hz _ rfl)
    refine s_if (b := false) st6 (EvT.is (et_test (ed_op rep2.h (EvD.h (ed_cb (eh_cons cat2.h eh_nil) (rep3 _ _ _))) rd_neUs)) ?_) (fun hb S7 st7 => by cases hb) (fun _ S7 st7 => ?_)
    · rw [decide_eq_true rfl]
      rfl
    refine s_next ?_
    exact nx () _ _ _ True.intro (st7.more (by omega)) ⟨rfl, True.intro⟩
  · have st1 := st1.more (k := 432) (by rw [rng_len]; decide)
    show tSeq _ _ _ _ _
    have lsi : ∀ (x : D) (te : TE) (σ : St) (S : Wd), EvD K (some a) te σ S x → EvD K (some a) (tLst (tCons te tNil)) σ S (.lst [x]) := fun x te σ S h => EvO.ed (eo_lst (ea_cons h ea_nil) (hz _ rfl))
    refine s_seq (s_N (k := 1) (P := fun d => oddOk d = true) st1 (EvN.le (en_call (n := 1) (N := 1) (ds := [.lst odds]) (ev_var st1 rfl)
      (ea_cons (EvO.ed (eo_lst (ea_cons ed_non (ea_cons ed_int (ea_cons ed_bl (ea_cons ed_str (ea_cons (EvOD.ed ed_disp1) (ea_cons (lsi _ _ _ _ ed_int) (ea_cons (lsi _ _ _ _ ed_non) (ea_cons (lsi _ _ _ _ (lsi _ _ _ _ ed_str)) (ea_cons (lsi _ _ _ _ ed_bl) ea_nil))))))))) (hz _ rfl))) ea_nil) rfl ⟨_, rfl, (by intro z; cases z), Nat.le_of_ble_eq_true rfl⟩) (Nat.le_refl _) fun d ⟨es, he, hd⟩ => by
        cases he
        exact (List.all_eq_true (p := oddOk)).mp odds_ok d hd) (by decide) (by omega) fun d σ2 S2 hd st2 => ?_)
    obtain ⟨pre1, an1⟩ := oddOk_of hd
    have c1 : EvD K (some a) (tCall (sp_are_names K) [] E0 (tCons (tVar 8) tNil)) σ2 S2 (.bl false) := by
      have e := ed_call (p := some a) (K := K) (S := S2) (σ := σ2) (n := 1) (pre := fun ds => kn (h0 ds) ∧ ∀ es, rowD (h0 ds) = some es → es.length ≤ 1000 ∧ ∀ e ∈ es, kns e) (f := fun ds => .bl (areNamesD (h0 ds))) (E := E0) (t := tCons (tVar 8) tNil) (ds := [d]) (ea_cons (ed_var st2 rfl) ea_nil) rfl pre1
      have e2 : areNamesD (h0 [d]) = false := an1
      rw [e2] at e
      exact e
    have t1 : EvT K (some a) (tTest (tOp rNotB (tCall (sp_are_names K) [] E0 (tCons (tVar 8) tNil)) (tC (.bl false)))) σ2 S2 false := EvT.is (et_test (ed_op c1.h (EvD.h ed_bl) rd_notB)) rfl
    have lcs : EvO K (some a) (tLc (iTup K (tTup (tCons (tC .non) (tCons (tC (.int 5)) (tCons (tC (.bl true)) (tCons (tLst (tCons (tC (.str "a")) tNil)) (tCons (tTup (tCons (tC (.str "a")) tNil)) (tCons tDNewK tNil)))))))) (gName 7) (tTest (tOp rNotB (tCall (sp_is_name K) [] E0 (tCons (tVar 7) tNil)) (tC (.bl false)))) (tVar 7) [7]) σ2 S2 ((sixs.filter fun d => !decide (isNameD d = false)).map fun d => d) :=
      eo_lc (i := 7) (vs := [7]) (b := fun d => !decide (isNameD d = false)) (f := fun d => d) st2 (es_tup (ed_tup (ea_cons ed_non (ea_cons ed_int (ea_cons ed_bl (ea_cons (lsi _ _ _ _ ed_str) (ea_cons (ed_tup (ea_cons ed_str ea_nil) (hz _ rfl)) (ea_cons (EvOD.ed eod_new) ea_nil)))))) (hz _ rfl))) (by decide) (by decide) (fun x hx B'' n' σ' S' st' => ⟨et_test (ed_op (EvD.h (ed_call (ds := [x]) (ea_cons (ed_var st' rfl) ea_nil) rfl (sixs_kns x hx))) (EvD.h ed_bl) rd_notB), fun _ => ed_var st' rfl⟩) (Nat.lt_of_lt_of_le (by decide) (hz 7 rfl))
    have sixE : (!((sixs.filter fun d => !decide (isNameD d = false)).map fun d => d).isEmpty) = false := by decide +kernel
    have c3 : EvD K (some a) (tCall (sp_are_names K) [] E0 (tCons (tTup tNil) tNil)) σ2 S2 (.bl true) := ed_call (ds := [.tup []]) (ea_cons (ed_tup ea_nil (hz _ rfl)) ea_nil) rfl ⟨(by unfold kn; intro z; cases z), fun es e => by cases e; exact ⟨Nat.zero_le _, fun x hx => by cases hx⟩⟩
    refine s_seq (s_if (b := false) st2 (EvT.is (et_or t1 fun _ => et_or (EvT.is (et_test (ed_op lcs.h (EvO.h (eo_lst ea_nil (hz _ rfl))) rd_neNil)) sixE) fun _ => EvT.is (b := false) (et_test (ed_op c3.h (EvD.h ed_bl) rd_notB)) rfl) rfl) (fun hb S3 st3 => by cases hb) (fun _ S3 st3 => ?_))
    refine s_next ?_
    show tSeq _ _ _ _ _
    have tens : ∀ (σ : St) (S : Wd), EvV K (some a) (tVar 1) σ S (.ref a) → EvN K (some a) (tCall (sp__law_pick K) [] E0 (tCons (tVar 1) (tCons (tLst (tCons (tC (.str "a")) (tCons (tC (.str "b")) (tCons (tC (.str "c")) (tCons (tC (.str "z")) (tCons (tC (.str "aa")) (tCons (tC (.str "ab")) (tCons (tC (.str "zz")) (tCons (tC (.str "no")) (tCons (tC (.str "or")) (tCons (tC (.str "x")) tNil))))))))))) tNil))) σ S 1 (fun d => ∃ t : Str, d = .str t ∧ t ∈ ten) := fun σ S hp =>
      EvN.le (en_call (n := 1) (N := 1) (ds := [.lst (ten.map D.str)]) hp (ea_cons (EvO.ed (eo_lst (ea_cons ed_str (ea_cons ed_str (ea_cons ed_str (ea_cons ed_str (ea_cons ed_str (ea_cons ed_str (ea_cons ed_str (ea_cons ed_str (ea_cons ed_str (ea_cons ed_str ea_nil)))))))))) (hz _ rfl))) ea_nil) rfl ⟨_, rfl, (by intro z; cases z), Nat.le_of_ble_eq_true rfl⟩) (Nat.le_refl _) fun d ⟨es, he, hd⟩ => by
        cases he
        obtain ⟨t, ht, rfl⟩ := List.mem_map.mp hd
        exact ⟨t, rfl, ht⟩
    have lc := en_lcN (i := 5) (vs := [5]) (w := 1) (L := 11) (R := fun _ e => ∃ t : Str, e = .str t ∧ t ∈ ten) (te := tCall (sp__law_pick K) [] E0 (tCons (tVar 1) (tCons (tLst (tCons (tC (.str "a")) (tCons (tC (.str "b")) (tCons (tC (.str "c")) (tCons (tC (.str "z")) (tCons (tC (.str "aa")) (tCons (tC (.str "ab")) (tCons (tC (.str "zz")) (tCons (tC (.str "no")) (tCons (tC (.str "or")) (tCons (tC (.str "x")) tNil))))))))))) tNil))) st3 (rng_draw (tv := tVar 1) (m := 12) (N := 11) (ev_var st3 rfl) (by decide) (by decide)) (by decide) (by decide) (fun ds hds => by
        obtain ⟨z, rfl, _, h2⟩ := hds
        rw [rng_len]
        omega) (Nat.lt_of_lt_of_le (by decide) (hz 12 rfl)) (fun ds hds d hd B' n' σ' S' st' => tens σ' S' (ev_var st' rfl))
    have takenE : EvN K (some a) _ σ2 S3 12 (fun d => ∃ ts : List Str, d = .lst (ts.map D.str) ∧ ts.length ≤ 11 ∧ ∀ t ∈ ts, t ∈ ten) := EvN.le lc.ed (Nat.le_refl _) fun d hd => by
      obtain ⟨es, rfl, ds, ⟨z, rfl, _, h2⟩, hl2, hall⟩ := hd
      obtain ⟨ys, rfl, hys⟩ := strs_of (P := fun s => s ∈ ten) fun e he => (lc_all hl2 hall e he).choose_spec.2
      rw [List.length_map, rng_len] at hl2
      exact ⟨ys, rfl, by omega, hys⟩
    have manyE : EvN K (some a) (tCall (sp__law_pick K) [] E0 (tCons (tVar 1) (tCons (tLst (tCons (tC (.int 0)) (tCons (tC (.int 1)) (tCons (tC (.int 5)) (tCons (tC (.int 26)) (tCons (tC (.int 30)) (tCons (tC (.int 700)) (tCons (tC (.int 730)) tNil)))))))) tNil))) σ2 S3 1 (fun d => ∃ m : Nat, d = .int (m : Int) ∧ m ≤ 730) :=
      EvN.le (en_call (n := 1) (N := 1) (ds := [.lst (([0, 1, 5, 26, 30, 700, 730] : List Nat).map fun m : Nat => D.int (m : Int))]) (ev_var st3 rfl) (ea_cons (EvO.ed (eo_lst (ea_cons ed_int (ea_cons ed_int (ea_cons ed_int (ea_cons ed_int (ea_cons ed_int (ea_cons ed_int (ea_cons ed_int ea_nil))))))) (hz _ rfl))) ea_nil) rfl ⟨_, rfl, (by intro z; cases z), Nat.le_of_ble_eq_true rfl⟩) (Nat.le_refl _) fun d ⟨es, he, hd⟩ => by
        cases he
        obtain ⟨m, hm, rfl⟩ := List.mem_map.mp hd
        exact ⟨m, rfl, of_decide_eq_true ((List.all_eq_true (p := fun m : Nat => decide (m ≤ 730))).mp (by decide +kernel) m hm)⟩
    refine s_seq (s_par st3 takenE.x manyE.x (by decide) (by decide) (by decide) (by decide) fun t1 t2 σ4 S4 p1 p2 st4 => ?_)
    obtain ⟨_, rfl, ts, rfl, htl, hts⟩ := p1
    obtain ⟨_, rfl, m, rfl, hm⟩ := p2
    show tSeq _ _ _ _ _
    have pre3 : preOrd [.lst (ts.map D.str), .int (m : Int)] := ⟨ts, m, hts, by omega, rfl, hm, .inl rfl⟩
    have res3 : D.lst ((ordS (takenD (.lst (ts.map D.str))) (manyD (.int (m : Int)))).map D.str) = .lst ((ordS ts m).map D.str) := by
      rw [taken_eq (.inl rfl)]
      rfl
    have v9 : EvD K (some a) (tVar 9) σ4 S4 (.lst (ts.map D.str)) := ed_var st4 rfl
    have v10 : EvD K (some a) (tVar 10) σ4 S4 (.int (m : Int)) := ed_var st4 rfl
    refine s_seq (s_dat st4 (EvD.is (ed_call (ds := [.lst (ts.map D.str), .int (m : Int)]) (ea_cons v9 (ea_cons v10 ea_nil)) rfl pre3) res3) (by decide) fun σ5 S5 st5 => ?_)
    have w9 : EvD K (some a) (tVar 9) σ5 S5 (.lst (ts.map D.str)) := ed_var st5 rfl
    have w10 : EvD K (some a) (tVar 10) σ5 S5 (.int (m : Int)) := ed_var st5 rfl
    have w6 : EvD K (some a) (tVar 6) σ5 S5 (.lst ((ordS ts m).map D.str)) := ed_var st5 rfl
    have hsh : (D.lst ((ordS ts m).map D.str)).sh = true := sh_strs _ fun s hs => W_strOk (List.mem_filter.mp (List.mem_of_mem_take hs)).1
    have prs : EvD K (some a) (tLc (iList K (tVar 9)) (gName 7) tYes (tTup (tCons (tVar 7) (tCons (tC (.bl true)) tNil))) [7]) σ5 S5 (.lst ((ts.map fun t => ((.inr t : Key), D.bl true)).map fun kd => D.tup [kD kd.1, kd.2])) := by
      refine EvD.is (EvO.ed (eo_lc (i := 7) (vs := [7]) (b := fun _ => true) (f := fun d => .tup [d, .bl true]) st5 (es_list w9) (by decide) (by decide) (fun x hx B'' n' σ' S' st' => ⟨et_yes, fun _ => ed_tup (ea_cons (ed_var st' rfl) (ea_cons ed_bl ea_nil)) (hz _ rfl)⟩) (by rw [List.length_map]; exact Nat.lt_of_le_of_lt htl (Nat.lt_of_lt_of_le (by decide) (hz 12 rfl))))) ?_
      rw [filter_true, List.map_map, List.map_map]
      rfl
    have hkeys : (mkD (ts.map fun t => ((.inr t : Key), D.bl true))).map (·.1) = (uniq ts).map Sum.inr := by
      rw [mkD_keys, List.map_map]
      exact uniq_map (fun t => (.inr t : Key)) (fun x y q => by cases q; rfl) ts
    have hul : (uniq ts).length ≤ ts.length := by rw [← SetT.cnt_list]; exact SetT.cnt_le _ _
    have pre4 : preOrd (gv_names_in_order_many_taken [] [.int (m : Int), .dic (mkD (ts.map fun t => ((.inr t : Key), D.bl true)))]) := ⟨uniq ts, m, fun t ht => hts t ((uniq_mem ts t).mp ht), by omega, rfl, hm, .inr ⟨_, rfl, hkeys⟩⟩
    have res4 : D.lst ((ordS (takenD (.dic (mkD (ts.map fun t => ((.inr t : Key), D.bl true))))) (manyD (.int (m : Int)))).map D.str) = .lst ((ordS ts m).map D.str) := by
      rw [taken_eq (.inr ⟨_, rfl, hkeys⟩), ord_uniq]
      rfl
    have call4 : EvD K (some a) (tCallK (sp_names_in_order K) (gv_names_in_order_many_taken) E0 tNil (tCons (tVar 10) (tCons (tCB (rDictP K) (tCons (tLc (iList K (tVar 9)) (gName 7) tYes (tTup (tCons (tVar 7) (tCons (tC (.bl true)) tNil))) [7]) tNil)) tNil))) σ5 S5 (.lst ((ordS ts m).map D.str)) :=
      EvD.is (ed_callK (gD := gv_names_in_order_many_taken []) (ds := [.int (m : Int), .dic (mkD (ts.map fun t => ((.inr t : Key), D.bl true)))]) (ea_cons w10 (ea_cons (EvOD.ed (eod_dictP prs)) ea_nil)) (fun F vs r => by
        cases r with
        | cons r1 r => cases r with
          | cons r2 r => cases r; exact .cons r2 (.cons r1 .nil)) rfl pre4) res4
    refine s_ret st5 (ed_and (ed_op (EvD.h (EvD.is (ed_call (ds := [.lst (ts.map D.str), .int (m : Int)]) (ea_cons w9 (ea_cons w10 ea_nil)) rfl pre3) res3)) w6.h (rd_eqSame hsh)) fun _ => ed_op call4.h w6.h (rd_eqSame hsh)) (fun v S' g ht r => ?_)
    cases r
    exact k S'.H
theorem ok_law {P : Program} {w : World} {K : PySem.W.Frag} {mg : Str → Option Value} {base : Heap} (Z : Fs K mg) : GnOk P w K mg base CX0 5 Z.a_law Z.d_law ["script"] (sp_law K) :=
  gn_ok Z.F_law sc_law (fun _ _ _ _ h => ln_law h) (fun cdv A outer s H vs Q E hG hr h => ⟨t_law Z, ps_law Z hG hr, rd_law Z h⟩)
theorem kb_are_names_value {K : PySem.W.Frag} {f : Addr} {fd : FuncData} (F : Fun K "are_names" "are_names" s_are_names f fd) : KBinds K fd ["value"] ["value"] gv_are_names_value gv_are_names_value :=
  kbinds_mk F (fun _ _ _ _ _ _ us ws hl => match us, ws, hl with
    | [], [_], _ => rfl) (fun {vs us zs ws} r q => by
      cases r with
      | cons _ _ => exact .nil
      | nil => (cases q with | nil => exact .nil | cons h0 q1 => (cases q1 with | cons _ _ => exact .nil | nil => exact .cons h0 (.nil))))
theorem kb_is_integer_value {K : PySem.W.Frag} {f : Addr} {fd : FuncData} (F : Fun K "is_integer" "is_integer" s_is_integer f fd) : KBinds K fd ["value"] ["value"] gv_is_integer_value gv_is_integer_value :=
  kbinds_mk F (fun _ _ _ _ _ _ us ws hl => match us, ws, hl with
    | [], [_], _ => rfl) (fun {vs us zs ws} r q => by
      cases r with
      | cons _ _ => exact .nil
      | nil => (cases q with | nil => exact .nil | cons h0 q1 => (cases q1 with | cons _ _ => exact .nil | nil => exact .cons h0 (.nil))))
theorem kb_is_name_value {K : PySem.W.Frag} {f : Addr} {fd : FuncData} (F : Fun K "is_name" "is_name" s_is_name f fd) : KBinds K fd ["value"] ["value"] gv_is_name_value gv_is_name_value :=
  kbinds_mk F (fun _ _ _ _ _ _ us ws hl => match us, ws, hl with
    | [], [_], _ => rfl) (fun {vs us zs ws} r q => by
      cases r with
      | cons _ _ => exact .nil
      | nil => (cases q with | nil => exact .nil | cons h0 q1 => (cases q1 with | cons _ _ => exact .nil | nil => exact .cons h0 (.nil))))
theorem kb_is_row_value {K : PySem.W.Frag} {f : Addr} {fd : FuncData} (F : Fun K "is_row" "is_row" s_is_row f fd) : KBinds K fd ["value"] ["value"] gv_is_row_value gv_is_row_value :=
  kbinds_mk F (fun _ _ _ _ _ _ us ws hl => match us, ws, hl with
    | [], [_], _ => rfl) (fun {vs us zs ws} r q => by
      cases r with
      | cons _ _ => exact .nil
      | nil => (cases q with | nil => exact .nil | cons h0 q1 => (cases q1 with | cons _ _ => exact .nil | nil => exact .cons h0 (.nil))))
theorem kb_is_within_most_least_value {K : PySem.W.Frag} {f : Addr} {fd : FuncData} (F : Fun K "is_within" "is_within" s_is_within f fd) : KBinds K fd ["value", "least", "most"] ["most", "least", "value"] gv_is_within_most_least_value gv_is_within_most_least_value :=
  kbinds_mk F (fun _ _ _ _ _ _ us ws hl => match us, ws, hl with
    | [], [_, _, _], _ => rfl) (fun {vs us zs ws} r q => by
      cases r with
      | cons _ _ => exact .nil
      | nil => (cases q with | nil => exact .nil | cons h0 q1 => (cases q1 with | nil => exact .nil | cons h1 q2 => (cases q2 with | nil => exact .nil | cons h2 q3 => (cases q3 with | cons _ _ => exact .nil | nil => exact .cons h2 (.cons h1 (.cons h0 (.nil))))))))
theorem kb_names_in_order_many_taken {K : PySem.W.Frag} {f : Addr} {fd : FuncData} (F : Fun K "names_in_order" "names_in_order" s_names_in_order f fd) : KBinds K fd ["taken", "many"] ["many", "taken"] gv_names_in_order_many_taken gv_names_in_order_many_taken :=
  kbinds_mk F (fun _ _ _ _ _ _ us ws hl => match us, ws, hl with
    | [], [_, _], _ => rfl) (fun {vs us zs ws} r q => by
      cases r with
      | cons _ _ => exact .nil
      | nil => (cases q with | nil => exact .nil | cons h0 q1 => (cases q1 with | nil => exact .nil | cons h1 q2 => (cases q2 with | cons _ _ => exact .nil | nil => exact .cons h1 (.cons h0 (.nil))))))
theorem all_mk {l : PySem.W.OpenLaw} {w : World} {K : PySem.W.Frag} {h : Heap} {mg : Str → Option Value} {fa : Addr} (X : K.In h) (G : h.Ns mainGlobals mg) (hfa : mg "law" = some (.ref fa))
    {a_is_integer : Addr} {oc_is_integer kV_is_integer dc_is_integer pm_is_integer cd_is_integer ct_is_integer : Value} {od_is_integer an_is_integer : Option Addr} {sl_is_integer : Array (Option Value)}
    {a_is_within : Addr} {oc_is_within kV_is_within dc_is_within pm_is_within cd_is_within ct_is_within : Value} {od_is_within an_is_within : Option Addr} {sl_is_within : Array (Option Value)}
    {a_is_row : Addr} {oc_is_row kV_is_row dc_is_row pm_is_row cd_is_row ct_is_row : Value} {od_is_row an_is_row : Option Addr} {sl_is_row : Array (Option Value)}
    {a_is_name : Addr} {oc_is_name kV_is_name dc_is_name pm_is_name cd_is_name ct_is_name : Value} {od_is_name an_is_name : Option Addr} {sl_is_name : Array (Option Value)}
    {a_are_names : Addr} {oc_are_names kV_are_names dc_are_names pm_are_names cd_are_names ct_are_names : Value} {od_are_names an_are_names : Option Addr} {sl_are_names : Array (Option Value)}
    {a_names_in_order : Addr} {oc_names_in_order kV_names_in_order dc_names_in_order pm_names_in_order cd_names_in_order ct_names_in_order : Value} {od_names_in_order an_names_in_order : Option Addr} {sl_names_in_order : Array (Option Value)}
    {a_fixed : Addr} {oc_fixed kV_fixed dc_fixed pm_fixed cd_fixed ct_fixed : Value} {od_fixed an_fixed : Option Addr} {sl_fixed : Array (Option Value)}
    {a_statement_in : Addr} {oc_statement_in kV_statement_in dc_statement_in pm_statement_in cd_statement_in ct_statement_in : Value} {od_statement_in an_statement_in : Option Addr} {sl_statement_in : Array (Option Value)}
    {a_is_statement : Addr} {oc_is_statement kV_is_statement dc_is_statement pm_is_statement cd_is_statement ct_is_statement : Value} {od_is_statement an_is_statement : Option Addr} {sl_is_statement : Array (Option Value)}
    {a__law_pen : Addr} {oc__law_pen kV__law_pen dc__law_pen pm__law_pen cd__law_pen ct__law_pen : Value} {od__law_pen an__law_pen : Option Addr} {sl__law_pen : Array (Option Value)}
    {a__law_draw : Addr} {oc__law_draw kV__law_draw dc__law_draw pm__law_draw cd__law_draw ct__law_draw : Value} {od__law_draw an__law_draw : Option Addr} {sl__law_draw : Array (Option Value)}
    {a__law_pick : Addr} {oc__law_pick kV__law_pick dc__law_pick pm__law_pick cd__law_pick ct__law_pick : Value} {od__law_pick an__law_pick : Option Addr} {sl__law_pick : Array (Option Value)}
    {a__law_words : Addr} {oc__law_words kV__law_words dc__law_words pm__law_words cd__law_words ct__law_words : Value} {od__law_words an__law_words : Option Addr} {sl__law_words : Array (Option Value)}
    {a__law_is_name : Addr} {oc__law_is_name kV__law_is_name dc__law_is_name pm__law_is_name cd__law_is_name ct__law_is_name : Value} {od__law_is_name an__law_is_name : Option Addr} {sl__law_is_name : Array (Option Value)}
    {a__law_text_drawn : Addr} {oc__law_text_drawn kV__law_text_drawn dc__law_text_drawn pm__law_text_drawn cd__law_text_drawn ct__law_text_drawn : Value} {od__law_text_drawn an__law_text_drawn : Option Addr} {sl__law_text_drawn : Array (Option Value)}
    {a__law_order : Addr} {oc__law_order kV__law_order dc__law_order pm__law_order cd__law_order ct__law_order : Value} {od__law_order an__law_order : Option Addr} {sl__law_order : Array (Option Value)}
    {a__law_kinds_right : Addr} {oc__law_kinds_right kV__law_kinds_right dc__law_kinds_right pm__law_kinds_right cd__law_kinds_right ct__law_kinds_right : Value} {od__law_kinds_right an__law_kinds_right : Option Addr} {sl__law_kinds_right : Array (Option Value)}
    {a_law : Addr} {oc_law kV_law dc_law pm_law cd_law ct_law : Value} {od_law an_law : Option Addr} {sl_law : Array (Option Value)}
    {a_BARE : Addr} {o_BARE : Obj}
    {a_JOINS : Addr} {o_JOINS : Obj}
    {t_LETTERS : Tok}
    {t_MOST_PARTS : Tok}
    {t_MOST_SIGNS : Tok}
    {a_WORDS : Addr} {o_WORDS : Obj}
    (ais_integer : PySem.W.nsIn K mainGlobals "is_integer" = some (some (.ref a_is_integer)))
    (lis_integer : K.lookup a_is_integer = some ⟨oc_is_integer, od_is_integer, .func (PySem.W.fnOf "is_integer" "is_integer" (defArgs s_is_integer) (defBody s_is_integer) (defScope s_is_integer) .none kV_is_integer dc_is_integer pm_is_integer an_is_integer cd_is_integer ct_is_integer), sl_is_integer⟩)
    (cis_integer : PySem.W.codeIn K cd_is_integer "is_integer" = true)
    (kis_integer : PySem.W.keepIn K (.ref a_is_integer) = true)
    (ais_within : PySem.W.nsIn K mainGlobals "is_within" = some (some (.ref a_is_within)))
    (lis_within : K.lookup a_is_within = some ⟨oc_is_within, od_is_within, .func (PySem.W.fnOf "is_within" "is_within" (defArgs s_is_within) (defBody s_is_within) (defScope s_is_within) .none kV_is_within dc_is_within pm_is_within an_is_within cd_is_within ct_is_within), sl_is_within⟩)
    (cis_within : PySem.W.codeIn K cd_is_within "is_within" = true)
    (kis_within : PySem.W.keepIn K (.ref a_is_within) = true)
    (ais_row : PySem.W.nsIn K mainGlobals "is_row" = some (some (.ref a_is_row)))
    (lis_row : K.lookup a_is_row = some ⟨oc_is_row, od_is_row, .func (PySem.W.fnOf "is_row" "is_row" (defArgs s_is_row) (defBody s_is_row) (defScope s_is_row) .none kV_is_row dc_is_row pm_is_row an_is_row cd_is_row ct_is_row), sl_is_row⟩)
    (cis_row : PySem.W.codeIn K cd_is_row "is_row" = true)
    (kis_row : PySem.W.keepIn K (.ref a_is_row) = true)
    (ais_name : PySem.W.nsIn K mainGlobals "is_name" = some (some (.ref a_is_name)))
    (lis_name : K.lookup a_is_name = some ⟨oc_is_name, od_is_name, .func (PySem.W.fnOf "is_name" "is_name" (defArgs s_is_name) (defBody s_is_name) (defScope s_is_name) .none kV_is_name dc_is_name pm_is_name an_is_name cd_is_name ct_is_name), sl_is_name⟩)
    (cis_name : PySem.W.codeIn K cd_is_name "is_name" = true)
    (kis_name : PySem.W.keepIn K (.ref a_is_name) = true)
    (aare_names : PySem.W.nsIn K mainGlobals "are_names" = some (some (.ref a_are_names)))
    (lare_names : K.lookup a_are_names = some ⟨oc_are_names, od_are_names, .func (PySem.W.fnOf "are_names" "are_names" (defArgs s_are_names) (defBody s_are_names) (defScope s_are_names) .none kV_are_names dc_are_names pm_are_names an_are_names cd_are_names ct_are_names), sl_are_names⟩)
    (care_names : PySem.W.codeIn K cd_are_names "are_names" = true)
    (kare_names : PySem.W.keepIn K (.ref a_are_names) = true)
    (anames_in_order : PySem.W.nsIn K mainGlobals "names_in_order" = some (some (.ref a_names_in_order)))
    (lnames_in_order : K.lookup a_names_in_order = some ⟨oc_names_in_order, od_names_in_order, .func (PySem.W.fnOf "names_in_order" "names_in_order" (defArgs s_names_in_order) (defBody s_names_in_order) (defScope s_names_in_order) .none kV_names_in_order dc_names_in_order pm_names_in_order an_names_in_order cd_names_in_order ct_names_in_order), sl_names_in_order⟩)
    (cnames_in_order : PySem.W.codeIn K cd_names_in_order "names_in_order" = true)
    (knames_in_order : PySem.W.keepIn K (.ref a_names_in_order) = true)
    (afixed : PySem.W.nsIn K mainGlobals "fixed" = some (some (.ref a_fixed)))
    (lfixed : K.lookup a_fixed = some ⟨oc_fixed, od_fixed, .func (PySem.W.fnOf "fixed" "fixed" (defArgs s_fixed) (defBody s_fixed) (defScope s_fixed) .none kV_fixed dc_fixed pm_fixed an_fixed cd_fixed ct_fixed), sl_fixed⟩)
    (cfixed : PySem.W.codeIn K cd_fixed "fixed" = true)
    (kfixed : PySem.W.keepIn K (.ref a_fixed) = true)
    (astatement_in : PySem.W.nsIn K mainGlobals "statement_in" = some (some (.ref a_statement_in)))
    (lstatement_in : K.lookup a_statement_in = some ⟨oc_statement_in, od_statement_in, .func (PySem.W.fnOf "statement_in" "statement_in" (defArgs s_statement_in) (defBody s_statement_in) (defScope s_statement_in) .none kV_statement_in dc_statement_in pm_statement_in an_statement_in cd_statement_in ct_statement_in), sl_statement_in⟩)
    (cstatement_in : PySem.W.codeIn K cd_statement_in "statement_in" = true)
    (kstatement_in : PySem.W.keepIn K (.ref a_statement_in) = true)
    (ais_statement : PySem.W.nsIn K mainGlobals "is_statement" = some (some (.ref a_is_statement)))
    (lis_statement : K.lookup a_is_statement = some ⟨oc_is_statement, od_is_statement, .func (PySem.W.fnOf "is_statement" "is_statement" (defArgs s_is_statement) (defBody s_is_statement) (defScope s_is_statement) .none kV_is_statement dc_is_statement pm_is_statement an_is_statement cd_is_statement ct_is_statement), sl_is_statement⟩)
    (cis_statement : PySem.W.codeIn K cd_is_statement "is_statement" = true)
    (kis_statement : PySem.W.keepIn K (.ref a_is_statement) = true)
    (a_law_pen : PySem.W.nsIn K mainGlobals "_law_pen" = some (some (.ref a__law_pen)))
    (l_law_pen : K.lookup a__law_pen = some ⟨oc__law_pen, od__law_pen, .func (PySem.W.fnOf "_law_pen" "_law_pen" (defArgs s__law_pen) (defBody s__law_pen) (defScope s__law_pen) .none kV__law_pen dc__law_pen pm__law_pen an__law_pen cd__law_pen ct__law_pen), sl__law_pen⟩)
    (c_law_pen : PySem.W.codeIn K cd__law_pen "_law_pen" = true)
    (k_law_pen : PySem.W.keepIn K (.ref a__law_pen) = true)
    (a_law_draw : PySem.W.nsIn K mainGlobals "_law_draw" = some (some (.ref a__law_draw)))
    (l_law_draw : K.lookup a__law_draw = some ⟨oc__law_draw, od__law_draw, .func (PySem.W.fnOf "_law_draw" "_law_draw" (defArgs s__law_draw) (defBody s__law_draw) (defScope s__law_draw) .none kV__law_draw dc__law_draw pm__law_draw an__law_draw cd__law_draw ct__law_draw), sl__law_draw⟩)
    (c_law_draw : PySem.W.codeIn K cd__law_draw "_law_draw" = true)
    (k_law_draw : PySem.W.keepIn K (.ref a__law_draw) = true)
    (a_law_pick : PySem.W.nsIn K mainGlobals "_law_pick" = some (some (.ref a__law_pick)))
    (l_law_pick : K.lookup a__law_pick = some ⟨oc__law_pick, od__law_pick, .func (PySem.W.fnOf "_law_pick" "_law_pick" (defArgs s__law_pick) (defBody s__law_pick) (defScope s__law_pick) .none kV__law_pick dc__law_pick pm__law_pick an__law_pick cd__law_pick ct__law_pick), sl__law_pick⟩)
    (c_law_pick : PySem.W.codeIn K cd__law_pick "_law_pick" = true)
    (k_law_pick : PySem.W.keepIn K (.ref a__law_pick) = true)
    (a_law_words : PySem.W.nsIn K mainGlobals "_law_words" = some (some (.ref a__law_words)))
    (l_law_words : K.lookup a__law_words = some ⟨oc__law_words, od__law_words, .func (PySem.W.fnOf "_law_words" "_law_words" (defArgs s__law_words) (defBody s__law_words) (defScope s__law_words) .none kV__law_words dc__law_words pm__law_words an__law_words cd__law_words ct__law_words), sl__law_words⟩)
    (c_law_words : PySem.W.codeIn K cd__law_words "_law_words" = true)
    (k_law_words : PySem.W.keepIn K (.ref a__law_words) = true)
    (a_law_is_name : PySem.W.nsIn K mainGlobals "_law_is_name" = some (some (.ref a__law_is_name)))
    (l_law_is_name : K.lookup a__law_is_name = some ⟨oc__law_is_name, od__law_is_name, .func (PySem.W.fnOf "_law_is_name" "_law_is_name" (defArgs s__law_is_name) (defBody s__law_is_name) (defScope s__law_is_name) .none kV__law_is_name dc__law_is_name pm__law_is_name an__law_is_name cd__law_is_name ct__law_is_name), sl__law_is_name⟩)
    (c_law_is_name : PySem.W.codeIn K cd__law_is_name "_law_is_name" = true)
    (k_law_is_name : PySem.W.keepIn K (.ref a__law_is_name) = true)
    (a_law_text_drawn : PySem.W.nsIn K mainGlobals "_law_text_drawn" = some (some (.ref a__law_text_drawn)))
    (l_law_text_drawn : K.lookup a__law_text_drawn = some ⟨oc__law_text_drawn, od__law_text_drawn, .func (PySem.W.fnOf "_law_text_drawn" "_law_text_drawn" (defArgs s__law_text_drawn) (defBody s__law_text_drawn) (defScope s__law_text_drawn) .none kV__law_text_drawn dc__law_text_drawn pm__law_text_drawn an__law_text_drawn cd__law_text_drawn ct__law_text_drawn), sl__law_text_drawn⟩)
    (c_law_text_drawn : PySem.W.codeIn K cd__law_text_drawn "_law_text_drawn" = true)
    (k_law_text_drawn : PySem.W.keepIn K (.ref a__law_text_drawn) = true)
    (a_law_order : PySem.W.nsIn K mainGlobals "_law_order" = some (some (.ref a__law_order)))
    (l_law_order : K.lookup a__law_order = some ⟨oc__law_order, od__law_order, .func (PySem.W.fnOf "_law_order" "_law_order" (defArgs s__law_order) (defBody s__law_order) (defScope s__law_order) .none kV__law_order dc__law_order pm__law_order an__law_order cd__law_order ct__law_order), sl__law_order⟩)
    (c_law_order : PySem.W.codeIn K cd__law_order "_law_order" = true)
    (k_law_order : PySem.W.keepIn K (.ref a__law_order) = true)
    (a_law_kinds_right : PySem.W.nsIn K mainGlobals "_law_kinds_right" = some (some (.ref a__law_kinds_right)))
    (l_law_kinds_right : K.lookup a__law_kinds_right = some ⟨oc__law_kinds_right, od__law_kinds_right, .func (PySem.W.fnOf "_law_kinds_right" "_law_kinds_right" (defArgs s__law_kinds_right) (defBody s__law_kinds_right) (defScope s__law_kinds_right) .none kV__law_kinds_right dc__law_kinds_right pm__law_kinds_right an__law_kinds_right cd__law_kinds_right ct__law_kinds_right), sl__law_kinds_right⟩)
    (c_law_kinds_right : PySem.W.codeIn K cd__law_kinds_right "_law_kinds_right" = true)
    (k_law_kinds_right : PySem.W.keepIn K (.ref a__law_kinds_right) = true)
    (alaw : PySem.W.nsIn K mainGlobals "law" = some (some (.ref a_law)))
    (llaw : K.lookup a_law = some ⟨oc_law, od_law, .func (PySem.W.fnOf "law" "law" (defArgs s_law) (defBody s_law) (defScope s_law) .none kV_law dc_law pm_law an_law cd_law ct_law), sl_law⟩)
    (claw : PySem.W.codeIn K cd_law "law" = true)
    (klaw : PySem.W.keepIn K (.ref a_law) = true)
    (gBARE : PySem.W.nsIn K mainGlobals "BARE" = some (some (.ref a_BARE)))
    (lBARE : K.lookup a_BARE = some o_BARE)
    (tBARE : tupStr o_BARE ["nothing", "any", "no"] = true)
    (gJOINS : PySem.W.nsIn K mainGlobals "JOINS" = some (some (.ref a_JOINS)))
    (lJOINS : K.lookup a_JOINS = some o_JOINS)
    (tJOINS : tupStr o_JOINS ["both", "gives", "pick", "or"] = true)
    (gLETTERS : PySem.W.nsIn K mainGlobals "LETTERS" = some (some (.str "abcdefghijklmnopqrstuvwxyz" t_LETTERS)))
    (gMOST_PARTS : PySem.W.nsIn K mainGlobals "MOST_PARTS" = some (some (.int 24 t_MOST_PARTS)))
    (gMOST_SIGNS : PySem.W.nsIn K mainGlobals "MOST_SIGNS" = some (some (.int 8 t_MOST_SIGNS)))
    (gWORDS : PySem.W.nsIn K mainGlobals "WORDS" = some (some (.ref a_WORDS)))
    (lWORDS : K.lookup a_WORDS = some o_WORDS)
    (tWORDS : tupStr o_WORDS ["both", "gives", "pick", "or", "nothing", "any", "no", "split", "call", "take", "open", "use", "never", "give", "box", "pair", "fun", "offer", "left", "right", "unit", "rest", "first", "second"] = true)
    (zabs : PySem.W.nsIn K mainGlobals "abs" = some none)
    (zall : PySem.W.nsIn K mainGlobals "all" = some none)
    (zbool : PySem.W.nsIn K mainGlobals "bool" = some none)
    (zdict : PySem.W.nsIn K mainGlobals "dict" = some none)
    (zint : PySem.W.nsIn K mainGlobals "int" = some none)
    (zisinstance : PySem.W.nsIn K mainGlobals "isinstance" = some none)
    (zlen : PySem.W.nsIn K mainGlobals "len" = some none)
    (zlist : PySem.W.nsIn K mainGlobals "list" = some none)
    (zrange : PySem.W.nsIn K mainGlobals "range" = some none)
    (zrepr : PySem.W.nsIn K mainGlobals "repr" = some none)
    (zset : PySem.W.nsIn K mainGlobals "set" = some none)
    (zstr : PySem.W.nsIn K mainGlobals "str" = some none)
    (zsum : PySem.W.nsIn K mainGlobals "sum" = some none)
    (ztuple : PySem.W.nsIn K mainGlobals "tuple" = some none) :
    ∃ fd : FuncData, (∀ (s : Shared) (v : Value), BindsTo s fd ⟨[v], []⟩ [("script", v)]) ∧ ∀ base : Heap, K.In base → base.Ns mainGlobals mg → GnOk l.prog w K mg base CX0 5 fa fd ["script"] (sp_law K) := by
  cases hfa.symm.trans (PySem.W.mg_of X G alaw)
  have F_is_integer := fun_mk (st := s_is_integer) lis_integer cis_integer kis_integer
  have b_is_integer := F_is_integer.binds (ps := ["value"]) fun _ _ _ _ _ _ us hl => match us, hl with | [_], _ => rfl
  have F_is_within := fun_mk (st := s_is_within) lis_within cis_within kis_within
  have b_is_within := F_is_within.binds (ps := ["value", "least", "most"]) fun _ _ _ _ _ _ us hl => match us, hl with | [_, _, _], _ => rfl
  have F_is_row := fun_mk (st := s_is_row) lis_row cis_row kis_row
  have b_is_row := F_is_row.binds (ps := ["value"]) fun _ _ _ _ _ _ us hl => match us, hl with | [_], _ => rfl
  have F_is_name := fun_mk (st := s_is_name) lis_name cis_name kis_name
  have b_is_name := F_is_name.binds (ps := ["value"]) fun _ _ _ _ _ _ us hl => match us, hl with | [_], _ => rfl
  have F_are_names := fun_mk (st := s_are_names) lare_names care_names kare_names
  have b_are_names := F_are_names.binds (ps := ["value"]) fun _ _ _ _ _ _ us hl => match us, hl with | [_], _ => rfl
  have F_names_in_order := fun_mk (st := s_names_in_order) lnames_in_order cnames_in_order knames_in_order
  have b_names_in_order := F_names_in_order.binds (ps := ["taken", "many"]) fun _ _ _ _ _ _ us hl => match us, hl with | [_, _], _ => rfl
  have F_fixed := fun_mk (st := s_fixed) lfixed cfixed kfixed
  have b_fixed := F_fixed.binds (ps := ["value"]) fun _ _ _ _ _ _ us hl => match us, hl with | [_], _ => rfl
  have F_statement_in := fun_mk (st := s_statement_in) lstatement_in cstatement_in kstatement_in
  have b_statement_in := F_statement_in.binds (ps := ["value"]) fun _ _ _ _ _ _ us hl => match us, hl with | [_], _ => rfl
  have F_is_statement := fun_mk (st := s_is_statement) lis_statement cis_statement kis_statement
  have b_is_statement := F_is_statement.binds (ps := ["value"]) fun _ _ _ _ _ _ us hl => match us, hl with | [_], _ => rfl
  have F__law_pen := fun_mk (st := s__law_pen) l_law_pen c_law_pen k_law_pen
  have b__law_pen := F__law_pen.binds (ps := ["script"]) fun _ _ _ _ _ _ us hl => match us, hl with | [_], _ => rfl
  have F__law_draw := fun_mk (st := s__law_draw) l_law_draw c_law_draw k_law_draw
  have b__law_draw := F__law_draw.binds (ps := ["pen", "many"]) fun _ _ _ _ _ _ us hl => match us, hl with | [_, _], _ => rfl
  have F__law_pick := fun_mk (st := s__law_pick) l_law_pick c_law_pick k_law_pick
  have b__law_pick := F__law_pick.binds (ps := ["pen", "some"]) fun _ _ _ _ _ _ us hl => match us, hl with | [_, _], _ => rfl
  have F__law_words := fun_mk (st := s__law_words) l_law_words c_law_words k_law_words
  have b__law_words := F__law_words.binds (ps := []) fun _ _ _ _ _ _ us hl => match us, hl with | [], _ => rfl
  have F__law_is_name := fun_mk (st := s__law_is_name) l_law_is_name c_law_is_name k_law_is_name
  have b__law_is_name := F__law_is_name.binds (ps := ["value"]) fun _ _ _ _ _ _ us hl => match us, hl with | [_], _ => rfl
  have F__law_text_drawn := fun_mk (st := s__law_text_drawn) l_law_text_drawn c_law_text_drawn k_law_text_drawn
  have b__law_text_drawn := F__law_text_drawn.binds (ps := ["pen"]) fun _ _ _ _ _ _ us hl => match us, hl with | [_], _ => rfl
  have F__law_order := fun_mk (st := s__law_order) l_law_order c_law_order k_law_order
  have b__law_order := F__law_order.binds (ps := ["taken", "many"]) fun _ _ _ _ _ _ us hl => match us, hl with | [_, _], _ => rfl
  have F__law_kinds_right := fun_mk (st := s__law_kinds_right) l_law_kinds_right c_law_kinds_right k_law_kinds_right
  have b__law_kinds_right := F__law_kinds_right.binds (ps := ["pen"]) fun _ _ _ _ _ _ us hl => match us, hl with | [_], _ => rfl
  have F_law := fun_mk (st := s_law) llaw claw klaw
  have b_law := F_law.binds (ps := ["script"]) fun _ _ _ _ _ _ us hl => match us, hl with | [_], _ => rfl
  exact ⟨_, fun s v => .of_eq rfl, fun base _ _ => ok_law (Fs.mk (_) (_) (F_is_integer) (PySem.W.mg_of X G ais_integer) (b_is_integer) (_) (_) (F_is_within) (PySem.W.mg_of X G ais_within) (b_is_within) (_) (_) (F_is_row) (PySem.W.mg_of X G ais_row) (b_is_row) (_) (_) (F_is_name) (PySem.W.mg_of X G ais_name) (b_is_name) (_) (_) (F_are_names) (PySem.W.mg_of X G aare_names) (b_are_names) (_) (_) (F_names_in_order) (PySem.W.mg_of X G anames_in_order) (b_names_in_order) (_) (_) (F_fixed) (PySem.W.mg_of X G afixed) (b_fixed) (_) (_) (F_statement_in) (PySem.W.mg_of X G astatement_in) (b_statement_in) (_) (_) (F_is_statement) (PySem.W.mg_of X G ais_statement) (b_is_statement) (_) (_) (F__law_pen) (PySem.W.mg_of X G a_law_pen) (b__law_pen) (_) (_) (F__law_draw) (PySem.W.mg_of X G a_law_draw) (b__law_draw) (_) (_) (F__law_pick) (PySem.W.mg_of X G a_law_pick) (b__law_pick) (_) (_) (F__law_words) (PySem.W.mg_of X G a_law_words) (b__law_words) (_) (_) (F__law_is_name) (PySem.W.mg_of X G a_law_is_name) (b__law_is_name) (_) (_) (F__law_text_drawn) (PySem.W.mg_of X G a_law_text_drawn) (b__law_text_drawn) (_) (_) (F__law_order) (PySem.W.mg_of X G a_law_order) (b__law_order) (_) (_) (F__law_kinds_right) (PySem.W.mg_of X G a_law_kinds_right) (b__law_kinds_right) (_) (_) (F_law) (PySem.W.mg_of X G alaw) (b_law) (kb_are_names_value F_are_names) (kb_is_integer_value F_is_integer) (kb_is_name_value F_is_name) (kb_is_row_value F_is_row) (kb_is_within_most_least_value F_is_within) (kb_names_in_order_many_taken F_names_in_order) (a_BARE) (PySem.W.mg_of X G gBARE) (KTup.of lBARE tBARE) (a_JOINS) (PySem.W.mg_of X G gJOINS) (KTup.of lJOINS tJOINS) (⟨_, PySem.W.mg_of X G gLETTERS⟩) (⟨_, PySem.W.mg_of X G gMOST_PARTS⟩) (⟨_, PySem.W.mg_of X G gMOST_SIGNS⟩) (a_WORDS) (PySem.W.mg_of X G gWORDS) (KTup.of lWORDS tWORDS) (PySem.W.mg_none_of X G zabs) (PySem.W.mg_none_of X G zall) (PySem.W.mg_none_of X G zbool) (PySem.W.mg_none_of X G zdict) (PySem.W.mg_none_of X G zint) (PySem.W.mg_none_of X G zisinstance) (PySem.W.mg_none_of X G zlen) (PySem.W.mg_none_of X G zlist) (PySem.W.mg_none_of X G zrange) (PySem.W.mg_none_of X G zrepr) (PySem.W.mg_none_of X G zset) (PySem.W.mg_none_of X G zstr) (PySem.W.mg_none_of X G zsum) (PySem.W.mg_none_of X G ztuple))⟩
theorem walk {l : PySem.W.OpenLaw} {q : Program} {loose : List Str} {XP : (Str → Option Value) → Heap → Prop} {YP : World → Heap → Prop} {d : DefRec} {K : Params → PySem.W.Frag} (hn : l.most = some 63) (hdf : d.params.defaults = []) (hY : ∀ (w : World) (h : Heap), YP w h → (K w.params).In h)
    (F : ∀ (w : World) (mg : Str → Option Value) (fa : Addr) (h : Heap), (K w.params).In h → h.Ns mainGlobals mg → mg d.name = some (.ref fa) →
      ∃ fd : FuncData, (∀ (s : Shared) (u : Value), BindsTo s fd ⟨[u], []⟩ [("script", u)]) ∧ ∀ base : Heap, (K w.params).In base → base.Ns mainGlobals mg → GnOk l.prog w (K w.params) mg base CX0 5 fa fd ["script"] (sp_law (K w.params))) :
    PySem.W.WalkO q loose XP YP l.row.toRowW d [] (fun f vs => PySem.call f vs) :=
  walk_ofG (n := 63) (k := 5) (x := "script") (sp := fun w => sp_law (K w.params)) hn (by decide) hdf ⟨rfl, by decide, by decide⟩ hY F (fun _ _ a ns hl _ hS => ⟨a, ns, rfl, hS, hl, fun _ => rfl⟩)
end K01
open PySem PySem.W PyProof.Rows in
set_option maxRecDepth 100000 in
set_option maxHeartbeats 0 in
theorem PySem.Challenge.cw_paidatmost_k01_names_and_small_questions_holds : PySem.Challenge.rw_paidatmost_k01_names_and_small_questions.Holds := by
  w_on; o_law; k_head; (case hw => w_witness2)
  k_fill
  refine K01.walk (l := PySem.Challenge.rw_paidatmost_k01_names_and_small_questions) rfl rfl (fun w h Y => PySem.W.kIn_of Y) ?F
  case F =>
    intro w mg fa h KX G hmg
    refine' K01.all_mk KX G hmg ?ais_integer ?lis_integer ?cis_integer ?kis_integer ?ais_within ?lis_within ?cis_within ?kis_within ?ais_row ?lis_row ?cis_row ?kis_row ?ais_name ?lis_name ?cis_name ?kis_name ?aare_names ?lare_names ?care_names ?kare_names ?anames_in_order ?lnames_in_order ?cnames_in_order ?knames_in_order ?afixed ?lfixed ?cfixed ?kfixed ?astatement_in ?lstatement_in ?cstatement_in ?kstatement_in ?ais_statement ?lis_statement ?cis_statement ?kis_statement ?a_law_pen ?l_law_pen ?c_law_pen ?k_law_pen ?a_law_draw ?l_law_draw ?c_law_draw ?k_law_draw ?a_law_pick ?l_law_pick ?c_law_pick ?k_law_pick ?a_law_words ?l_law_words ?c_law_words ?k_law_words ?a_law_is_name ?l_law_is_name ?c_law_is_name ?k_law_is_name ?a_law_text_drawn ?l_law_text_drawn ?c_law_text_drawn ?k_law_text_drawn ?a_law_order ?l_law_order ?c_law_order ?k_law_order ?a_law_kinds_right ?l_law_kinds_right ?c_law_kinds_right ?k_law_kinds_right ?alaw ?llaw ?claw ?klaw ?gBARE ?lBARE ?tBARE ?gJOINS ?lJOINS ?tJOINS ?gLETTERS ?gMOST_PARTS ?gMOST_SIGNS ?gWORDS ?lWORDS ?tWORDS ?zabs ?zall ?zbool ?zdict ?zint ?zisinstance ?zlen ?zlist ?zrange ?zrepr ?zset ?zstr ?zsum ?ztuple
    (case ais_integer => k_is)
    (case lis_integer => k_is)
    (case cis_integer => k_is)
    (case kis_integer => k_is)
    (case ais_within => k_is)
    (case lis_within => k_is)
    (case cis_within => k_is)
    (case kis_within => k_is)
    (case ais_row => k_is)
    (case lis_row => k_is)
    (case cis_row => k_is)
    (case kis_row => k_is)
    (case ais_name => k_is)
    (case lis_name => k_is)
    (case cis_name => k_is)
    (case kis_name => k_is)
    (case aare_names => k_is)
    (case lare_names => k_is)
    (case care_names => k_is)
    (case kare_names => k_is)
    (case anames_in_order => k_is)
    (case lnames_in_order => k_is)
    (case cnames_in_order => k_is)
    (case knames_in_order => k_is)
    (case afixed => k_is)
    (case lfixed => k_is)
    (case cfixed => k_is)
    (case kfixed => k_is)
    (case astatement_in => k_is)
    (case lstatement_in => k_is)
    (case cstatement_in => k_is)
    (case kstatement_in => k_is)
    (case ais_statement => k_is)
    (case lis_statement => k_is)
    (case cis_statement => k_is)
    (case kis_statement => k_is)
    (case a_law_pen => k_is)
    (case l_law_pen => k_is)
    (case c_law_pen => k_is)
    (case k_law_pen => k_is)
    (case a_law_draw => k_is)
    (case l_law_draw => k_is)
    (case c_law_draw => k_is)
    (case k_law_draw => k_is)
    (case a_law_pick => k_is)
    (case l_law_pick => k_is)
    (case c_law_pick => k_is)
    (case k_law_pick => k_is)
    (case a_law_words => k_is)
    (case l_law_words => k_is)
    (case c_law_words => k_is)
    (case k_law_words => k_is)
    (case a_law_is_name => k_is)
    (case l_law_is_name => k_is)
    (case c_law_is_name => k_is)
    (case k_law_is_name => k_is)
    (case a_law_text_drawn => k_is)
    (case l_law_text_drawn => k_is)
    (case c_law_text_drawn => k_is)
    (case k_law_text_drawn => k_is)
    (case a_law_order => k_is)
    (case l_law_order => k_is)
    (case c_law_order => k_is)
    (case k_law_order => k_is)
    (case a_law_kinds_right => k_is)
    (case l_law_kinds_right => k_is)
    (case c_law_kinds_right => k_is)
    (case k_law_kinds_right => k_is)
    (case alaw => k_is)
    (case llaw => k_is)
    (case claw => k_is)
    (case klaw => k_is)
    (case gBARE => k_is)
    (case lBARE => k_is)
    (case tBARE => rfl)
    (case gJOINS => k_is)
    (case lJOINS => k_is)
    (case tJOINS => rfl)
    (case gLETTERS => k_is)
    (case gMOST_PARTS => k_is)
    (case gMOST_SIGNS => k_is)
    (case gWORDS => k_is)
    (case lWORDS => k_is)
    (case tWORDS => rfl)
    (case zabs => k_is)
    (case zall => k_is)
    (case zbool => k_is)
    (case zdict => k_is)
    (case zint => k_is)
    (case zisinstance => k_is)
    (case zlen => k_is)
    (case zlist => k_is)
    (case zrange => k_is)
    (case zrepr => k_is)
    (case zset => k_is)
    (case zstr => k_is)
    (case zsum => k_is)
    (case ztuple => k_is)
