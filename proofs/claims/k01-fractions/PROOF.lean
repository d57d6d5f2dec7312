import PyProof.Rows.All
import Wide.All
import OpenK.AllK
import Wide.FinOn
import KE.KStateDown
import HandS.Base
import HandS.Call
import HandS.List
import HandS.Comp
import HandS.Ends
import HandS.Iter
import HandS.Dict
import HandS.Text
import HandS.More
import HandS.Exc
import HandS.ExcOwn
import HandS.TryOnly
import HandS.TryMany
import HandS.Words
import HandS.WordsExc
import HandS.Defaults
import HandS.CallSlots
import HandS.IsInst
import HandS.Wide
import HandS.Gcd
import HandS.Flow
import HandS.HeadEnd
import HandS.HeadHook1
import HandS.HeadHook2
import HandS.Head0
import HandS.Head1
import HandS.Head2
import HandS.Head3
import HandS.Style
import HandS.TupAny
import HandS.ExcField
import KE.KExcSuper
import HandS.ExcSuper
import HandS.ExcInit
import HandS.HeadWalk
import OpenK.KWalk
import PySem.Challenge.RW_everyweight_k01_fractions
set_option Elab.async false
set_option linter.all false
section
set_option maxRecDepth 100000
/-! DL: readings over data that bear no heap, on top of the hand layer. -/
namespace DL
open PySem PySem.Spec PyProof.Rows L2

/-- data: trees; ref a: an object that may change (its content stands in the store) -/
inductive D where
  | non | bl (b : Bool) | int (i : Int) | str (s : Str) | tup (l : List D) | lst (l : List D) | dct (l : List (Key × D)) | ref (a : Addr)
  /-- the script -/
  | scr (l : List Int)
  /-- an error at a of the class at C, its dict at dd -/
  | err (C a dd : Addr) (fs : List (Str × D))
  deriving Inhabited

/-- what is stable once it stands: not a list, dict, set, instance or own thing -/
def Stb (H H' : Hp) : Prop := ∀ b u, H b = some u → ¬ Mut (some u) → H' b = some u
theorem Stb.refl (H : Hp) : Stb H H := fun _ _ h _ => h
theorem Stb.trans {H H1 H2 : Hp} (a : Stb H H1) (b : Stb H1 H2) : Stb H H2 := fun c u h n => b c u (a c u h n) n
theorem Stb.new {H : Hp} {p : Addr} {o : HO} (h : H p = none) : Stb H (upd H p o) := fun a u e _ => by
  rw [upd_ne (ne_of_none e h)]; exact e
theorem Stb.mut {H : Hp} {p : Addr} {o u : HO} (h : H p = some o) (m : Mut (some o)) : Stb H (upd H p u) := fun a w e n => by
  have : a ≠ p := fun z => by subst z; rw [h] at e; cases e; exact n m
  rw [upd_ne this]; exact e

/-- a list, a tuple, a dict that stands for ever -/
def StL (K : PySem.W.Frag) (H : Hp) (a : Addr) (xs : List V) : Prop := ∃ o, H a = some (.frz o (.lst xs))
/-- the script's list: tracked and locked, or of the written part -/
def StScr (K : PySem.W.Frag) (H : Hp) (a : Addr) (xs : List V) : Prop :=
  (∃ o, H a = some (.frz o (.lst xs))) ∨
    ∃ (o : Obj) (its : Array Value) (n : Nat), K.lookup a = some o ∧ o.cls = .type "list" ∧ o.dict = none ∧ o.data = .seq its n ∧ its.size ≤ sizeLine ∧ Vals xs its.toList
def StD (H : Hp) (a : Addr) (kvs : List (Key × V)) : Prop := ∃ o, H a = some (.frz o (.dK kvs))
section
variable {K : PySem.W.Frag} {H H' : Hp} {a : Addr} {xs : List V}
theorem StL.sq (h : StL K H a xs) : SqL K H a xs := by
  obtain ⟨o, h⟩ := h
  exact .inl (.inr ⟨o, h⟩)
theorem StL.stb (e : Stb H H') (h : StL K H a xs) : StL K H' a xs := by
  obtain ⟨o, h⟩ := h
  exact ⟨o, e _ _ h (fun z => z)⟩
theorem StScr.sq (h : StScr K H a xs) : SqL K H a xs := by
  rcases h with ⟨o, h⟩ | h
  · exact .inl (.inr ⟨o, h⟩)
  · exact .inr h
theorem StScr.stb (e : Stb H H') (h : StScr K H a xs) : StScr K H' a xs := by
  rcases h with ⟨o, h⟩ | h
  · exact .inl ⟨o, e _ _ h (fun z => z)⟩
  · exact .inr h
theorem SqT.stb (e : Stb H H') (h : SqT K H a xs) : SqT K H' a xs := by
  rcases h with (h | ⟨o, h⟩) | h
  · exact .inl (.inl (e _ _ h (fun z => z)))
  · exact .inl (.inr ⟨o, e _ _ h (fun z => z)⟩)
  · exact .inr h
theorem StD.stb {kvs : List (Key × V)} (e : Stb H H') (h : StD H a kvs) : StD H' a kvs := by
  obtain ⟨o, h⟩ := h
  exact ⟨o, e _ _ h (fun z => z)⟩
end

/-- v stands for the data d -/
inductive Rep (K : PySem.W.Frag) (H : Hp) : V → D → Prop
  | non : Rep K H .non .non
  | bl (b : Bool) : Rep K H (.bl b) (.bl b)
  | int (i : Int) : Rep K H (.int i) (.int i)
  | str (s : Str) : Rep K H (.str s) (.str s)
  | tup {a : Addr} {xs : List V} {ds : List D} (h : SqT K H a xs) (r : Paired (Rep K H) xs ds) : Rep K H (.ref a) (.tup ds)
  | lst {a : Addr} {xs : List V} {ds : List D} (h : StL K H a xs) (r : Paired (Rep K H) xs ds) : Rep K H (.ref a) (.lst ds)
  | dct {a : Addr} {ks : List (Key × V)} {ds : List (Key × D)} (h : StD H a ks) (e : ks.map (·.1) = ds.map (·.1)) (r : Paired (Rep K H) (ks.map (·.2)) (ds.map (·.2))) : Rep K H (.ref a) (.dct ds)
  | ref (a : Addr) : Rep K H (.ref a) (.ref a)
  | scr {a : Addr} {l : List Int} (h : StScr K H a (l.map V.int)) : Rep K H (.ref a) (.scr l)
  | err {C a dd : Addr} {fv : List (Str × V)} {fs : List (Str × D)} (h : H dd = some (.xd fv)) (e : fv.map (·.1) = fs.map (·.1)) (r : Paired (Rep K H) (fv.map (·.2)) (fs.map (·.2))) : Rep K H (.ref a) (.err C a dd fs)
abbrev Reps (K : PySem.W.Frag) (H : Hp) : List V → List D → Prop := Paired (Rep K H)
section
variable {K : PySem.W.Frag} {H H' : Hp}
mutual
theorem Rep.stb (e : Stb H H') : ∀ {v : V} {d : D}, Rep K H v d → Rep K H' v d
  | _, _, .non => .non
  | _, _, .bl b => .bl b
  | _, _, .int i => .int i
  | _, _, .str s => .str s
  | _, _, .tup h r => .tup (SqT.stb e h) (Reps.stb e r)
  | _, _, .lst h r => .lst (StL.stb e h) (Reps.stb e r)
  | _, _, .dct h q r => .dct (StD.stb e h) q (Reps.stb e r)
  | _, _, .ref a => .ref a
  | _, _, .scr h => .scr (StScr.stb e h)
  | _, _, .err h q r => .err (e _ _ h (fun z => z)) q (Reps.stb e r)
theorem Reps.stb (e : Stb H H') : ∀ {vs : List V} {ds : List D}, Reps K H vs ds → Reps K H' vs ds
  | _, _, .nil => .nil
  | _, _, .cons r t => .cons (Rep.stb e r) (Reps.stb e t)
end
theorem Reps.length {vs : List V} {ds : List D} (r : Reps K H vs ds) : vs.length = ds.length := Paired.length r
theorem Reps.get : ∀ {vs : List V} {ds : List D} {i : Nat} {d : D}, Reps K H vs ds → ds[i]? = some d → ∃ v, vs[i]? = some v ∧ Rep K H v d
  | _, _, _, _, .nil, e => by simp at e
  | _, _, 0, _, .cons r _, e => by simp at e; subst e; exact ⟨_, rfl, r⟩
  | _, _, i + 1, d, .cons _ t, e => by
    obtain ⟨v, h1, h2⟩ := Reps.get (i := i) (d := d) t (by simpa using e)
    exact ⟨v, by simpa using h1, h2⟩
theorem Reps.append : ∀ {xs ys : List V} {ds es : List D}, Reps K H xs ds → Reps K H ys es → Reps K H (xs ++ ys) (ds ++ es)
  | _, _, _, _, .nil, s => s
  | _, _, _, _, .cons r t, s => .cons r (Reps.append t s)
theorem Reps.take : ∀ {xs : List V} {ds : List D} (n : Nat), Reps K H xs ds → Reps K H (xs.take n) (ds.take n)
  | _, _, 0, _ => .nil
  | _, _, _ + 1, .nil => .nil
  | _, _, n + 1, .cons r t => .cons r (Reps.take n t)
theorem Reps.drop : ∀ {xs : List V} {ds : List D} (n : Nat), Reps K H xs ds → Reps K H (xs.drop n) (ds.drop n)
  | _, _, 0, r => r
  | _, _, _ + 1, .nil => .nil
  | _, _, n + 1, .cons _ t => Reps.drop n t
theorem Reps.set {x : V} {d : D} (r : Rep K H x d) : ∀ {xs : List V} {ds : List D} (i : Nat), Reps K H xs ds → Reps K H (xs.set i x) (ds.set i d)
  | _, _, _, .nil => .nil
  | _, _, 0, .cons _ t => .cons r t
  | _, _, i + 1, .cons q t => .cons q (Reps.set r i t)
end

/-! ### the store: objects that may change -/
inductive Cell where
  | lst (ds : List D) | dct (ds : List (Key × D))
  /-- a law's box: draws left at least b -/
  | box (b : Nat)
  /-- an instance of the class at C with its fields -/
  | ins (C dx : Addr) (fs : List (Str × D))
def boxMost : Nat := 2 ^ 32
structure BoxV (b : Nat) (g m c : Int) : Prop where
  g0 : 0 ≤ g
  m0 : 0 ≤ m
  m1 : m < 4294967296
  c0 : 0 ≤ c
  c1 : c + (b : Int) ≤ (boxMost : Int)
def BoxAt (H : Hp) (a : Addr) (b : Nat) : Prop := ∃ (g : Int) (s : Bool) (m c : Int), H a = some (.lst [.int g, .bl s, .int m, .int c]) ∧ BoxV b g m c
def CellOk (K : PySem.W.Frag) (H : Hp) (a : Addr) : Cell → Prop
  | .lst ds => ∃ xs, H a = some (.lst xs) ∧ Reps K H xs ds
  | .dct ds => ∃ ks, H a = some (.dK ks) ∧ ks.map (·.1) = ds.map (·.1) ∧ Reps K H (ks.map (·.2)) (ds.map (·.2))
  | .box b => BoxAt H a b
  | .ins C dx fs => ∃ gs, H a = some (.ins C dx gs) ∧ gs.map (·.1) = fs.map (·.1) ∧ Reps K H (gs.map (·.2)) (fs.map (·.2))
abbrev Mst := Addr → Option Cell
def updM (M : Mst) (a : Addr) (c : Cell) : Mst := fun b => if b = a then some c else M b
def delM (M : Mst) (a : Addr) : Mst := fun b => if b = a then none else M b
theorem updM_same {M : Mst} {a : Addr} {c : Cell} : updM M a c a = some c := if_pos rfl
theorem updM_ne {M : Mst} {a b : Addr} {c : Cell} (h : b ≠ a) : updM M a c b = M b := if_neg h
theorem updM_updM {M : Mst} {a : Addr} {c d : Cell} : updM (updM M a c) a d = updM M a d := by
  funext b; unfold updM; split <;> rfl
theorem delM_same {M : Mst} {a : Addr} : delM M a a = none := if_pos rfl
theorem delM_ne {M : Mst} {a b : Addr} (h : b ≠ a) : delM M a b = M b := if_neg h
theorem delM_updM {M : Mst} {a : Addr} {c : Cell} (h : M a = none) : delM (updM M a c) a = M := by
  funext b
  by_cases e : b = a
  · subst e; rw [delM_same, h]
  · rw [delM_ne e, updM_ne e]
theorem updM_self {M : Mst} {a : Addr} {c : Cell} (h : M a = some c) : updM M a c = M := by
  funext b
  by_cases e : b = a
  · subst e; rw [updM_same, h]
  · rw [updM_ne e]
def MOk (K : PySem.W.Frag) (H : Hp) (M : Mst) : Prop := ∀ a c, M a = some c → CellOk K H a c
section
variable {K : PySem.W.Frag} {H H' : Hp} {M : Mst} {a : Addr} {c : Cell}
theorem CellOk.ho (h : CellOk K H a c) : ∃ o, H a = some o ∧ Mut (some o) := by
  cases c with
  | lst ds => obtain ⟨xs, h, _⟩ := h; exact ⟨_, h, trivial⟩
  | dct ds => obtain ⟨xs, h, _⟩ := h; exact ⟨_, h, trivial⟩
  | box b => obtain ⟨g, s, m, n, h, _⟩ := h; exact ⟨_, h, trivial⟩
  | ins C dx fs => obtain ⟨gs, h, _⟩ := h; exact ⟨_, h, trivial⟩
theorem CellOk.at (h : CellOk K H a c) (e : Stb H H') (ea : H' a = H a) : CellOk K H' a c := by
  cases c with
  | lst ds => obtain ⟨xs, h, r⟩ := h; exact ⟨xs, by rw [ea, h], r.stb e⟩
  | dct ds => obtain ⟨xs, h, q, r⟩ := h; exact ⟨xs, by rw [ea, h], q, r.stb e⟩
  | box b => obtain ⟨g, s, m, n, h, r⟩ := h; exact ⟨g, s, m, n, by rw [ea, h], r⟩
  | ins C dx fs => obtain ⟨gs, h, q, r⟩ := h; exact ⟨gs, by rw [ea, h], q, r.stb e⟩
/-- a new object does not hurt the store -/
theorem MOk.new {p : Addr} {o : HO} (m : MOk K H M) (hp : H p = none) : MOk K (upd H p o) M := fun a c e => by
  have k := m a c e
  obtain ⟨o', ho, _⟩ := k.ho
  exact k.at (Stb.new hp) (upd_ne (ne_of_none ho hp))
theorem MOk.fresh (m : MOk K H M) {p : Addr} (hp : H p = none) : M p = none := by
  cases e : M p with
  | none => rfl
  | some c => obtain ⟨o, ho, _⟩ := (m p c e).ho; rw [hp] at ho; cases ho
/-- a new cell -/
theorem MOk.lay {p : Addr} {o : HO} (m : MOk K H M) (hp : H p = none) (n : CellOk K (upd H p o) p c) : MOk K (upd H p o) (updM M p c) := fun a d e => by
  by_cases q : a = p
  · subst q; rw [updM_same] at e; cases e; exact n
  · rw [updM_ne q] at e; exact m.new hp a d e
/-- a cell is written -/
theorem MOk.put {p : Addr} {o u : HO} (m : MOk K H M) (hp : H p = some o) (mu : Mut (some o)) (n : CellOk K (upd H p u) p c) : MOk K (upd H p u) (updM M p c) := fun a d e => by
  by_cases q : a = p
  · subst q; rw [updM_same] at e; cases e; exact n
  · rw [updM_ne q] at e; exact (m a d e).at (Stb.mut hp mu) (upd_ne q)
/-- a cell is frozen, dropped -/
theorem MOk.off {p : Addr} {o u : HO} (m : MOk K H M) (hp : H p = some o) (mu : Mut (some o)) : MOk K (upd H p u) (delM M p) := fun a d e => by
  by_cases q : a = p
  · subst q; rw [delM_same] at e; cases e
  · rw [delM_ne q] at e; exact (m a d e).at (Stb.mut hp mu) (upd_ne q)
end
/-- less is known -/
def CellLe : Cell → Cell → Prop
  | .box b, .box b' => b ≤ b'
  | .box b, .lst l => ∃ (g : Int) (s : Bool) (m c : Int), l = [.int g, .bl s, .int m, .int c] ∧ BoxV b g m c
  | c, c' => c = c'
theorem CellLe.refl : ∀ c : Cell, CellLe c c
  | .box _ => Nat.le_refl _
  | .lst _ => rfl
  | .dct _ => rfl
  | .ins _ _ _ => rfl
theorem CellOk.le {K : PySem.W.Frag} {H : Hp} {a : Addr} : ∀ {c c' : Cell}, CellLe c c' → CellOk K H a c' → CellOk K H a c
  | .box b, .box b', l, h => by
    obtain ⟨g, s, m, n, e, h1, h2, h3, h4, h5⟩ := h
    refine ⟨g, s, m, n, e, h1, h2, h3, h4, ?_⟩
    have l' : b ≤ b' := l
    omega
  | .lst _, c', l, h => by cases (show Cell.lst _ = c' from l); exact h
  | .dct _, c', l, h => by cases (show Cell.dct _ = c' from l); exact h
  | .ins _ _ _, c', l, h => by cases (show Cell.ins _ _ _ = c' from l); exact h
  | .box b, .lst ds, l, h => by
    obtain ⟨g, s, m, n, e, hb⟩ := l
    obtain ⟨xs, hx, r⟩ := h
    subst e
    refine ⟨g, s, m, n, ?_, hb⟩
    cases r with
    | cons r1 r => cases r1; cases r with
      | cons r2 r => cases r2; cases r with
        | cons r3 r => cases r3; cases r with
          | cons r4 r => cases r4; cases r; exact hx
  | .box _, .dct _, l, _ => by cases (show Cell.box _ = Cell.dct _ from l)
  | .box _, .ins _ _ _, l, _ => by cases (show Cell.box _ = Cell.ins _ _ _ from l)
def MLe (M M' : Mst) : Prop := ∀ a c, M a = some c → ∃ c', M' a = some c' ∧ CellLe c c'
theorem MLe.refl (M : Mst) : MLe M M := fun _ c h => ⟨c, h, .refl c⟩
theorem MOk.le {K : PySem.W.Frag} {H : Hp} {M M' : Mst} (l : MLe M M') (m : MOk K H M') : MOk K H M := fun a c e => by
  obtain ⟨c', e', k⟩ := l a c e
  exact CellOk.le k (m a c' e')

/-! ### what a step leaves: what stands and is no cell stands as it was; new cells are new objects -/
structure Ext (H : Hp) (M : Mst) (H' : Hp) (M' : Mst) : Prop where
  keep : ∀ a o, H a = some o → M a = none → H' a = some o ∧ M' a = none
  dom : ∀ a o, H a = some o → ∃ o', H' a = some o'
theorem Ext.refl (H : Hp) (M : Mst) : Ext H M H M := ⟨fun _ _ h m => ⟨h, m⟩, fun _ o h => ⟨o, h⟩⟩
theorem Ext.trans {H H1 H2 : Hp} {M M1 M2 : Mst} (a : Ext H M H1 M1) (b : Ext H1 M1 H2 M2) : Ext H M H2 M2 :=
  ⟨fun c o h m => b.keep c o (a.keep c o h m).1 (a.keep c o h m).2, fun c o h => by obtain ⟨o', h'⟩ := a.dom c o h; exact b.dom c o' h'⟩
theorem Ext.stb {K : PySem.W.Frag} {H H' : Hp} {M M' : Mst} (a : Ext H M H' M') (m : MOk K H M) : Stb H H' := fun b u h n => by
  refine (a.keep b u h ?_).1
  cases e : M b with
  | none => rfl
  | some c =>
    obtain ⟨o, ho, mu⟩ := (m b c e).ho
    rw [h] at ho; cases ho; exact (n mu).elim
theorem Ext.new {H : Hp} {M : Mst} {p : Addr} {o : HO} (hp : H p = none) : Ext H M (upd H p o) M :=
  ⟨fun a u h m => ⟨by rw [upd_ne (ne_of_none h hp)]; exact h, m⟩, fun a u h => ⟨u, by rw [upd_ne (ne_of_none h hp)]; exact h⟩⟩
theorem Ext.lay {H : Hp} {M : Mst} {p : Addr} {o : HO} {c : Cell} (hp : H p = none) : Ext H M (upd H p o) (updM M p c) :=
  ⟨fun a u h m => ⟨by rw [upd_ne (ne_of_none h hp)]; exact h, by rw [updM_ne (ne_of_none h hp)]; exact m⟩, fun a u h => ⟨u, by rw [upd_ne (ne_of_none h hp)]; exact h⟩⟩
theorem Ext.put {H : Hp} {M : Mst} {p : Addr} {o : HO} {c c0 : Cell} (hm : M p = some c0) : Ext H M (upd H p o) (updM M p c) := by
  refine ⟨fun a u h m => ?_, fun a u h => ?_⟩
  · have n : a ≠ p := fun z => by subst z; rw [hm] at m; cases m
    exact ⟨by rw [upd_ne n]; exact h, by rw [updM_ne n]; exact m⟩
  · by_cases e : a = p
    · subst e; exact ⟨o, upd_same⟩
    · exact ⟨u, by rw [upd_ne e]; exact h⟩
theorem Ext.off {H : Hp} {M : Mst} {p : Addr} {o : HO} {c0 : Cell} (hm : M p = some c0) : Ext H M (upd H p o) (delM M p) := by
  refine ⟨fun a u h m => ?_, fun a u h => ?_⟩
  · have n : a ≠ p := fun z => by subst z; rw [hm] at m; cases m
    exact ⟨by rw [upd_ne n]; exact h, by rw [delM_ne n]; exact m⟩
  · by_cases e : a = p
    · subst e; exact ⟨o, upd_same⟩
    · exact ⟨u, by rw [upd_ne e]; exact h⟩
theorem Ext.le {H H' : Hp} {M M' M'' : Mst} (a : Ext H M H' M') (l : MLe M'' M') : Ext H M H' M'' :=
  ⟨fun b o h m => ⟨(a.keep b o h m).1, by
    cases e : M'' b with
    | none => rfl
    | some c => obtain ⟨c', e', _⟩ := l b c e; rw [(a.keep b o h m).2] at e'; cases e'⟩, a.dom⟩

/-! ### states, wishes -/
structure DS where
  τ : List (Option D)
  M : Mst
/-- an error: its class, its fields -/
structure Er where
  C : Addr
  fs : List (Str × D)
abbrev TEd := DS → (D → DS → Prop) → (Er → DS → Prop) → Prop
abbrev TTd := DS → (Bool → DS → Prop) → (Er → DS → Prop) → Prop
abbrev TAd := DS → (List D → DS → Prop) → (Er → DS → Prop) → Prop
structure EndsD where
  nx : DS → Prop
  rt : D → Mst → Prop
  bk : DS → Prop := fun _ => False
  ct : DS → Prop := fun _ => False
  ex : Er → DS → Prop := fun _ _ => False
abbrev TSd := EndsD → DS → Prop

structure SR (K : PySem.W.Frag) (σ : L2.St) (H : Hp) (S : DS) : Prop where
  len : σ.length = S.τ.length
  at_ : ∀ (i : Nat) (d : D), S.τ[i]? = some (some d) → ∃ v : V, σ[i]? = some (some v) ∧ Rep K H v d
  m : MOk K H S.M
/-- what is kept of an error in the heap -/
def ErOk (K : PySem.W.Frag) (H : Hp) (cls : Value) (d : Option Addr) (er : Er) : Prop :=
  cls = .ref er.C ∧ ∃ (dd : Addr) (fv : List (Str × V)), d = some dd ∧ H dd = some (.xd fv) ∧ fv.map (·.1) = er.fs.map (·.1) ∧ Reps K H (fv.map (·.2)) (er.fs.map (·.2))
structure ExOk (K : PySem.W.Frag) (W : WX) (σ : L2.St) (H : Hp) (M : Mst) (Ed : Er → DS → Prop) : Prop where
  ex : ∀ er S cls d H', Ext H M H' S.M → SR K σ H' S → ErOk K H' cls d er → Ed er S → W cls d σ H'
def liftE (K : PySem.W.Frag) (W : WX) (t : TEd) : TE := fun σ H Q => ∃ S Qd Ed, SR K σ H S ∧ (∀ d S' v H', Ext H S.M H' S'.M → SR K σ H' S' → Rep K H' v d → Qd d S' → Q v H') ∧ ExOk K W σ H S.M Ed ∧ t S Qd Ed
def liftT (K : PySem.W.Frag) (W : WX) (t : TTd) : TT := fun σ H Q => ∃ S Qd Ed, SR K σ H S ∧ (∀ b S' H', Ext H S.M H' S'.M → SR K σ H' S' → Qd b S' → Q b H') ∧ ExOk K W σ H S.M Ed ∧ t S Qd Ed
def liftA (K : PySem.W.Frag) (W : WX) (t : TAd) : TA := fun σ H Q => ∃ S Qd Ed, SR K σ H S ∧ (∀ ds S' vs H', Ext H S.M H' S'.M → SR K σ H' S' → Reps K H' vs ds → Qd ds S' → Q vs H') ∧ ExOk K W σ H S.M Ed ∧ t S Qd Ed
structure EndsOk (K : PySem.W.Frag) (W : WX) (H : Hp) (M : Mst) (E : Ends) (ED : EndsD) : Prop where
  nx : ∀ σ H' S, Ext H M H' S.M → SR K σ H' S → ED.nx S → E.nx σ H'
  rt : ∀ v H' d M', Ext H M H' M' → MOk K H' M' → Rep K H' v d → ED.rt d M' → E.rt v H'
  bk : ∀ σ H' S, Ext H M H' S.M → SR K σ H' S → ED.bk S → E.bk σ H'
  ct : ∀ σ H' S, Ext H M H' S.M → SR K σ H' S → ED.ct S → E.ct σ H'
  ex : ∀ er σ H' S cls d, Ext H M H' S.M → SR K σ H' S → ErOk K H' cls d er → ED.ex er S → W cls d σ H'
def liftS (K : PySem.W.Frag) (W : WX) (t : TSd) : TS := fun E σ H => ∃ S ED, SR K σ H S ∧ EndsOk K W H S.M E ED ∧ t ED S
structure DE (X : Cx) (W : WX) (e : Expr) (t : TEd) : Prop where
  pe : PE X e (liftE X.K W t)
structure DT (X : Cx) (W : WX) (e : Expr) (t : TTd) : Prop where
  pt : PT X e (liftT X.K W t)
structure DW (X : Cx) (W : WX) (e : Expr) (t : TTd) : Prop where
  pw : PW X e (liftT X.K W t)
structure DA (X : Cx) (W : WX) (es : List Expr) (t : TAd) : Prop where
  pa : PA X es (liftA X.K W t)
structure DSt (X : Cx) (W : WX) (st : Stmt) (t : TSd) : Prop where
  ps : PS X st (liftS X.K W t)
structure DSs (X : Cx) (W : WX) (st : List Stmt) (t : TSd) : Prop where
  pss : PSs X st (liftS X.K W t)
end DL
end
section
set_option maxRecDepth 100000
set_option maxHeartbeats 2000000
/-! DL2: expressions, statements over data -/
namespace DL
open PySem PySem.Spec L2

section
variable {X : Cx} {W : WX}
theorem pe_imp {e : Expr} {t t' : TE} (h : PE X e t) (k : ∀ σ H Q, t' σ H Q → t σ H Q) : PE X e t' := ⟨fun pins s σ H Q I q => h.run pins s σ H Q I (k σ H Q q)⟩
theorem pt_imp {e : Expr} {t t' : TT} (h : PT X e t) (k : ∀ σ H Q, t' σ H Q → t σ H Q) : PT X e t' := ⟨fun pins s σ H Q I q => h.run pins s σ H Q I (k σ H Q q)⟩
theorem pw_imp {e : Expr} {t t' : TT} (h : PW X e t) (k : ∀ σ H Q, t' σ H Q → t σ H Q) : PW X e t' := ⟨fun wh pins s σ H Q I q => h.run wh pins s σ H Q I (k σ H Q q)⟩
theorem pa_imp {e : List Expr} {t t' : TA} (h : PA X e t) (k : ∀ σ H Q, t' σ H Q → t σ H Q) : PA X e t' := ⟨fun pos pins s σ H Q I q => h.run pos pins s σ H Q I (k σ H Q q)⟩
theorem ps_imp {e : Stmt} {t t' : TS} (h : PS X e t) (k : ∀ D σ H, t' D σ H → t D σ H) : PS X e t' := ⟨fun pins s σ H D I q => h.run pins s σ H D I (k D σ H q)⟩
theorem pss_imp {e : List Stmt} {t t' : TS} (h : PSs X e t) (k : ∀ D σ H, t' D σ H → t D σ H) : PSs X e t' := ⟨fun pins s σ H D I q => h.run pins s σ H D I (k D σ H q)⟩
end

section
variable {K : PySem.W.Frag} {W : WX} {σ : L2.St} {H H1 H' : Hp} {S : DS}
theorem SR.mk2 (h : SR K σ H S) {M : Mst} (e : Ext H S.M H' M) (m : MOk K H' M) : SR K σ H' ⟨S.τ, M⟩ :=
  ⟨h.len, fun i d q => by obtain ⟨v, a, r⟩ := h.at_ i d q; exact ⟨v, a, r.stb (e.stb h.m)⟩, m⟩
theorem SR.set (h : SR K σ H S) {i : Nat} {v : V} {d : D} (r : Rep K H v d) : SR K (σ.set i (some v)) H ⟨S.τ.set i (some d), S.M⟩ := by
  refine ⟨?_, fun j c q => ?_, h.m⟩
  · show (σ.set i (some v)).length = (S.τ.set i (some d)).length
    rw [List.length_set, List.length_set, h.len]
  · have q' : (S.τ.set i (some d))[j]? = some (some c) := q
    rw [List.getElem?_set] at q'
    by_cases e : i = j
    · subst e
      rw [if_pos rfl] at q'
      by_cases l : i < S.τ.length
      · rw [if_pos l] at q'
        cases q'
        refine ⟨v, ?_, r⟩
        rw [List.getElem?_set, if_pos rfl, if_pos (by rw [h.len]; exact l)]
      · rw [if_neg l] at q'; cases q'
    · rw [if_neg e] at q'
      obtain ⟨u, a, b⟩ := h.at_ j c q'
      refine ⟨u, ?_, b⟩
      rw [List.getElem?_set, if_neg e]
      exact a
theorem SR.wipe (h : SR K σ H S) (i : Nat) : SR K (σ.set i none) H ⟨S.τ.set i none, S.M⟩ := by
  refine ⟨?_, fun j c q => ?_, h.m⟩
  · show (σ.set i none).length = (S.τ.set i none).length
    rw [List.length_set, List.length_set, h.len]
  · have q' : (S.τ.set i none)[j]? = some (some c) := q
    rw [List.getElem?_set] at q'
    by_cases e : i = j
    · subst e
      rw [if_pos rfl] at q'
      by_cases l : i < S.τ.length
      · rw [if_pos l] at q'; cases q'
      · rw [if_neg l] at q'; cases q'
    · rw [if_neg e] at q'
      obtain ⟨u, a, b⟩ := h.at_ j c q'
      refine ⟨u, ?_, b⟩
      rw [List.getElem?_set, if_neg e]
      exact a
end

/-! ### expressions -/
/-- a slot's value -/
def slot (τ : List (Option D)) (i : Nat) (Q : D → Prop) : Prop := match τ[i]? with
  | some (some d) => Q d
  | _ => False
theorem slot_of {τ : List (Option D)} {i : Nat} {Q : D → Prop} (h : slot τ i Q) : ∃ d, τ[i]? = some (some d) ∧ Q d := by
  unfold slot at h
  split at h
  · rename_i d e; exact ⟨d, e, h⟩
  · exact h.elim
def dVar (i : Nat) : TEd := fun S Q _ => slot S.τ i fun d => Q d S
def dC (d : D) : TEd := fun S Q _ => Q d S
theorem ExOk.later {K : PySem.W.Frag} {W : WX} {σ : L2.St} {H H' : Hp} {M M' : Mst} {Ed : Er → DS → Prop} (x : ExOk K W σ H M Ed) (e : Ext H M H' M') : ExOk K W σ H' M' Ed := ⟨fun er S cls d H2 e2 => x.ex er S cls d H2 (e.trans e2)⟩
section
variable {X : Cx} {W : WX} {e a b : Expr} {te ta tb : TEd} {pos : Pos}
theorem de_var {i : Nat} (h : PE X e (tVar i)) : DE X W e (dVar i) := ⟨pe_imp h fun σ H Q ⟨S, Qd, Ed, sr, k, x, q⟩ => by
  obtain ⟨d, e1, e2⟩ := slot_of q
  obtain ⟨v, a, r⟩ := sr.at_ i d e1
  exact ⟨v, a, k d S v H (.refl H _) sr r e2⟩⟩
theorem de_c {v : V} {d : D} (h : PE X e (tC v)) (r : ∀ H, Rep X.K H v d) : DE X W e (dC d) := ⟨pe_imp h fun σ H Q ⟨S, Qd, Ed, sr, k, x, q⟩ => k d S v H (.refl H _) sr (r H) q⟩
theorem de_int {i : Int} {j : Nat} : DE X W (.Constant (.int i) j pos) (dC (.int i)) := de_c pe_int fun _ => .int i
theorem de_bl {b : Bool} {j : Nat} : DE X W (.Constant (.bool b) j pos) (dC (.bl b)) := de_c pe_bl fun _ => .bl b
theorem de_non {j : Nat} : DE X W (.Constant .none j pos) (dC .non) := de_c pe_non fun _ => .non
theorem de_str {x : Str} {j : Nat} : DE X W (.Constant (.str x) j pos) (dC (.str x)) := de_c pe_str fun _ => .str x
theorem dv (i : Nat) {x : Str} {pos : Pos} (hN : X.N[i]? = some x := by rfl) (hv : Vis X.env.scope x := by first | exact Or.inl rfl | exact Or.inr (Or.inl rfl) | exact Or.inr (Or.inr rfl)) (hd : (x == ("__debug__" : Str)) = false := by decide)
    (hcd : (x == ("__classdict__" : Str)) = false := by decide) : DE X W (.Name x pos) (dVar i) := de_var (pe_var hN hv hd hcd)

/-- a list, a dict that may change, frozen -/
def Cell.toD : Cell → D
  | .lst ds => .lst ds
  | .dct ds => .dct ds
  | _ => .non
def Cell.frz : Cell → Bool
  | .lst _ => true
  | .dct _ => true
  | _ => false
def dFrz (te : TEd) : TEd := fun S Q E => te S (fun d S' => ∃ p c, d = .ref p ∧ S'.M p = some c ∧ c.frz = true ∧ Q c.toD ⟨S'.τ, delM S'.M p⟩) E
theorem rep_frz {K : PySem.W.Frag} {H : Hp} {p : Addr} {c : Cell} {u : HO} (k : CellOk K H p c) (hc : c.frz = true) (hp : H p = some u) (o : Obj) : Rep K (upd H p (.frz o u)) (.ref p) c.toD := by
  have st : Stb H (upd H p (.frz o u)) := by
    obtain ⟨u', hu', mu⟩ := k.ho
    rw [hp] at hu'; cases hu'
    exact Stb.mut hp mu
  cases c with
  | lst ds =>
    obtain ⟨xs, h, r⟩ := k
    rw [hp] at h; cases h
    exact .lst ⟨o, upd_same⟩ (r.stb st)
  | dct ds =>
    obtain ⟨xs, h, q, r⟩ := k
    rw [hp] at h; cases h
    exact .dct ⟨o, upd_same⟩ q (r.stb st)
  | box b => cases hc
  | ins C dx fs => cases hc
theorem pe_fz {t : TE} (h : PE X e t) : PE X e (fun σ H Q => t σ H fun v H1 => ∃ (p : Addr) (u : HO), v = .ref p ∧ H1 p = some u ∧ Mut (some u) ∧ ∀ o, Q v (upd H1 p (.frz o u))) := by
  refine ⟨fun pins s σ H Q I q => ?_⟩
  refine thn (h.run pins s σ H _ I q) fun u s1 ⟨v, H1, I1, r, p, w, ev, hp, mu, q⟩ => ?_
  obtain ⟨o', I2⟩ := I1.lock hp mu
  exact ⟨v, _, I2, r, q o'⟩
theorem de_frz (h : DE X W e te) : DE X W e (dFrz te) :=
  ⟨pe_imp (pe_fz h.pe) fun σ H Q ⟨S, Qd, Ed, sr, k, x, q⟩ => by
    refine ⟨S, _, Ed, sr, fun d S' v H' st sr' rv qd => ?_, x, q⟩
    obtain ⟨p, c, rfl, hc, hf, qd⟩ := qd
    cases rv with
    | ref a =>
      have ck := sr'.m p c hc
      obtain ⟨u, hu, mu⟩ := ck.ho
      exact ⟨p, u, rfl, hu, mu, fun o => k _ _ _ _ (st.trans (Ext.off hc)) (sr'.mk2 (Ext.off hc) (sr'.m.off hu mu)) (rep_frz ck hf hu o) qd⟩⟩
/-! ### two operands -/
/-- an operation on data -/
abbrev O2 := D → D → Mst → (D → Mst → Prop) → Prop
def OpL (K : PySem.W.Frag) (r : R2) (od : O2) : Prop := ∀ x y H M d1 d2 (Q : VK) (Qd : D → Mst → Prop), Rep K H x d1 → Rep K H y d2 → MOk K H M → od d1 d2 M Qd →
  (∀ v H' d M', Ext H M H' M' → MOk K H' M' → Rep K H' v d → Qd d M' → Q v H') → r x y H Q
def dOp (od : O2) (ta tb : TEd) : TEd := fun S Q E => ta S (fun x S1 => tb S1 (fun y S2 => od x y S2.M fun d M' => Q d ⟨S2.τ, M'⟩) E) E
theorem lift_op {K : PySem.W.Frag} {r : R2} {od : O2} (o : OpL K r od) {σ : L2.St} {H : Hp} {Q : VK} (h : liftE K W (dOp od ta tb) σ H Q) : tOp r (liftE K W ta) (liftE K W tb) σ H Q := by
  obtain ⟨S, Qd, Ed, sr, k, x, q⟩ := h
  refine ⟨S, _, Ed, sr, fun d1 S1 v1 H1 st1 sr1 r1 q1 => ?_, x, q⟩
  refine ⟨S1, _, Ed, sr1, fun d2 S2 v2 H2 st2 sr2 r2 q2 => ?_, x.later st1, q1⟩
  exact o v1 v2 H2 S2.M d1 d2 Q _ (r1.stb (st2.stb sr1.m)) r2 sr2.m q2 fun v H' d M' st m r q => k d _ v H' ((st1.trans st2).trans st) (sr2.mk2 st m) r q
theorem de_op {op : Operator} {r : R2} {od : O2} (ho : OpR X (binaryOp op) r) (o : OpL X.K r od) (ha : DE X W a ta) (hb : DE X W b tb) : DE X W (.BinOp a op b pos) (dOp od ta tb) :=
  ⟨pe_imp (pe_op ho ha.pe hb.pe) fun _ _ _ h => lift_op o h⟩
theorem de_cmp {op : CmpOp} {r : R2} {od : O2} (ho : OpR X (compareOp op) r) (o : OpL X.K r od) (ha : DE X W a ta) (hb : DE X W b tb) (hm : behindInMarks op b = false) : DE X W (.Compare a [op] [b] pos) (dOp od ta tb) :=
  ⟨pe_imp (pe_cmpR ho ha.pe hb.pe hm) fun _ _ _ h => lift_op o h⟩
theorem de_ix {r : R2} {od : O2} (ho : IxR X r) (o : OpL X.K r od) (ha : DE X W a ta) (hb : DE X W b tb) (hs : PlainIx b) : DE X W (.Subscript a b pos) (dOp od ta tb) :=
  ⟨pe_imp (pe_ix ho ha.pe hb.pe hs) fun _ _ _ h => lift_op o h⟩
/-- one operand -/
abbrev O1 := D → Mst → (D → Mst → Prop) → Prop
def OpL1 (K : PySem.W.Frag) (r : V → Hp → VK → Prop) (od : O1) : Prop := ∀ x H M d1 (Q : VK) (Qd : D → Mst → Prop), Rep K H x d1 → MOk K H M → od d1 M Qd →
  (∀ v H' d M', Ext H M H' M' → MOk K H' M' → Rep K H' v d → Qd d M' → Q v H') → r x H Q
def dUn (od : O1) (ta : TEd) : TEd := fun S Q E => ta S (fun x S1 => od x S1.M fun d M' => Q d ⟨S1.τ, M'⟩) E
theorem lift_un {K : PySem.W.Frag} {r : V → Hp → VK → Prop} {od : O1} (o : OpL1 K r od) {σ : L2.St} {H : Hp} {Q : VK} (h : liftE K W (dUn od ta) σ H Q) : tUn r (liftE K W ta) σ H Q := by
  obtain ⟨S, Qd, Ed, sr, k, x, q⟩ := h
  refine ⟨S, _, Ed, sr, fun d1 S1 v1 H1 st1 sr1 r1 q1 => ?_, x, q⟩
  exact o v1 H1 S1.M d1 Q _ r1 sr1.m q1 fun v H' d M' st m r q => k d _ v H' (st1.trans st) (sr1.mk2 st m) r q
theorem de_un {op : UnaryOp} {r : V → Hp → VK → Prop} {od : O1} (ho : UnR X (unaryOp op) r) (o : OpL1 X.K r od) (ha : DE X W a ta) : DE X W (.UnaryOp op a pos) (dUn od ta) :=
  ⟨pe_imp (pe_un ho ha.pe) fun _ _ _ h => lift_un o h⟩

/-! ### arguments, displays, calls of built-ins -/
def dNil : TAd := fun S Q _ => Q [] S
def dCons (ta : TEd) (tr : TAd) : TAd := fun S Q E => ta S (fun d S1 => tr S1 (fun ds S2 => Q (d :: ds) S2) E) E
theorem da_nil : DA X W [] dNil := ⟨pa_imp pa_nil fun σ H Q ⟨S, Qd, Ed, sr, k, x, q⟩ => k [] S [] H (.refl H _) sr .nil q⟩
theorem da_cons {es : List Expr} {t : TAd} (ha : DE X W e te) (hr : DA X W es t) (hs : starEach (e :: es) X.env = (false, eval e X.env) :: starEach es X.env := by rfl) : DA X W (e :: es) (dCons te t) :=
  ⟨pa_imp (pa_cons ha.pe hr.pa hs) fun σ H Q ⟨S, Qd, Ed, sr, k, x, q⟩ => by
    refine ⟨S, _, Ed, sr, fun d1 S1 v1 H1 st1 sr1 r1 q1 => ?_, x, q⟩
    exact ⟨S1, _, Ed, sr1, fun ds S2 vs H2 st2 sr2 rs q2 => k _ S2 _ H2 (st1.trans st2) sr2 (.cons (r1.stb (st2.stb sr1.m)) rs) q2, x.later st1, q1⟩⟩
/-- a tuple display -/
def dTup (t : TAd) : TEd := fun S Q E => t S (fun ds S1 => ds.length ≤ 100000 ∧ Q (.tup ds) S1) E
theorem line_of {n : Nat} (h : n ≤ 100000) : n ≤ sizeLine := Nat.le_trans h (by decide)
theorem de_tup {es : List Expr} {t : TAd} {x1} (h : DA X W es t) : DE X W (.Tuple es x1 pos) (dTup t) :=
  ⟨pe_imp (pe_tup h.pa) fun σ H Q ⟨S, Qd, Ed, sr, k, x, q⟩ => by
    refine ⟨S, _, Ed, sr, fun ds S1 vs H1 st1 sr1 rs q1 => ?_, x, q⟩
    refine ⟨by rw [rs.length]; exact line_of q1.1, fun p hp => ?_⟩
    exact k _ S1 _ _ (st1.trans (Ext.new hp)) (sr1.mk2 (Ext.new hp) (sr1.m.new hp)) (.tup (SqT.of upd_same) (rs.stb (Stb.new hp))) q1.2⟩
/-- a list display: a list that may change | one that stands -/
def dLstM (t : TAd) : TEd := fun S Q E => t S (fun ds S1 => ds.length ≤ 100000 ∧ ∀ p, S1.M p = none → Q (.ref p) ⟨S1.τ, updM S1.M p (.lst ds)⟩) E
def dLst (t : TAd) : TEd := fun S Q E => t S (fun ds S1 => ds.length ≤ 100000 ∧ Q (.lst ds) S1) E
theorem de_lstM {es : List Expr} {t : TAd} (h : DA X W es t) : DE X W (.List es pos) (dLstM t) :=
  ⟨pe_imp (pe_lst h.pa) fun σ H Q ⟨S, Qd, Ed, sr, k, x, q⟩ => by
    refine ⟨S, _, Ed, sr, fun ds S1 vs H1 st1 sr1 rs q1 => ?_, x, q⟩
    refine ⟨by rw [rs.length]; exact line_of q1.1, fun p hp => ?_⟩
    exact k _ _ _ _ (st1.trans (Ext.lay hp)) (sr1.mk2 (Ext.lay hp) (sr1.m.lay hp (c := .lst ds) ⟨vs, upd_same, rs.stb (Stb.new hp)⟩)) (.ref p) (q1.2 p (sr1.m.fresh hp))⟩
theorem de_lst {es : List Expr} {t : TAd} (h : DA X W es t) : DE X W (.List es pos) (dLst t) :=
  ⟨pe_imp (pe_fz (pe_lst h.pa)) fun σ H Q ⟨S, Qd, Ed, sr, k, x, q⟩ => by
    refine ⟨S, _, Ed, sr, fun ds S1 vs H1 st1 sr1 rs q1 => ?_, x, q⟩
    refine ⟨by rw [rs.length]; exact line_of q1.1, fun p hp => ⟨p, _, rfl, upd_same, trivial, fun o => ?_⟩⟩
    rw [upd_upd]
    exact k _ S1 _ _ (st1.trans (Ext.new hp)) (sr1.mk2 (Ext.new hp) (sr1.m.new hp)) (.lst ⟨o, upd_same⟩ (rs.stb (Stb.new hp))) q1.2⟩
end
end DL
end
section
set_option maxRecDepth 100000
set_option maxHeartbeats 2000000
/-! DL3: calls, tests, statements, loops -/
namespace DL
open PySem PySem.Spec L2

/-! ### calls of built-ins -/
abbrev OC := List D → Mst → (D → Mst → Prop) → Prop
def OpLC (K : PySem.W.Frag) (r : List V → Hp → VK → Prop) (oc : OC) : Prop := ∀ vs H M ds (Q : VK) (Qd : D → Mst → Prop), Reps K H vs ds → MOk K H M → oc ds M Qd →
  (∀ v H' d M', Ext H M H' M' → MOk K H' M' → Rep K H' v d → Qd d M' → Q v H') → r vs H Q
def dCB (oc : OC) (ta : TAd) : TEd := fun S Q E => ta S (fun ds S1 => oc ds S1.M fun d M' => Q d ⟨S1.τ, M'⟩) E
section
variable {X : Cx} {W : WX} {e a b : Expr} {es : List Expr} {te ta tb : TEd} {t : TAd} {pos p : Pos} {x : Str} {id T : String} {r : List V → Hp → VK → Prop} {oc : OC}
theorem lift_cb {K : PySem.W.Frag} (o : OpLC K r oc) {σ : L2.St} {H : Hp} {Q : VK} (h : liftE K W (dCB oc t) σ H Q) : tCB r (liftA K W t) σ H Q := by
  obtain ⟨S, Qd, Ed, sr, k, x, q⟩ := h
  refine ⟨S, _, Ed, sr, fun ds S1 vs H1 st1 sr1 rs q1 => ?_, x, q⟩
  exact o vs H1 S1.M ds Q _ rs sr1.m q1 fun v H' d M' st m r q => k d _ v H' (st1.trans st) (sr1.mk2 st m) r q
theorem de_callB (hc : CallR X (.builtin id) r) (o : OpLC X.K r oc) (hg : Gl X x) (hm : X.mg x = none) (hv : bootBuiltins x = some (.builtin id)) (ha : DA X W (e :: es) t) (hn : x ≠ "__name__" := by decide) (hdb : (x == ("__debug__" : Str)) = false := by decide)
    (he : starEach (e :: es) X.env = (false, eval e X.env) :: starEach es X.env := by rfl) (hpl : (backTo pos (starEach es X.env)).any (·.1) = false := by rfl) : DE X W (.Call (.Name x p) (e :: es) [] pos) (dCB oc t) :=
  ⟨pe_imp (pe_callB hc hg hm hv ha.pa hn hdb he hpl) fun _ _ _ h => lift_cb o h⟩
theorem de_callTy (hc : CallR X (.type T) r) (o : OpLC X.K r oc) (hg : Gl X x) (hm : X.mg x = none) (hv : bootBuiltins x = some (.type T)) (ha : DA X W (e :: es) t) (hn : x ≠ "__name__" := by decide) (hdb : (x == ("__debug__" : Str)) = false := by decide)
    (he : starEach (e :: es) X.env = (false, eval e X.env) :: starEach es X.env := by rfl) (hpl : (backTo pos (starEach es X.env)).any (·.1) = false := by rfl) : DE X W (.Call (.Name x p) (e :: es) [] pos) (dCB oc t) :=
  ⟨pe_imp (pe_callTy hc hg hm hv ha.pa hn hdb he hpl) fun _ _ _ h => lift_cb o h⟩
/-- a module's name for a built-in function -/
theorem de_callBf (hc : CallR X (.builtin id) r) (o : OpLC X.K r oc) (hg : Gl X x) (hm : X.mg x = some (.builtin id)) (ha : DA X W (e :: es) t) (hdb : (x == ("__debug__" : Str)) = false := by decide)
    (he : starEach (e :: es) X.env = (false, eval e X.env) :: starEach es X.env := by rfl) (hpl : (backTo pos (starEach es X.env)).any (·.1) = false := by rfl) : DE X W (.Call (.Name x p) (e :: es) [] pos) (dCB oc t) :=
  ⟨pe_imp (pe_callBfun hc hg hm ha.pa hdb he hpl) fun _ _ _ h => lift_cb o h⟩
end

/-! ### what a def promises, over data -/
abbrev SpD := List D → Mst → (D → Mst → Prop) → (Er → Mst → Prop) → Prop
def liftSp (K : PySem.W.Frag) (sp : SpD) : Sp := fun vs H Q E => ∃ ds M Qd Ed, Reps K H vs ds ∧ MOk K H M ∧ (∀ d M' v H', Ext H M H' M' → MOk K H' M' → Rep K H' v d → Qd d M' → Q v H') ∧
  (∀ er M' cls d H', Ext H M H' M' → MOk K H' M' → ErOk K H' cls d er → Ed er M' → E cls d H') ∧ sp ds M Qd Ed
/-- the def st of the text stands at the module's name x and keeps the promise sp -/
structure FD (P : Program) (w : World) (K : PySem.W.Frag) (mg : Str → Option Value) (base : Heap) (x : Str) (st : Stmt) (ps : List Str) (k : Nat) (sp : SpD) : Prop where
  ex : ∃ (f : Addr) (fd : FuncData), FnOk P w K mg base (L2.CX P w) k f fd ps (liftSp K sp) ∧ FunD K x x (defArgs st) (defBody st) (defScope st) [] [] f fd ∧ mg x = some (.ref f) ∧ Binds K fd ps []
theorem FD.mono {P : Program} {w : World} {K : PySem.W.Frag} {mg : Str → Option Value} {base : Heap} {x : Str} {st : Stmt} {ps : List Str} {j k : Nat} {sp : SpD} (F : FD P w K mg base x st ps j sp) (h : j ≤ k) : FD P w K mg base x st ps k sp := by
  obtain ⟨f, fd, a, b, c, d⟩ := F.ex
  exact ⟨f, fd, a.mono h, b, c, d⟩
theorem FD.imp {P : Program} {w : World} {K : PySem.W.Frag} {mg : Str → Option Value} {base : Heap} {x : Str} {st : Stmt} {ps : List Str} {k : Nat} {sp sp' : SpD} (F : FD P w K mg base x st ps k sp) (h : ∀ ds M Q E, sp' ds M Q E → sp ds M Q E) : FD P w K mg base x st ps k sp' := by
  obtain ⟨f, fd, a, b, c, d⟩ := F.ex
  exact ⟨f, fd, a.imp fun vs H Q E ⟨ds, M, Qd, Ed, h1, h2, h3, h4, h5⟩ => ⟨ds, M, Qd, Ed, h1, h2, h3, h4, h _ _ _ _ h5⟩, b, c, d⟩
def dCall (sp : SpD) (t : TAd) : TEd := fun S Q E => t S (fun ds S1 => sp ds S1.M (fun d M' => Q d ⟨S1.τ, M'⟩) fun er M' => E er ⟨S1.τ, M'⟩) E
section
variable {X : Cx} {W : WX} {e : Expr} {es : List Expr} {t : TAd} {pos p : Pos} {x : Str} {st : Stmt} {ps : List Str} {k : Nat} {sp : SpD}
theorem lift_call {K : PySem.W.Frag} {σ : L2.St} {H : Hp} {Q : VK} (h : liftE K W (dCall sp t) σ H Q) : tCallS (liftSp K sp) (WE W) (liftA K W t) σ H Q := by
  obtain ⟨S, Qd, Ed, sr, k, x, q⟩ := h
  refine ⟨S, _, Ed, sr, fun ds S1 vs H1 st1 sr1 rs q1 => ?_, x, q⟩
  exact ⟨ds, S1.M, _, _, rs, sr1.m, fun d M' v H' st m r q => k d _ v H' (st1.trans st) (sr1.mk2 st m) r q, fun er M' cls d H' st m eo q => x.ex er _ cls d H' (st1.trans st) (sr1.mk2 st m) eo q, q1⟩
theorem de_call (tk : Takes X W) (F : FD X.prog X.w X.K X.mg X.base x st ps k sp) (hr : Room k X.A) (ha : DA X W (e :: es) t) (hg : Gl X x := by rfl) (hdb : (x == ("__debug__" : Str)) = false := by decide)
    (he : starEach (e :: es) X.env = (false, eval e X.env) :: starEach es X.env := by rfl) (hpl : (backTo pos (starEach es X.env)).any (·.1) = false := by rfl) : DE X W (.Call (.Name x p) (e :: es) [] pos) (dCall sp t) := by
  obtain ⟨f, fd, F1, F2, F3, F4⟩ := F.ex
  exact ⟨pe_imp (pe_callS F1 hr hg F3 F2.kp F4 (fun σ => passAt tk σ) ha.pa hdb he hpl) fun _ _ _ h => lift_call h⟩
end

/-! ### tests -/
def dTest (te : TEd) : TTd := fun S Q E => te S (fun d S' => match d with
  | .bl b => Q b S'
  | _ => False) E
def dTru (te : TEd) : TTd := fun S Q E => te S (fun d S' => match d with
  | .non => Q false S'
  | .bl b => Q b S'
  | .int i => Q (i != 0) S'
  | .tup l => Q (!l.isEmpty) S'
  | .lst l => Q (!l.isEmpty) S'
  | .str z => z.length ≤ 100000 ∧ Q ((z.length : Int) != 0) S'
  | _ => False) E
def dAnd (t u : TTd) : TTd := fun S Q E => t S (fun b S1 => if b = true then u S1 Q E else Q false S1) E
def dOr (t u : TTd) : TTd := fun S Q E => t S (fun b S1 => if b = true then Q true S1 else u S1 Q E) E
def dNot (t : TTd) : TTd := fun S Q E => t S (fun b S1 => Q (!b) S1) E
/-- a and b, a or b as values: all but the last are True or False -/
def dAndV (ta tb : TEd) : TEd := fun S Q E => ta S (fun d S1 => match d with
  | .bl b => if b = true then tb S1 Q E else Q (.bl false) S1
  | _ => False) E
def dOrV (ta tb : TEd) : TEd := fun S Q E => ta S (fun d S1 => match d with
  | .bl b => if b = true then Q (.bl true) S1 else tb S1 Q E
  | _ => False) E
def dNotV (ta : TEd) : TEd := fun S Q E => ta S (fun d S1 => match d with
  | .bl b => Q (.bl (!b)) S1
  | _ => False) E
def dIf (t : TTd) (ta tb : TEd) : TEd := fun S Q E => t S (fun b S1 => if b = true then ta S1 Q E else tb S1 Q E) E
theorem rep_bl {K : PySem.W.Frag} {H : Hp} {v : V} {b : Bool} (r : Rep K H v (.bl b)) : v = .bl b := by cases r; rfl
theorem rep_int {K : PySem.W.Frag} {H : Hp} {v : V} {i : Int} (r : Rep K H v (.int i)) : v = .int i := by cases r; rfl
theorem rep_str {K : PySem.W.Frag} {H : Hp} {v : V} {z : Str} (r : Rep K H v (.str z)) : v = .str z := by cases r; rfl
theorem rep_non {K : PySem.W.Frag} {H : Hp} {v : V} (r : Rep K H v .non) : v = .non := by cases r; rfl
theorem reps_empty {K : PySem.W.Frag} {H : Hp} {xs : List V} {ds : List D} (r : Reps K H xs ds) : xs.isEmpty = ds.isEmpty := by cases r <;> rfl
section
variable {X : Cx} {W : WX} {e a b c : Expr} {es : List Expr} {te ta tb : TEd} {t u : TTd} {pos p : Pos}
theorem dt_val (h : DE X W e te) (he : ∀ whole, isTrue e X.env whole = (do let v ← whole; standAt e.pos; holding [v] (truthy v)) := by intro _; rfl) : DT X W e (dTest te) :=
  ⟨pt_imp (pt_val h.pe he) fun σ H Q ⟨S, Qd, Ed, sr, k, x, q⟩ => by
    refine ⟨S, _, Ed, sr, fun d S' v H' st sr' r qd => ?_, x, q⟩
    cases d <;> first | exact qd.elim | skip
    rename_i b
    exact ⟨b, rep_bl r, k b S' H' st sr' qd⟩⟩
theorem dt_tru (h : DE X W e te) (he : ∀ whole, isTrue e X.env whole = (do let v ← whole; standAt e.pos; holding [v] (truthy v)) := by intro _; rfl) : DT X W e (dTru te) :=
  ⟨pt_imp (pt_truth h.pe he) fun σ H Q ⟨S, Qd, Ed, sr, k, x, q⟩ => by
    refine ⟨S, _, Ed, sr, fun d S' v H' st sr' r qd => ?_, x, q⟩
    cases d with
    | non => exact ⟨false, by rw [rep_non r]; rfl, k _ S' H' st sr' qd⟩
    | bl b => exact ⟨b, by rw [rep_bl r]; rfl, k _ S' H' st sr' qd⟩
    | int i => exact ⟨i != 0, by rw [rep_int r]; rfl, k _ S' H' st sr' qd⟩
    | str z => exact ⟨(z.length : Int) != 0, by rw [rep_str r]; exact ⟨line_of qd.1, rfl⟩, k _ S' H' st sr' qd.2⟩
    | tup l =>
      cases r with
      | tup h r => exact ⟨_, .inr (.inl ⟨_, h, rfl⟩), by rw [reps_empty r]; exact k _ S' H' st sr' qd⟩
    | lst l =>
      cases r with
      | lst h r => exact ⟨_, .inl ⟨_, h.sq, rfl⟩, by rw [reps_empty r]; exact k _ S' H' st sr' qd⟩
    | dct l => exact qd.elim
    | ref a => exact qd.elim
    | scr l => exact qd.elim
    | err C a dd fs => exact qd.elim⟩
theorem dt_cmp {op : CmpOp} {r : R2} {od : O2} (ho : OpR X (compareOp op) r) (o : OpL X.K r od) (ha : DE X W a ta) (hb : DE X W b tb) (hm : behindInMarks op b = false) : DT X W (.Compare a [op] [b] pos) (dTest (dOp od ta tb)) :=
  ⟨pt_imp (pt_cmpR ho ha.pe hb.pe hm) fun σ H Q ⟨S, Qd, Ed, sr, k, x, q⟩ => lift_op o ⟨S, _, Ed, sr, fun d S' v H' st sr' r qd => by
    cases d <;> first | exact qd.elim | skip
    rename_i b
    exact ⟨b, rep_bl r, k b S' H' st sr' qd⟩, x, q⟩⟩
theorem DW.dt (h : DW X W e t) : DT X W e t := ⟨h.pw.pt⟩
theorem lift_t1 {K : PySem.W.Frag} {σ : L2.St} {H : Hp} {Q : Bool → Hp → Prop} {f : Bool → Hp → Prop} (h : ∃ S Qd Ed, SR K σ H S ∧ ExOk K W σ H S.M Ed ∧ t S Qd Ed ∧ (∀ b S' H', Ext H S.M H' S'.M → SR K σ H' S' → ExOk K W σ H' S'.M Ed → Qd b S' → f b H')) : liftT K W t σ H f := by
  obtain ⟨S, Qd, Ed, sr, x, q, k⟩ := h
  exact ⟨S, Qd, Ed, sr, fun b S' H' st sr' qd => k b S' H' st sr' (x.later st) qd, x, q⟩
theorem dw_and1 (ha : DT X W a t) : DW X W (.BoolOp .And [a] pos) t := ⟨pw_and1 ha.pt⟩
theorem dw_or1 (ha : DT X W a t) : DW X W (.BoolOp .Or [a] pos) t := ⟨pw_or1 ha.pt⟩
theorem dw_and {rest : List Expr} (ha : DT X W a t) (hb : DW X W (.BoolOp .And (b :: rest) pos) u) : DW X W (.BoolOp .And (a :: b :: rest) pos) (dAnd t u) :=
  ⟨pw_imp (pw_and ha.pt hb.pw) fun σ H Q ⟨S, Qd, Ed, sr, k, x, q⟩ => lift_t1 (Q := Q) ⟨S, _, Ed, sr, x, q, fun b S' H' st sr' x' qd => by
    cases b with
    | true => exact ⟨S', Qd, Ed, sr', fun b S2 H2 st2 sr2 q2 => k b S2 H2 (st.trans st2) sr2 q2, x', by simpa using qd⟩
    | false => exact k false S' H' st sr' (by simpa using qd)⟩⟩
theorem dw_or {rest : List Expr} (ha : DT X W a t) (hb : DW X W (.BoolOp .Or (b :: rest) pos) u) : DW X W (.BoolOp .Or (a :: b :: rest) pos) (dOr t u) :=
  ⟨pw_imp (pw_or ha.pt hb.pw) fun σ H Q ⟨S, Qd, Ed, sr, k, x, q⟩ => lift_t1 (Q := Q) ⟨S, _, Ed, sr, x, q, fun b S' H' st sr' x' qd => by
    cases b with
    | true => exact k true S' H' st sr' (by simpa using qd)
    | false => exact ⟨S', Qd, Ed, sr', fun b S2 H2 st2 sr2 q2 => k b S2 H2 (st.trans st2) sr2 q2, x', by simpa using qd⟩⟩⟩
theorem dt_not (ha : DT X W a t) : DT X W (.UnaryOp .Not a pos) (dNot t) :=
  ⟨pt_imp (pt_not ha.pt) fun σ H Q ⟨S, Qd, Ed, sr, k, x, q⟩ => ⟨S, _, Ed, sr, fun b S' H' st sr' qd => k (!b) S' H' st sr' qd, x, q⟩⟩
theorem de_one {op} (h : DE X W a te) : DE X W (.BoolOp op [a] pos) te := ⟨pe_one h.pe⟩
theorem de_and {rest : List Expr} (ha : DE X W a ta) (hb : DE X W (.BoolOp .And (b :: rest) pos) tb) : DE X W (.BoolOp .And (a :: b :: rest) pos) (dAndV ta tb) :=
  ⟨pe_imp (pe_and ha.pe hb.pe) fun σ H Q ⟨S, Qd, Ed, sr, k, x, q⟩ => ⟨S, _, Ed, sr, fun d S' v H' st sr' r qd => by
    cases d <;> first | exact qd.elim | skip
    rename_i b
    refine ⟨b, rep_bl r, ?_⟩
    cases b with
    | true => exact ⟨S', Qd, Ed, sr', fun d S2 v H2 st2 sr2 r q2 => k d S2 v H2 (st.trans st2) sr2 r q2, x.later st, by simpa using qd⟩
    | false => exact k (.bl false) S' _ H' st sr' (.bl false) (by simpa using qd), x, q⟩⟩
theorem de_or {rest : List Expr} (ha : DE X W a ta) (hb : DE X W (.BoolOp .Or (b :: rest) pos) tb) : DE X W (.BoolOp .Or (a :: b :: rest) pos) (dOrV ta tb) :=
  ⟨pe_imp (pe_or ha.pe hb.pe) fun σ H Q ⟨S, Qd, Ed, sr, k, x, q⟩ => ⟨S, _, Ed, sr, fun d S' v H' st sr' r qd => by
    cases d <;> first | exact qd.elim | skip
    rename_i b
    refine ⟨b, rep_bl r, ?_⟩
    cases b with
    | true => exact k (.bl true) S' _ H' st sr' (.bl true) (by simpa using qd)
    | false => exact ⟨S', Qd, Ed, sr', fun d S2 v H2 st2 sr2 r q2 => k d S2 v H2 (st.trans st2) sr2 r q2, x.later st, by simpa using qd⟩, x, q⟩⟩
theorem de_not (ha : DE X W a ta) : DE X W (.UnaryOp .Not a pos) (dNotV ta) :=
  ⟨pe_imp (pe_not ha.pe) fun σ H Q ⟨S, Qd, Ed, sr, k, x, q⟩ => ⟨S, _, Ed, sr, fun d S' v H' st sr' r qd => by
    cases d <;> first | exact qd.elim | skip
    rename_i b
    exact ⟨b, rep_bl r, k (.bl !b) S' _ H' st sr' (.bl _) qd⟩, x, q⟩⟩
theorem de_if (hc : DT X W c t) (ha : DE X W a ta) (hb : DE X W b tb) : DE X W (.IfExp c a b pos) (dIf t ta tb) :=
  ⟨pe_imp (pe_ifExp hc.pt ha.pe hb.pe) fun σ H Q ⟨S, Qd, Ed, sr, k, x, q⟩ => ⟨S, _, Ed, sr, fun b S' H' st sr' qd => by
    cases b with
    | true => exact ⟨S', Qd, Ed, sr', fun d S2 v H2 st2 sr2 r q2 => k d S2 v H2 (st.trans st2) sr2 r q2, x.later st, by simpa using qd⟩
    | false => exact ⟨S', Qd, Ed, sr', fun d S2 v H2 st2 sr2 r q2 => k d S2 v H2 (st.trans st2) sr2 r q2, x.later st, by simpa using qd⟩, x, q⟩⟩
end

/-! ### statements -/
theorem EndsOk.later {K : PySem.W.Frag} {W : WX} {H H' : Hp} {M M' : Mst} {E : Ends} {ED : EndsD} (x : EndsOk K W H M E ED) (e : Ext H M H' M') : EndsOk K W H' M' E ED :=
  ⟨fun σ H2 S a => x.nx σ H2 S (e.trans a), fun v H2 d M2 a => x.rt v H2 d M2 (e.trans a), fun σ H2 S a => x.bk σ H2 S (e.trans a), fun σ H2 S a => x.ct σ H2 S (e.trans a), fun er σ H2 S c d a => x.ex er σ H2 S c d (e.trans a)⟩
theorem EndsOk.exo {K : PySem.W.Frag} {W : WX} {H : Hp} {M : Mst} {E : Ends} {ED : EndsD} (x : EndsOk K W H M E ED) (σ : L2.St) : ExOk K W σ H M ED.ex := ⟨fun er S cls d H' st sr eo q => x.ex er σ H' S cls d st sr eo q⟩
def dNext : TSd := fun D S => D.nx S
def dSeq (t u : TSd) : TSd := fun D S => t { D with nx := u D } S
def dBreak : TSd := fun D S => D.bk S
def dCont : TSd := fun D S => D.ct S
def dDrop (te : TEd) : TSd := fun D S => te S (fun _ S' => D.nx S') D.ex
def dRet (te : TEd) : TSd := fun D S => te S (fun d S' => ∃ M, MLe M S'.M ∧ D.rt d M) D.ex
def dRetN : TSd := fun D S => ∃ M, MLe M S.M ∧ D.rt .non M
def dIfS (c : TTd) (t u : TSd) : TSd := fun D S => c S (fun b S' => if b = true then t D S' else u D S') D.ex
abbrev TGd := D → DS → (DS → Prop) → Prop
abbrev TGsd := List D → DS → (DS → Prop) → Prop
def liftG (K : PySem.W.Frag) (g : TGd) : TG := fun v σ H Q => ∃ d S Qd, Rep K H v d ∧ SR K σ H S ∧ (∀ σ' H' S', Ext H S.M H' S'.M → SR K σ' H' S' → Qd S' → Q σ' H') ∧ g d S Qd
def liftGs (K : PySem.W.Frag) (g : TGsd) : TGs := fun vs σ H Q => ∃ ds S Qd, Reps K H vs ds ∧ SR K σ H S ∧ (∀ σ' H' S', Ext H S.M H' S'.M → SR K σ' H' S' → Qd S' → Q σ' H') ∧ g ds S Qd
structure DG (X : Cx) (tg : Expr) (g : TGd) : Prop where
  pg : PG X tg (liftG X.K g)
structure DGs (X : Cx) (tgs : List Expr) (g : TGsd) : Prop where
  pgs : PGs X tgs (liftGs X.K g)
def hName (i : Nat) : TGd := fun d S Q => Q ⟨S.τ.set i (some d), S.M⟩
def hNil : TGsd := fun ds S Q => match ds with
  | [] => Q S
  | _ => False
def hCons (g : TGd) (u : TGsd) : TGsd := fun ds S Q => match ds with
  | d :: r => g d S fun S' => u r S' Q
  | [] => False
def hTup (n : Nat) (g : TGsd) : TGd := fun d S Q => match d with
  | .tup ds => ds.length = n ∧ g ds S Q
  | _ => False
def dAsg (te : TEd) (g : TGd) : TSd := fun D S => te S (fun d S' => g d S' D.nx) D.ex
section
variable {X : Cx} {W : WX} {st : Stmt} {sts : List Stmt} {e a b c : Expr} {es : List Expr} {te ta tb : TEd} {tc : TTd} {t u : TSd} {pos p : Pos}
theorem dss_nil : DSs X W [] dNext := ⟨pss_imp pss_nil fun E σ H ⟨S, ED, sr, k, q⟩ => k.nx σ H S (.refl H _) sr q⟩
theorem dss_cons (h1 : DSt X W st t) (h2 : DSs X W sts u) : DSs X W (st :: sts) (dSeq t u) :=
  ⟨pss_imp (pss_cons h1.ps h2.pss) fun E σ H ⟨S, ED, sr, k, q⟩ => ⟨S, { ED with nx := u ED }, sr, ⟨fun σ' H' S' st sr' q' => ⟨S', ED, sr', k.later st, q'⟩, k.rt, k.bk, k.ct, k.ex⟩, q⟩⟩
theorem dss_one (h : DSt X W st t) : DSs X W [st] t := ⟨pss_one h.ps⟩
theorem dst_pass : DSt X W (.Pass pos) dNext := ⟨ps_imp ps_pass fun E σ H ⟨S, ED, sr, k, q⟩ => k.nx σ H S (.refl H _) sr q⟩
theorem dst_break : DSt X W (.Break pos) dBreak := ⟨ps_imp ps_break fun E σ H ⟨S, ED, sr, k, q⟩ => k.bk σ H S (.refl H _) sr q⟩
theorem dst_continue : DSt X W (.Continue pos) dCont := ⟨ps_imp ps_continue fun E σ H ⟨S, ED, sr, k, q⟩ => k.ct σ H S (.refl H _) sr q⟩
theorem dst_doc {x : Str} {j : Nat} {pos' : Pos} : DSt X W (.Expr (.Constant (.str x) j pos) pos') dNext := ⟨ps_imp ps_doc fun E σ H ⟨S, ED, sr, k, q⟩ => k.nx σ H S (.refl H _) sr q⟩
theorem dst_expr (he : DE X W e te) (hs : swapsWith e none pos.line X.env = pure false := by rfl) : DSt X W (.Expr e pos) (dDrop te) :=
  ⟨ps_imp (ps_expr he.pe hs) fun E σ H ⟨S, ED, sr, k, q⟩ => ⟨S, _, ED.ex, sr, fun d S' v H' st sr' r qd => k.nx σ H' S' st sr' qd, k.exo σ, q⟩⟩
theorem dst_ret (he : DE X W e te) : DSt X W (.Return (some e) pos) (dRet te) :=
  ⟨ps_imp (ps_ret he.pe) fun E σ H ⟨S, ED, sr, k, q⟩ => ⟨S, _, ED.ex, sr, fun d S' v H' st sr' r ⟨M, l, qd⟩ => k.rt v H' d M (st.le l) (sr'.m.le l) r qd, k.exo σ, q⟩⟩
theorem dst_retN : DSt X W (.Return none pos) dRetN := ⟨ps_imp ps_retN fun E σ H ⟨S, ED, sr, k, M, l, q⟩ => k.rt .non H .non M ((Ext.refl H _).le l) (sr.m.le l) .non q⟩
theorem dst_if {A B : List Stmt} (hc : DT X W c tc) (ha : DSs X W A t) (hb : DSs X W B u) : DSt X W (.If c A B pos) (dIfS tc t u) :=
  ⟨ps_imp (ps_if hc.pt ha.pss hb.pss) fun E σ H ⟨S, ED, sr, k, q⟩ => ⟨S, _, ED.ex, sr, fun b S' H' st sr' qd => by
    cases b with
    | true => exact ⟨S', ED, sr', k.later st, by simpa using qd⟩
    | false => exact ⟨S', ED, sr', k.later st, by simpa using qd⟩, k.exo σ, q⟩⟩
theorem pg_imp {tg : Expr} {g g' : TG} (h : PG X tg g) (k : ∀ v σ H Q, g' v σ H Q → g v σ H Q) : PG X tg g' := ⟨fun pins s σ H x u Q I r q => h.run pins s σ H x u Q I r (k x σ H Q q)⟩
theorem dg_name {i : Nat} {x : Str} (hN : X.N.Nodup) (hi : X.N[i]? = some x) (hx : Loc X.env.scope x) (hf : X.fn x = true ∨ X.env.scope.names.lookup x = some .local := by first | exact .inl rfl | exact .inr rfl | assumption) : DG X (.Name x pos) (hName i) :=
  ⟨pg_imp (pg_name hN hi hx hf) fun v σ H Q ⟨d, S, Qd, r, sr, k, q⟩ => k _ H ⟨S.τ.set i (some d), S.M⟩ (.refl H _) (sr.set r) q⟩
theorem dst_asg {tg : Expr} {g : TGd} (he : DE X W e te) (hg : DG X tg g) (hs : swapsWithSole [tg] e pos.line X.env = pure false := by rfl) (hw : swappedStores [tg] e X.env = pure none := by rfl)
    (h1 : (assignEach [tg] X.env).map (·.2) = [assign tg X.env] := by rfl) : DSt X W (.Assign [tg] e pos) (dAsg te g) :=
  ⟨ps_imp (ps_asg he.pe hg.pg hs hw h1) fun E σ H ⟨S, ED, sr, k, q⟩ => ⟨S, _, ED.ex, sr, fun d S' v H' st sr' r qd => ⟨d, S', ED.nx, r, sr', fun σ2 H2 S2 st2 sr2 q2 => k.nx σ2 H2 S2 (st.trans st2) sr2 q2, qd⟩, k.exo σ, q⟩⟩
end
end DL
end
section
set_option maxRecDepth 100000
set_option maxHeartbeats 2000000
/-! DL4: targets, loops, comprehensions, defs -/
namespace DL
open PySem PySem.Spec L2
section
variable {X : Cx} {W : WX} {st : Stmt} {sts : List Stmt} {e a b c : Expr} {es : List Expr} {te ta tb : TEd} {tc : TTd} {t u : TSd} {pos p : Pos}
theorem pgs_imp {tg : List Expr} {g g' : TGs} (h : PGs X tg g) (k : ∀ v σ H Q, g' v σ H Q → g v σ H Q) : PGs X tg g' := ⟨fun pins s σ H x u Q I r q => h.run pins s σ H x u Q I r (k x σ H Q q)⟩
theorem dgs_nil : DGs X [] hNil := ⟨pgs_imp pgs_nil fun vs σ H Q ⟨ds, S, Qd, r, sr, k, q⟩ => by
  cases r with
  | nil => exact ⟨rfl, k σ H S (.refl H _) sr q⟩
  | cons _ _ => exact q.elim⟩
theorem dgs_cons {g : TGd} {gs : TGsd} (h1 : DG X e g) (h2 : DGs X es gs) (hs : (assignEach (e :: es) X.env).map (·.2) = assign e X.env :: (assignEach es X.env).map (·.2) := by rfl) : DGs X (e :: es) (hCons g gs) :=
  ⟨pgs_imp (pgs_cons h1.pg h2.pgs hs) fun vs σ H Q ⟨ds, S, Qd, r, sr, k, q⟩ => by
    cases r with
    | nil => exact q.elim
    | cons r1 rr =>
      refine ⟨_, _, rfl, _, S, _, r1, sr, fun σ' H' S' st sr' q' => ?_, q⟩
      exact ⟨_, S', Qd, Reps.stb (st.stb sr.m) rr, sr', fun σ2 H2 S2 st2 sr2 q2 => k σ2 H2 S2 (st.trans st2) sr2 q2, q'⟩⟩
theorem dg_tup {k : Nat} {gs : TGsd} {n : Nat} (hc : X.calm = true) (h : DGs X es gs)
    (hn : (assignEach es X.env).length = n := by rfl) (hst : (assignEach es X.env).findIdx? (·.1) = none := by rfl) : DG X (.Tuple es k pos) (hTup n gs) :=
  ⟨pg_imp (pg_tup hc h.pgs hn hst) fun v σ H Q ⟨d, S, Qd, r, sr, k, q⟩ => by
    cases d <;> first | exact q.elim | skip
    cases r with
    | tup hq rr =>
      obtain ⟨hl, q⟩ := q
      exact ⟨_, _, rfl, hq, by rw [rr.length]; exact hl, _, S, Qd, rr, sr, k, q⟩⟩
/-- x = e, x a local name: the other swap test -/
theorem dst_set {i : Nat} {x : Str} {pos' : Pos} (hN : X.N.Nodup) (hi : X.N[i]? = some x) (hx : Loc X.env.scope x) (he : DE X W e te) (hs : swapsWith e (some (.Name x pos')) pos.line X.env = pure false := by rfl)
    (hf : X.fn x = true ∨ X.env.scope.names.lookup x = some .local := by first | exact .inl rfl | exact .inr rfl | assumption) : DSt X W (.Assign [.Name x pos'] e pos) (dAsg te (hName i)) :=
  ⟨ps_imp (ps_set hN hi hx he.pe hs hf) fun E σ H ⟨S, ED, sr, k, q⟩ => ⟨S, _, ED.ex, sr, fun d S' v H' st sr' r qd => k.nx _ H' ⟨S'.τ.set i (some d), S'.M⟩ st (sr'.set r) qd, k.exo σ, q⟩⟩
/-- a, b = x, y -/
def dPar (i j : Nat) (ta : TAd) : TSd := fun D S => ta S (fun ds S1 => match ds with
  | [d, e] => D.nx ⟨(S1.τ.set i (some d)).set j (some e), S1.M⟩
  | _ => False) D.ex
theorem dst_par {i j : Nat} {x y : Str} {ta : TAd} {px py pt : Pos} {kt k2 pt2} (hc : X.calm = true) (hN : X.N.Nodup) (hi : X.N[i]? = some x) (hj : X.N[j]? = some y) (hij : i ≠ j)
    (hx : X.env.scope.names.lookup x = some .local) (hy : X.env.scope.names.lookup y = some .local) (ha : DA X W [a, b] ta)
    (hw : swappedStores [.Tuple [.Name x px, .Name y py] kt pt] (.Tuple [a, b] k2 pt2) X.env = pure (some [x, y]))
    (hs : swapsWithSole [.Tuple [.Name x px, .Name y py] kt pt] (.Tuple [a, b] k2 pt2) pos.line X.env = pure false := by rfl) :
    DSt X W (.Assign [.Tuple [.Name x px, .Name y py] kt pt] (.Tuple [a, b] k2 pt2) pos) (dPar i j ta) :=
  ⟨ps_imp (ps_par hc hN hi hj hij hx hy ha.pa hw hs) fun E σ H ⟨S, ED, sr, k, q⟩ => ⟨S, _, ED.ex, sr, fun ds S' vs H' st sr' r qd => by
    cases r with
    | nil => exact qd.elim
    | cons r1 r =>
      cases r with
      | nil => exact qd.elim
      | cons r2 r =>
        cases r with
        | cons _ _ => exact qd.elim
        | nil => exact ⟨_, _, rfl, k.nx _ H' ⟨(S'.τ.set i (some _)).set j (some _), S'.M⟩ st ((sr'.set r1).set r2) qd⟩, k.exo σ, q⟩⟩

/-! ### what is walked -/
structure SeqOk (K : PySem.W.Frag) (J : It) (H : Hp) (ds : List D) : Prop where
  go : ∀ H' (i : Nat) (d : D), Stb H H' → ds[i]? = some d → J.go i H'
  yld : ∀ H' (i : Nat) (d : D) x H'', Stb H H' → ds[i]? = some d → J.yld i H' x H'' → (∀ M, Ext H' M H'' M) ∧ (∀ M, MOk K H' M → MOk K H'' M) ∧ Rep K H'' x d
  stop : ∀ H' (i : Nat), Stb H H' → ds.length ≤ i → J.stop i H'
def LiftI (K : PySem.W.Frag) (W : WX) (wi : TI) (t : TAd) : Prop := ∀ σ H R S Qd Ed, SR K σ H S → ExOk K W σ H S.M Ed → t S Qd Ed → (∀ ds S' H' J, Ext H S.M H' S'.M → SR K σ H' S' → SeqOk K J H' ds → Qd ds S' → R J H') → wi σ H R
structure DI (X : Cx) (W : WX) (tg iter : Expr) (t : TAd) : Prop where
  ex : ∃ wi, PI X tg iter wi ∧ LiftI X.K W wi t
theorem seq_list {K : PySem.W.Frag} {H : Hp} {a : Addr} {xs : List V} {ds : List D} (h : StL K H a xs) (r : Reps K H xs ds) : SeqOk K (Itl K a) H ds where
  go := fun H' i d st e => by
    obtain ⟨v, e1, _⟩ := r.get e
    exact ⟨xs, v, (h.stb st).sq, e1⟩
  yld := fun H' i d x H'' st e y => by
    obtain ⟨rfl, y⟩ := y
    obtain ⟨v, e1, r1⟩ := r.get e
    have e2 := y xs (h.stb st).sq
    rw [e1] at e2; cases e2
    exact ⟨fun M => .refl _ M, fun M m => m, r1.stb st⟩
  stop := fun H' i st e => ⟨xs, (h.stb st).sq, by rw [r.length]; exact e⟩
theorem seq_tup {K : PySem.W.Frag} {H : Hp} {a : Addr} {xs : List V} {ds : List D} (h : SqT K H a xs) (r : Reps K H xs ds) : SeqOk K (Itt K a) H ds where
  go := fun H' i d st e => by
    obtain ⟨v, e1, _⟩ := r.get e
    exact ⟨xs, v, SqT.stb st h, e1⟩
  yld := fun H' i d x H'' st e y => by
    obtain ⟨rfl, y⟩ := y
    obtain ⟨v, e1, r1⟩ := r.get e
    have e2 := y xs (SqT.stb st h)
    rw [e1] at e2; cases e2
    exact ⟨fun M => .refl _ M, fun M m => m, r1.stb st⟩
  stop := fun H' i st e => ⟨xs, SqT.stb st h, by rw [r.length]; exact e⟩
def rangeD (lo : Int) (n : Nat) : List D := (List.range n).map fun (i : Nat) => .int (lo + (i : Int))
theorem seq_range {K : PySem.W.Frag} {H : Hp} {lo : Int} {n : Nat} : SeqOk K (Itr lo n) H (rangeD lo n) where
  go := fun H' i d st e => by
    have l : i < n := by
      have := (List.getElem?_eq_some_iff.mp e).1
      simpa [rangeD] using this
    exact l
  yld := fun H' i d x H'' st e y => by
    obtain ⟨rfl, rfl⟩ := y
    have l : i < n := by
      have := (List.getElem?_eq_some_iff.mp e).1
      simpa [rangeD] using this
    rw [rangeD, List.getElem?_map, List.getElem?_range l] at e
    cases e
    exact ⟨fun M => .refl _ M, fun M m => m, .int _⟩
  stop := fun H' i st e => by
    have e' : n ≤ i := by simpa [rangeD] using e
    exact e'
/-- a list or a tuple -/
def dSeqI (te : TEd) : TAd := fun S Q E => te S (fun d S' => match d with
  | .lst l => Q l S'
  | .tup l => Q l S'
  | _ => False) E
def iSeq (K : PySem.W.Frag) (tl : TE) : TI := fun σ H R => tl σ H fun x H1 => ∃ a, x = .ref a ∧ (((∃ xs, SqL K H1 a xs) ∧ R (Itl K a) H1) ∨ ((∃ xs, SqT K H1 a xs) ∧ R (Itt K a) H1))
theorem pi_seq {tg l : Expr} {tl : TE} (hl : PE X l tl) : PI X tg l (iSeq X.K tl) := by
  refine ⟨fun pins s σ H R I h => ?_⟩
  refine thn (hl.run pins s σ H _ I h) fun v s1 ⟨x, H1, I1, r1, q1⟩ => ?_
  obtain ⟨a, e, q1⟩ := q1
  subst e
  cases r1
  rcases q1 with ⟨⟨xs, hq⟩, q⟩ | ⟨⟨xs, hq⟩, q⟩
  · obtain ⟨its, rv, p, hz⟩ := I1.list hq
    refine wpAny_pyIter_list p.isList ?_
    refine ⟨s1.heap.objs.size, [s1.heap.objs.size], _, _, H1, rfl, I1.kept (t' := s1.toks) fun b o e => Heap.get?_push_of_some _ e, turn_list a _, ⟨_, Heap.get?_push_size _ rfl, rfl, rfl⟩, fun b hb => ?_, q⟩
    have e : b = s1.heap.objs.size := by simpa using hb
    subst e
    exact I1.fpOk (Nat.le_refl _) (I1.hok.fresh (Nat.le_refl _))
  · obtain ⟨its, rv, p, hz⟩ := I1.tuple hq
    refine wpAny_pyIter_tuple (show s1.heap.IsTuple a its.toArray from p) ?_
    refine ⟨s1.heap.objs.size, [s1.heap.objs.size], _, _, H1, rfl, I1.kept (t' := s1.toks) fun b o e => Heap.get?_push_of_some _ e, turn_tuple a _, ⟨_, Heap.get?_push_size _ rfl, rfl, rfl⟩, fun b hb => ?_, q⟩
    have e : b = s1.heap.objs.size := by simpa using hb
    subst e
    exact I1.fpOk (Nat.le_refl _) (I1.hok.fresh (Nat.le_refl _))
theorem di_seq {tg l : Expr} {te : TEd} (h : DE X W l te) : DI X W tg l (dSeqI te) := ⟨_, pi_seq h.pe, fun σ H R S Qd Ed sr x q k => ⟨S, _, Ed, sr, fun d S' v H' st sr' r qd => by
  cases d <;> first | exact qd.elim | skip
  · cases r with
    | tup hq rr => exact ⟨_, rfl, .inr ⟨⟨_, hq⟩, k _ S' H' _ st sr' (seq_tup hq rr) qd⟩⟩
  · cases r with
    | lst hq rr => exact ⟨_, rfl, .inl ⟨⟨_, hq.sq⟩, k _ S' H' _ st sr' (seq_list hq rr) qd⟩⟩, x, q⟩⟩
def dRange1 (ta : TAd) : TAd := fun S Q E => ta S (fun ds S' => match ds with
  | [.int j] => j < 2 ^ 62 ∧ -(2 ^ 62) ≤ j ∧ Q (rangeD 0 j.toNat) S'
  | _ => False) E
def dRange2 (ta : TAd) : TAd := fun S Q E => ta S (fun ds S' => match ds with
  | [.int i, .int j] => (-(2 ^ 62) ≤ i ∧ i < 2 ^ 62 ∧ -(2 ^ 62) ≤ j ∧ j < 2 ^ 62) ∧ Q (rangeD i (j - i).toNat) S'
  | _ => False) E
theorem reps1 {K : PySem.W.Frag} {H : Hp} {vs : List V} {d : D} (r : Reps K H vs [d]) : ∃ v, vs = [v] ∧ Rep K H v d := by
  cases r with
  | cons r1 r => cases r; exact ⟨_, rfl, r1⟩
theorem reps2 {K : PySem.W.Frag} {H : Hp} {vs : List V} {d e : D} (r : Reps K H vs [d, e]) : ∃ v w, vs = [v, w] ∧ Rep K H v d ∧ Rep K H w e := by
  cases r with
  | cons r1 r =>
    obtain ⟨w, rfl, r2⟩ := reps1 r
    exact ⟨_, w, rfl, r1, r2⟩
theorem di_range1 {tg : Expr} {ta : TAd} {p pos : Pos} (hg : Gl X "range") (hm : X.mg "range" = none) (ha : DA X W [a] ta) (hs : starEach [a] X.env = [(false, eval a X.env)] := by rfl) : DI X W tg (.Call (.Name "range" p) [a] [] pos) (dRange1 ta) :=
  ⟨_, pi_range1 hg hm ha.pa hs, fun σ H R S Qd Ed sr x q k => ⟨S, _, Ed, sr, fun ds S' vs H' st sr' r qd => by
    match ds, qd with
    | [.int j], ⟨h1, h2, qd⟩ =>
      obtain ⟨v, rfl, r1⟩ := reps1 r
      rw [rep_int r1]
      exact ⟨j, rfl, h2, h1, k _ S' H' _ st sr' seq_range qd⟩, x, q⟩⟩
theorem di_range2 {tg : Expr} {ta : TAd} {p pos : Pos} (hg : Gl X "range") (hm : X.mg "range" = none) (ha : DA X W [a, b] ta) (hs : starEach [a, b] X.env = [(false, eval a X.env), (false, eval b X.env)] := by rfl) (hs2 : starEach [b] X.env = [(false, eval b X.env)] := by rfl) : DI X W tg (.Call (.Name "range" p) [a, b] [] pos) (dRange2 ta) :=
  ⟨_, pi_range2 hg hm ha.pa hs hs2, fun σ H R S Qd Ed sr x q k => ⟨S, _, Ed, sr, fun ds S' vs H' st sr' r qd => by
    match ds, qd with
    | [.int i, .int j], ⟨h1, qd⟩ =>
      obtain ⟨v, w, rfl, r1, r2⟩ := reps2 r
      rw [rep_int r1, rep_int r2]
      exact ⟨i, j, rfl, h1, k _ S' H' _ st sr' seq_range qd⟩, x, q⟩⟩

/-! ### for, while -/
def forGo (g : TGd) (body : TSd) (ED : EndsD) : List D → DS → Prop
  | [], S => ED.nx S
  | d :: r, S => g d S fun S1 => body { ED with nx := forGo g body ED r, ct := forGo g body ED r, bk := ED.nx } S1
def dFor (it : TAd) (g : TGd) (body : TSd) : TSd := fun ED S => it S (fun ds S1 => forGo g body ED ds S1) ED.ex
theorem drop_cons {α : Type} {l : List α} {i : Nat} {x : α} (h : l[i]? = some x) : l.drop i = x :: l.drop (i + 1) := by
  obtain ⟨l1, e⟩ := List.getElem?_eq_some_iff.mp h
  rw [List.drop_eq_getElem_cons l1, e]
theorem dst_for {tg iter : Expr} {body : List Stmt} {it : TAd} {g : TGd} (hp : PassesOwn (model X.prog X.w) X.A X.env X.xe) (hc : X.calm = true) (hi : DI X W tg iter it) (hg : DG X tg g) (hb : DSs X W body t)
    (hs : ∀ x, foldedSetIterable iter X.env x = pure x := by intro _; rfl) : DSt X W (.For tg iter body [] pos) (dFor it g t) := by
  obtain ⟨wi, hw, li⟩ := hi.ex
  refine ⟨ps_imp (ps_for hp hc hw hg.pg hb.pss hs) fun E σ H ⟨S, ED, sr, k, q⟩ => ?_⟩
  refine li σ H _ S _ ED.ex sr (k.exo σ) q fun ds S1 H1 J st1 sr1 so q1 => ?_
  refine ⟨fun i m σ' H' => m = ds.length - i ∧ i ≤ ds.length ∧ Stb H1 H' ∧ ∃ S', Ext H1 S1.M H' S'.M ∧ SR X.K σ' H' S' ∧ forGo g t ED (ds.drop i) S', ⟨ds.length, by simp, Nat.zero_le _, .refl _, S1, .refl _ _, sr1, by simpa using q1⟩, ?_⟩
  rintro i m σ' H' ⟨rfl, hi, stb, S', ext, sr', q'⟩
  by_cases hl : i < ds.length
  · refine .inr ⟨so.go H' i _ stb (List.getElem?_eq_getElem hl), fun σ2 H2 => Stb H1 H2 ∧ ∃ S2, Ext H1 S1.M H2 S2.M ∧ SR X.K σ2 H2 S2 ∧ forGo g t ED (ds.drop (i + 1)) S2, fun σ2 H2 ⟨a, S2, b, c, d⟩ => ⟨ds.length - (i + 1), by omega, rfl, hl, a, S2, b, c, d⟩, fun x H2 y => ?_⟩
    obtain ⟨e1, e2, e3⟩ := so.yld H' i _ x H2 stb (List.getElem?_eq_getElem hl) y
    rw [drop_cons (List.getElem?_eq_getElem hl)] at q'
    have sr2 := sr'.mk2 (e1 S'.M) (e2 _ sr'.m)
    refine ⟨_, ⟨S'.τ, S'.M⟩, _, e3, sr2, fun σ3 H3 S3 st3 sr3 q3 => ?_, q'⟩
    have k3 : Ext H1 S1.M H3 S3.M := (ext.trans (e1 _)).trans st3
    refine ⟨S3, { ED with nx := forGo g t ED (ds.drop (i + 1)), ct := forGo g t ED (ds.drop (i + 1)), bk := ED.nx }, sr3, ⟨fun σ4 H4 S4 st4 sr4 q4 => ?_, fun v H4 d M4 st4 => k.rt v H4 d M4 ((st1.trans k3).trans st4), fun σ4 H4 S4 st4 => k.nx σ4 H4 S4 ((st1.trans k3).trans st4), fun σ4 H4 S4 st4 sr4 q4 => ?_, fun er σ4 H4 S4 cls d st4 => k.ex er σ4 H4 S4 cls d ((st1.trans k3).trans st4)⟩, q3⟩
    · exact ⟨(k3.trans st4).stb sr1.m, S4, k3.trans st4, sr4, q4⟩
    · exact ⟨(k3.trans st4).stb sr1.m, S4, k3.trans st4, sr4, q4⟩
  · have e : i = ds.length := by omega
    subst e
    refine .inl ⟨so.stop H' _ stb (Nat.le_refl _), ?_⟩
    rw [List.drop_length] at q'
    exact k.nx σ' H' S' (st1.trans ext) sr' q'
def whileGo (c : TTd) (body : TSd) (ED : EndsD) : Nat → DS → Prop
  | 0, _ => False
  | n + 1, S => c S (fun b S1 => if b = true then body { ED with nx := whileGo c body ED n, ct := whileGo c body ED n, bk := ED.nx } S1 else ED.nx S1) ED.ex
def dWhile (c : TTd) (body : TSd) : TSd := fun ED S => ∃ n, whileGo c body ED n S
theorem dst_while {body : List Stmt} (hp : PassesOwn (model X.prog X.w) X.A X.env X.xe) (hc : DT X W c tc) (hb : DSs X W body t) : DSt X W (.While c body [] pos) (dWhile tc t) := by
  refine ⟨ps_imp (ps_while hp hc.pt hb.pss) fun E σ H ⟨S, ED, sr, k, n, q⟩ => ?_⟩
  refine ⟨fun m σ' H' => ∃ S', Ext H S.M H' S'.M ∧ SR X.K σ' H' S' ∧ whileGo tc t ED m S', ⟨n, S, .refl _ _, sr, q⟩, ?_⟩
  rintro m σ' H' ⟨S', ext, sr', q'⟩
  cases m with
  | zero => exact q'.elim
  | succ m =>
    refine ⟨S', _, ED.ex, sr', fun b S2 H2 st2 sr2 q2 => ?_, (k.exo σ').later ext, q'⟩
    cases b with
    | false => exact k.nx σ' H2 S2 (ext.trans st2) sr2 (by simpa using q2)
    | true =>
      have q3 : t { ED with nx := whileGo tc t ED m, ct := whileGo tc t ED m, bk := ED.nx } S2 := by simpa using q2
      refine ⟨fun σ3 H3 => ∃ S3, Ext H S.M H3 S3.M ∧ SR X.K σ3 H3 S3 ∧ whileGo tc t ED m S3, fun σ3 H3 h => ⟨m, Nat.lt_succ_self m, h⟩, ?_⟩
      have kk := ext.trans st2
      refine ⟨S2, { ED with nx := whileGo tc t ED m, ct := whileGo tc t ED m, bk := ED.nx }, sr2, ⟨fun σ4 H4 S4 st4 sr4 q4 => ⟨S4, kk.trans st4, sr4, q4⟩, fun v H4 d M4 st4 => k.rt v H4 d M4 (kk.trans st4), fun σ4 H4 S4 st4 => k.nx σ4 H4 S4 (kk.trans st4), fun σ4 H4 S4 st4 sr4 q4 => ⟨S4, kk.trans st4, sr4, q4⟩, fun er σ4 H4 S4 cls d st4 => k.ex er σ4 H4 S4 cls d (kk.trans st4)⟩, q3⟩
end
/-! ### a def keeps its promise -/
def startD (n : Nat) (ds : List D) : List (Option D) := ds.map some ++ List.replicate (n - ds.length) none
theorem sr_start {K : PySem.W.Frag} {H : Hp} {vs : List V} {ds : List D} {M : Mst} {N : List Str} (r : Reps K H vs ds) (m : MOk K H M) : SR K (start N vs) H ⟨startD N.length ds, M⟩ := by
  refine ⟨?_, fun i d e => ?_, m⟩
  · show (vs.map some ++ List.replicate (N.length - vs.length) none).length = (ds.map some ++ List.replicate (N.length - ds.length) none).length
    simp [r.length]
  · have e' : (ds.map some ++ List.replicate (N.length - ds.length) none)[i]? = some (some d) := e
    show ∃ v, (vs.map some ++ List.replicate (N.length - vs.length) none)[i]? = some (some v) ∧ Rep K H v d
    by_cases hl : i < ds.length
    · rw [List.getElem?_append_left (by simpa using hl), List.getElem?_map] at e'
      cases h1 : ds[i]? with
      | none => rw [h1] at e'; cases e'
      | some d' =>
        rw [h1] at e'
        cases e'
        obtain ⟨v, e1, r1⟩ := r.get h1
        exact ⟨v, by rw [List.getElem?_append_left (by rw [List.length_map, r.length]; exact hl), List.getElem?_map, e1]; rfl, r1⟩
    · rw [List.getElem?_append_right (by simpa using hl)] at e'
      rw [List.getElem?_replicate] at e'
      split at e' <;> cases e'
section
variable {P : Program} {w : World} {K : PySem.W.Frag} {mg : Str → Option Value} {base : Heap} {x : Str} {st : Stmt} {f : Addr} {fd : FuncData} {N ps : List Str} {k : Nat} {sp : SpD} {t : TSd}
def endsOf (Q : D → Mst → Prop) (E : Er → Mst → Prop) : EndsD := { nx := fun S => Q .non S.M, rt := Q, ex := fun er S => E er S.M }
/-- the wish of a def's body about errors -/
abbrev WD (E : XK) : WX := fun cls d _ H => E cls d H
theorem fd_ok (F : FunD K x x (defArgs st) (defBody st) (defScope st) [] [] f fd) (S : FnScope N ps (defScope st)) (hm : mg x = some (.ref f)) (hb : Binds K fd ps []) (len : ∀ ds M Q E, sp ds M Q E → ds.length = ps.length)
    (body : ∀ (cdv : Value) (A : Around) (outer : List Env) (s : Shared) (H : Hp) (E : XK), Room k (A.deeper (PyProof.Rows.envOfC x (defScope st) s.heap.objs.size f cdv)) →
      DSs (cxOf (L2.CX P w) P w K mg base N x (defScope st) f cdv A outer s H E) (WD E) (defBody st) t)
    (h : ∀ ds M Q E, sp ds M Q E → t (endsOf Q E) ⟨startD N.length ds, M⟩) : FD P w K mg base x st ps (k + 1) sp := by
  refine ⟨f, fd, F.ok S (fun vs H Q E ⟨ds, M, Qd, Ed, h1, h2, h3, h4, h5⟩ => by rw [h1.length]; exact len _ _ _ _ h5) (fun cdv A outer s H vs Q E hr hq => ⟨_, (body cdv A outer s H E hr).pss, ?_⟩), F, hm, hb⟩
  obtain ⟨ds, M, Qd, Ed, h1, h2, h3, h4, h5⟩ := hq
  refine ⟨⟨startD N.length ds, M⟩, endsOf Qd Ed, sr_start h1 h2, ⟨fun σ H' S' st sr q => h3 _ _ _ _ st sr.m .non q, fun v H' d M' st m r q => h3 _ _ _ _ st m r q, fun _ _ _ _ _ q => q.elim, fun _ _ _ _ _ q => q.elim, fun er σ H' S' cls d st sr eo q => h4 er _ cls d H' st sr.m eo q⟩, h _ _ _ _ h5⟩
end
end DL
end
section
set_option maxRecDepth 100000
set_option maxHeartbeats 2000000
/-! DL5: operations on data -/
namespace DL
open PySem PySem.Spec L2
section
variable {K : PySem.W.Frag}
/-! ### ints -/
def oAddI : O2 := fun x y M Q => match x, y with
  | .int i, .int j => Q (.int (i + j)) M
  | _, _ => False
def oSubI : O2 := fun x y M Q => match x, y with
  | .int i, .int j => Q (.int (i - j)) M
  | _, _ => False
def szI (n : Nat) (i : Int) : Prop := i.natAbs < 2 ^ n
def oMulI : O2 := fun x y M Q => match x, y with
  | .int i, .int j => (szI 60000000 i ∧ szI 60000000 j) ∧ Q (.int (i * j)) M
  | _, _ => False
def oDivI : O2 := fun x y M Q => match x, y with
  | .int i, .int j => (j ≠ 0 ∧ szI 9000 j) ∧ Q (.int (i.fdiv j)) M
  | _, _ => False
def oModI : O2 := fun x y M Q => match x, y with
  | .int i, .int j => j ≠ 0 ∧ Q (.int (i.fmod j)) M
  | _, _ => False
def oCmpI (p : Int → Int → Bool) : O2 := fun x y M Q => match x, y with
  | .int i, .int j => Q (.bl (p i j)) M
  | _, _ => False
abbrev oLt : O2 := oCmpI fun i j => decide (i < j)
abbrev oLe : O2 := oCmpI fun i j => decide (i ≤ j)
abbrev oGt : O2 := oCmpI fun i j => decide (j < i)
abbrev oGe : O2 := oCmpI fun i j => decide (j ≤ i)
theorem opl_int {C : Int → Int → Prop} {g : Int → Int → V} {gd : Int → Int → D} {od : O2} (hg : ∀ H i j, Rep K H (g i j) (gd i j)) (h : ∀ x y M Q, od x y M Q → ∃ i j, x = .int i ∧ y = .int j ∧ C i j ∧ Q (gd i j) M) : OpL K (rI C g) od :=
  fun x y H M d1 d2 Q Qd r1 r2 m o k => by
    obtain ⟨i, j, rfl, rfl, c, q⟩ := h _ _ _ _ o
    exact ⟨i, j, rep_int r1, rep_int r2, c, k _ H _ M (.refl H M) m (hg H i j) q⟩
theorem opl_int0 {g : Int → Int → V} {gd : Int → Int → D} {od : O2} (hg : ∀ H i j, Rep K H (g i j) (gd i j)) (h : ∀ x y M Q, od x y M Q → ∃ i j, x = .int i ∧ y = .int j ∧ Q (gd i j) M) : OpL K (rI0 g) od :=
  fun x y H M d1 d2 Q Qd r1 r2 m o k => by
    obtain ⟨i, j, rfl, rfl, q⟩ := h _ _ _ _ o
    exact ⟨i, j, rep_int r1, rep_int r2, k _ H _ M (.refl H M) m (hg H i j) q⟩
theorem opl_sub : OpL K (rI0 fun i j => .int (i - j)) oSubI := opl_int0 (gd := fun i j => .int (i - j)) (fun _ _ _ => .int _) fun x y M Q o => by
  cases x <;> cases y <;> first | exact ⟨_, _, rfl, rfl, o⟩ | exact o.elim
theorem opl_addI : OpL K (rI0 fun i j => .int (i + j)) oAddI := opl_int0 (gd := fun i j => .int (i + j)) (fun _ _ _ => .int _) fun x y M Q o => by
  cases x <;> cases y <;> first | exact ⟨_, _, rfl, rfl, o⟩ | exact o.elim
/-- * of factors below 2 ^ 60000000 -/
def CMulV (i j : Int) : Prop := szI 60000000 i ∧ szI 60000000 j
theorem szI.log {n : Nat} {i : Int} (h : szI n i) (h0 : 0 < n) : i.natAbs.log2 < n := PySem.Flt.log2_lt_of h0 h
theorem CMulV.ok {i j : Int} (h : CMulV i j) : PySem.IntMulOk i j := by
  have b : ∀ x : Int, Builtin.Int.intBits x ≤ x.natAbs.log2 + 1 := fun x => by
    unfold Builtin.Int.intBits
    split <;> omega
  have h1 := b i
  have h2 := b j
  have h3 := h.1.log (by decide)
  have h4 := h.2.log (by decide)
  have e : bitsLine = 134217728 := by decide
  unfold PySem.IntMulOk
  intro z
  rw [Bool.and_eq_true] at z
  have z2 := z.2
  unfold Builtin.Int.intTooBig at z2
  have z3 := of_decide_eq_true z2
  rw [e] at z3
  omega
theorem op_mulV {X : Cx} : OpR X (binaryOp .Mult) (rI CMulV fun i j => .int (i * j)) := opI fun _ _ _ _ _ _ _ hc q => PyProof.Rows.mul_int q (CMulV.ok hc)
theorem opl_mul : OpL K (rI CMulV fun i j => .int (i * j)) oMulI := opl_int (gd := fun i j => .int (i * j)) (fun _ _ _ => .int _) fun x y M Q o => by
  cases x <;> cases y <;> first | exact ⟨_, _, rfl, rfl, o⟩ | exact o.elim
def CDivZ (_ j : Int) : Prop := j ≠ 0 ∧ j.natAbs.log2 < 9000
theorem op_fdivZ {X : Cx} : OpR X (binaryOp .FloorDiv) (rI CDivZ fun i j => .int (i.fdiv j)) := opI fun _ _ _ _ _ _ _ hc q => PyProof.Rows.floordiv_int hc.1 q (.inl (PyProof.noPylong_of_log2 hc.2))
theorem opl_div : OpL K (rI CDivZ fun i j => .int (i.fdiv j)) oDivI := opl_int (gd := fun i j => .int (i.fdiv j)) (fun _ _ _ => .int _) fun x y M Q o => by
  cases x <;> cases y <;> first | exact ⟨_, _, rfl, rfl, ⟨o.1.1, o.1.2.log (by decide)⟩, o.2⟩ | exact o.elim
theorem opl_mod : OpL K (rI (fun _ j => j ≠ 0) fun i j => .int (i.fmod j)) oModI := opl_int (gd := fun i j => .int (i.fmod j)) (fun _ _ _ => .int _) fun x y M Q o => by
  cases x <;> cases y <;> first | exact ⟨_, _, rfl, rfl, o⟩ | exact o.elim
theorem opl_cmp {p : Int → Int → Bool} : OpL K (rI0 fun i j => .bl (p i j)) (oCmpI p) := opl_int0 (gd := fun i j => .bl (p i j)) (fun _ _ _ => .bl _) fun x y M Q o => by
  cases x <;> cases y <;> first | exact ⟨_, _, rfl, rfl, o⟩ | exact o.elim
def oNeg : O1 := fun x M Q => match x with
  | .int i => Q (.int (-i)) M
  | _ => False
theorem opl_neg : OpL1 K (rU fun i => .int (-i)) oNeg := fun x H M d Q Qd r m o k => by
  cases d <;> first | exact o.elim | skip
  rename_i i
  exact ⟨i, rep_int r, k _ H _ M (.refl H M) m (.int _) o⟩

/-! ### + of ints, texts, tuples, lists -/
def oAdd : O2 := fun x y M Q => match x, y with
  | .int i, .int j => Q (.int (i + j)) M
  | .str a, .str b => a.length + b.length ≤ 100000 ∧ Q (.str (a ++ b)) M
  | .tup a, .tup b => a.length + b.length ≤ 100000 ∧ Q (.tup (a ++ b)) M
  | .lst a, .lst b => a.length + b.length ≤ 100000 ∧ Q (.lst (a ++ b)) M
  | _, _ => False
/-- frozen lists put together, the new one frozen -/
def rCatL : R2 := fun x y H Q => ∃ l b o1 o2 xs zs, x = .ref l ∧ y = .ref b ∧ H l = some (.frz o1 (.lst xs)) ∧ H b = some (.frz o2 (.lst zs)) ∧ xs.length + zs.length ≤ sizeLine ∧ ∀ p o, H p = none → Q (.ref p) (upd H p (.frz o (.lst (xs ++ zs))))
theorem op_catL {X : Cx} : OpR X (binaryOp .Add) rCatL := by
  intro pins s σ H x y v u Q I rx ry h
  obtain ⟨l, b, o1, o2, xs, zs, rfl, rfl, hH, hB, hz, q⟩ := h
  cases rx
  cases ry
  obtain ⟨_, z, its, n, r, e⟩ := I.hok l _ hH
  obtain ⟨_, z2, its2, n2, r2, e2⟩ := I.hok b _ hB
  have hl := r.length
  have hl2 := r2.length
  refine PySem.P.add_list e e2 ?_ (by rw [List.size_toArray, List.size_toArray]; omega)
  have ea : its.toArray ++ its2.toArray = (its ++ its2).toArray := by simp
  rw [ea]
  have I2 := I.lnew (t' := s.toks) (r.append r2) (by rw [List.length_append]; omega)
  obtain ⟨o', I3⟩ := I2.lock upd_same trivial
  rw [upd_upd] at I3
  exact ⟨.ref _, _, I3, rfl, q _ _ I.fresh⟩
abbrev rAdd (K : PySem.W.Frag) : R2 := fun x y H Q => ((rI0 fun i j => .int (i + j)) x y H Q ∨ (fun x y H Q => ∃ i j, x = V.str i ∧ y = V.str j ∧ i.length + j.length ≤ sizeLine ∧ Q (V.str (i ++ j)) H) x y H Q) ∨ (rCatA K x y H Q ∨ rCatL x y H Q)
theorem op_addA {X : Cx} : OpR X (binaryOp .Add) (rAdd X.K) := (op_add.or op_add_str).or (op_catA.or op_catL)
theorem opl_add : OpL K (rAdd K) oAdd := fun x y H M d1 d2 Q Qd r1 r2 m o k => by
  cases d1 <;> cases d2 <;> first | exact o.elim | skip
  · exact .inl (.inl ⟨_, _, rep_int r1, rep_int r2, k _ H _ M (.refl H M) m (.int _) o⟩)
  · exact .inl (.inr ⟨_, _, rep_str r1, rep_str r2, line_of o.1, k _ H _ M (.refl H M) m (.str _) o.2⟩)
  · cases r1 with
    | tup h1 p1 =>
      cases r2 with
      | tup h2 p2 =>
        obtain ⟨hz, o⟩ := o
        refine .inr (.inl ⟨_, _, _, _, rfl, rfl, h1, h2, by rw [p1.length, p2.length]; exact line_of hz, fun z => ?_, fun _ z => ?_, fun _ z p hp => ?_⟩)
        · subst z; cases p1; exact k _ H _ M (.refl H M) m (.tup h2 p2) o
        · subst z
          cases p2
          rw [List.append_nil] at o
          exact k _ H _ M (.refl H M) m (.tup h1 p1) o
        · exact k _ _ _ M (.new hp) (m.new hp) (.tup (SqT.of upd_same) ((Reps.append p1 p2).stb (Stb.new hp))) o
  · cases r1 with
    | lst h1 p1 =>
      cases r2 with
      | lst h2 p2 =>
        obtain ⟨o1, h1⟩ := h1
        obtain ⟨o2, h2⟩ := h2
        obtain ⟨hz, o⟩ := o
        refine .inr (.inr ⟨_, _, _, _, _, _, rfl, rfl, h1, h2, by rw [p1.length, p2.length]; exact line_of hz, fun p ob hp => ?_⟩)
        exact k _ _ _ M (.new hp) (m.new hp) (.lst ⟨ob, upd_same⟩ ((Reps.append p1 p2).stb (Stb.new hp))) o

/-! ### == of data -/
mutual
def D.py : D → PyData
  | .bl b => .bool b
  | .int i => .int i
  | .str s => .str s
  | .tup l => .tuple (pyL l)
  | .lst l => .list (pyL l)
  | _ => .none
def pyL : List D → List PyData
  | [] => []
  | d :: r => d.py :: pyL r
end
mutual
def D.isPy : D → Bool
  | .dct _ => false
  | .ref _ => false
  | .scr _ => false
  | .err _ _ _ _ => false
  | .tup l => isPyL l
  | .lst l => isPyL l
  | _ => true
def isPyL : List D → Bool
  | [] => true
  | d :: r => d.isPy && isPyL r
end
mutual
theorem dp_of {H : Hp} : ∀ {v : V} {d : D}, Rep K H v d → d.isPy = true → Dp K H v d.py
  | _, _, .non, _ => .non
  | _, _, .bl b, _ => .bl b
  | _, _, .int i, _ => .int i
  | _, _, .str s, _ => .str s
  | _, _, .tup (ds := ds) h r, p => .tup h (dp_all r (by unfold D.isPy at p; exact p))
  | _, _, .lst (ds := ds) h r, p => .lst h.sq (dp_all r (by unfold D.isPy at p; exact p))
  | _, _, .dct _ _ _, p => by unfold D.isPy at p; cases p
  | _, _, .ref _, p => by unfold D.isPy at p; cases p
  | _, _, .scr _, p => by unfold D.isPy at p; cases p
  | _, _, .err _ _ _, p => by unfold D.isPy at p; cases p
theorem dp_all {H : Hp} : ∀ {vs : List V} {ds : List D}, Reps K H vs ds → isPyL ds = true → DpAll K H vs (pyL ds)
  | _, _, .nil, _ => .nil
  | _, _, .cons r t, p => by
    unfold isPyL at p
    obtain ⟨p1, p2⟩ := Bool.and_eq_true_iff.mp p
    exact .cons (dp_of r p1) (dp_all t p2)
end
def eqD (x y : D) : Bool := PyData.eqv x.py y.py
def okEq (x : D) : Bool := x.isPy && SeqAt.shaped x.py
def oEq : O2 := fun x y M Q => (okEq x = true ∧ okEq y = true) ∧ Q (.bl (eqD x y)) M
def oNe : O2 := fun x y M Q => (okEq x = true ∧ okEq y = true) ∧ Q (.bl (!eqD x y)) M
theorem opl_eq : OpL K (rEqD K) oEq := fun x y H M d1 d2 Q Qd r1 r2 m ⟨⟨o1, o2⟩, o⟩ k => by
  obtain ⟨a1, a2⟩ := Bool.and_eq_true_iff.mp o1
  obtain ⟨b1, b2⟩ := Bool.and_eq_true_iff.mp o2
  exact ⟨_, _, dp_of r1 a1, dp_of r2 b1, a2, b2, k _ H _ M (.refl H M) m (.bl _) o⟩
theorem opl_ne : OpL K (rNeD K) oNe := fun x y H M d1 d2 Q Qd r1 r2 m ⟨⟨o1, o2⟩, o⟩ k => by
  obtain ⟨a1, a2⟩ := Bool.and_eq_true_iff.mp o1
  obtain ⟨b1, b2⟩ := Bool.and_eq_true_iff.mp o2
  exact ⟨_, _, dp_of r1 a1, dp_of r2 b1, a2, b2, k _ H _ M (.refl H M) m (.bl _) o⟩
/-- x is None, x is not None -/
def D.isNon : D → Bool
  | .non => true
  | _ => false
def oIsN : O2 := fun x y M Q => y.isNon = true ∧ Q (.bl x.isNon) M
def oNotN : O2 := fun x y M Q => y.isNon = true ∧ Q (.bl (!x.isNon)) M
theorem isNon_iff {H : Hp} {v : V} {d : D} (r : Rep K H v d) : decide (v = .non) = d.isNon := by cases r <;> first | rfl | (exact decide_eq_false (fun z => by cases z))
theorem non_of {d : D} (h : d.isNon = true) : d = .non := by cases d <;> first | rfl | cases h
theorem opl_isN : OpL K (fun x y H Q => y = V.non ∧ Q (.bl (decide (x = .non))) H) oIsN := fun x y H M d1 d2 Q Qd r1 r2 m ⟨e, o⟩ k => by
  rw [non_of e] at r2
  exact ⟨rep_non r2, by rw [isNon_iff r1]; exact k _ H _ M (.refl H M) m (.bl _) o⟩
theorem opl_notN : OpL K (fun x y H Q => y = V.non ∧ Q (.bl (!decide (x = .non))) H) oNotN := fun x y H M d1 d2 Q Qd r1 r2 m ⟨e, o⟩ k => by
  rw [non_of e] at r2
  exact ⟨rep_non r2, by rw [isNon_iff r1]; exact k _ H _ M (.refl H M) m (.bl _) o⟩
/-- x is True: of truth values -/
def oIsB : O2 := fun x y M Q => match x, y with
  | .bl a, .bl b => Q (.bl (decide (a = b))) M
  | _, _ => False
theorem rep_blv {H : Hp} {v : V} {b : Bool} (r : Rep K H v (.bl b)) : v = .bl b := rep_bl r
theorem opl_isB : OpL K rIsB oIsB := fun x y H M d1 d2 Q Qd r1 r2 m o k => by
  cases d1 <;> cases d2 <;> first | exact o.elim | skip
  exact ⟨_, _, rep_bl r1, rep_bl r2, k _ H _ M (.refl H M) m (.bl _) o⟩

/-! ### a place: of a list, a tuple, a text, the script, a list that may change -/
def oIx : O2 := fun x y M Q => match x, y with
  | .tup l, .int i => (match atI l i with
    | some d => Q d M
    | none => False)
  | .lst l, .int i => (match atI l i with
    | some d => Q d M
    | none => False)
  | .str z, .int i => z.length ≤ 100000 ∧ (match atI z.cps.toList i with
    | some c => Q (.str ⟨#[c]⟩) M
    | none => False)
  | .scr l, .int i => (match atI l i with
    | some d => Q (.int d) M
    | none => False)
  | .ref p, .int i => (match M p with
    | some (.lst l) => (match atI l i with
      | some d => Q d M
      | none => False)
    | _ => False)
  | _, _ => False
theorem atI_reps {H : Hp} {vs : List V} {ds : List D} {i : Int} {d : D} (r : Reps K H vs ds) (h : atI ds i = some d) : ∃ v, atI vs i = some v ∧ Rep K H v d := by
  unfold atI at h ⊢
  rw [r.length]
  cases e : ixN ds.length i with
  | none => rw [e] at h; cases h
  | some j =>
    rw [e] at h
    obtain ⟨v, a, b⟩ := r.get (show ds[j]? = some d from h)
    exact ⟨v, a, b⟩
theorem atI_map {α β : Type} {f : α → β} {l : List α} {i : Int} {d : α} (h : atI l i = some d) : atI (l.map f) i = some (f d) := by
  unfold atI at h ⊢
  rw [List.length_map]
  cases e : ixN l.length i with
  | none => rw [e] at h; cases h
  | some j =>
    rw [e] at h
    have h' : l[j]? = some d := h
    show (l.map f)[j]? = some (f d)
    rw [List.getElem?_map, h']; rfl
theorem opl_ix : OpL K (rIx K) oIx := fun x y H M d1 d2 Q Qd r1 r2 m o k => by
  cases d2 <;> first | (cases d1 <;> exact o.elim) | skip
  rename_i i
  rw [rep_int r2]
  cases d1 with
  | tup l =>
    cases r1 with
    | tup h r =>
      have o' : (match atI l i with | some d => Qd d M | none => False) := o
      cases e : atI l i with
      | none => rw [e] at o'; exact o'.elim
      | some d =>
        rw [e] at o'
        obtain ⟨v, e1, r2⟩ := atI_reps r e
        exact .inr (.inl ⟨_, _, i, v, rfl, rfl, h, e1, k _ H _ M (.refl H M) m r2 o'⟩)
  | lst l =>
    cases r1 with
    | lst h r =>
      have o' : (match atI l i with | some d => Qd d M | none => False) := o
      cases e : atI l i with
      | none => rw [e] at o'; exact o'.elim
      | some d =>
        rw [e] at o'
        obtain ⟨v, e1, r2⟩ := atI_reps r e
        exact .inl ⟨_, _, i, v, rfl, rfl, h.sq, e1, k _ H _ M (.refl H M) m r2 o'⟩
  | str z =>
    rw [rep_str r1]
    have o' : z.length ≤ 100000 ∧ (match atI z.cps.toList i with | some c => Qd (.str ⟨#[c]⟩) M | none => False) := o
    obtain ⟨hz, o'⟩ := o'
    cases e : atI z.cps.toList i with
    | none => rw [e] at o'; exact o'.elim
    | some d =>
      rw [e] at o'
      exact .inr (.inr ⟨z, i, d, rfl, rfl, line_of hz, e, k _ H _ M (.refl H M) m (.str _) o'⟩)
  | scr l =>
    cases r1 with
    | scr h =>
      have o' : (match atI l i with | some d => Qd (.int d) M | none => False) := o
      cases e : atI l i with
      | none => rw [e] at o'; exact o'.elim
      | some d =>
        rw [e] at o'
        exact .inl ⟨_, _, i, _, rfl, rfl, h.sq, atI_map e, k _ H _ M (.refl H M) m (.int _) o'⟩
  | ref p =>
    cases r1 with
    | ref =>
      have o' : (match M p with | some (.lst l) => (match atI l i with | some d => Qd d M | none => False) | _ => False) := o
      cases e : M p with
      | none => rw [e] at o'; exact o'.elim
      | some c =>
        rw [e] at o'
        cases c with
        | lst l =>
          have o2 : (match atI l i with | some d => Qd d M | none => False) := o'
          cases e2 : atI l i with
          | none => rw [e2] at o2; exact o2.elim
          | some d =>
            rw [e2] at o2
            obtain ⟨xs, hx, r⟩ := m p _ e
            obtain ⟨v, e1, r2⟩ := atI_reps r e2
            exact .inl ⟨_, _, i, v, rfl, rfl, SqL.of hx, e1, k _ H _ M (.refl H M) m r2 o2⟩
        | dct l => exact o'.elim
        | box b => exact o'.elim
        | ins C dx fs => exact o'.elim
  | non => exact o.elim
  | bl b => exact o.elim
  | int j => exact o.elim
  | dct l => exact o.elim
  | err C a dd fs => exact o.elim
end
end DL
end
section
set_option maxRecDepth 100000
set_option maxHeartbeats 2000000
/-! DL6: built-ins, isinstance, slices, methods, comprehensions -/
namespace DL
open PySem PySem.Spec L2

/-! ### built-ins -/
section
variable {K : PySem.W.Frag}
def D.len? (M : Mst) : D → Option Nat
  | .tup l => some l.length
  | .lst l => some l.length
  | .scr l => some l.length
  | .ref p => match M p with
    | some (.lst l) => some l.length
    | _ => none
  | _ => none
def lenQ (d : D) (M : Mst) (Q : D → Mst → Prop) : Prop := match d with
  | .str z => z.length ≤ 100000 ∧ Q (.int z.length) M
  | d => (match d.len? M with
    | some n => Q (.int n) M
    | none => False)
def cLen : OC := fun ds M Q => match ds with
  | [d] => lenQ d M Q
  | _ => False
theorem oplc_len : OpLC K (fun xs H Q => ∃ x n, xs = [x] ∧ LenV K x H n ∧ Q (.int n) H) cLen := fun vs H M ds Q Qd r m o k => by
  cases r with
  | nil => exact o.elim
  | cons r1 r =>
    cases r with
    | cons _ _ => exact (show False from o).elim
    | nil =>
      rename_i v d
      have fin : ∀ n, LenV K v H n → Qd (.int n) M → ∃ x n, [v] = [x] ∧ LenV K x H n ∧ Q (.int n) H := fun n h q => ⟨v, n, rfl, h, k _ H _ M (.refl H M) m (.int _) q⟩
      cases d with
      | str z =>
        rw [rep_str r1] at fin ⊢
        exact fin _ ⟨line_of o.1, rfl⟩ o.2
      | tup l =>
        cases r1 with
        | tup h p => exact fin _ (.inr ⟨_, h, p.length.symm⟩) o
      | lst l =>
        cases r1 with
        | lst h p => exact fin _ (.inl ⟨_, h.sq, p.length.symm⟩) o
      | scr l =>
        cases r1 with
        | scr h => exact fin _ (.inl ⟨_, h.sq, (List.length_map ..).symm⟩) o
      | ref p =>
        cases r1 with
        | ref =>
          have o' : (match (match M p with | some (.lst l) => some l.length | _ => none) with | some n => Qd (.int n) M | none => False) := o
          cases e : M p with
          | none => rw [e] at o'; exact o'.elim
          | some c =>
            rw [e] at o'
            cases c with
            | lst l =>
              obtain ⟨xs, hx, pr⟩ := m p _ e
              exact fin _ (.inl ⟨_, SqL.of hx, pr.length.symm⟩) o'
            | dct l => exact o'.elim
            | box b => exact o'.elim
            | ins C dx fs => exact o'.elim
      | non => exact o.elim
      | bl b => exact o.elim
      | int i => exact o.elim
      | dct l => exact o.elim
      | err C a dd fs => exact o.elim
def cAbs : OC := fun ds M Q => match ds with
  | [.int i] => Q (.int (if i < 0 then -i else i)) M
  | _ => False
theorem oplc_abs : OpLC K (fun xs H Q => ∃ i, xs = [.int i] ∧ Q (.int (if i < 0 then -i else i)) H) cAbs := fun vs H M ds Q Qd r m o k => by
  match ds, o with
  | [.int i], o =>
    obtain ⟨v, rfl, r1⟩ := reps1 r
    rw [rep_int r1]
    exact ⟨i, rfl, k _ H _ M (.refl H M) m (.int _) o⟩
def cInt : OC := fun ds M Q => match ds with
  | [.int i] => Q (.int i) M
  | [.bl b] => Q (.int (if b then 1 else 0)) M
  | _ => False
theorem oplc_int : OpLC K (fun xs H Q => (∃ i, xs = [V.int i] ∧ Q (.int i) H) ∨ ∃ k, xs = [V.bl k] ∧ Q (.int (if k then 1 else 0)) H) cInt := fun vs H M ds Q Qd r m o k => by
  match ds, o with
  | [.int i], o =>
    obtain ⟨v, rfl, r1⟩ := reps1 r
    rw [rep_int r1]
    exact .inl ⟨i, rfl, k _ H _ M (.refl H M) m (.int _) o⟩
  | [.bl b], o =>
    obtain ⟨v, rfl, r1⟩ := reps1 r
    rw [rep_bl r1]
    exact .inr ⟨b, rfl, k _ H _ M (.refl H M) m (.int _) o⟩
def cMax2 : OC := fun ds M Q => match ds with
  | [.int i, .int j] => Q (.int (if j > i then j else i)) M
  | _ => False
def cMin2 : OC := fun ds M Q => match ds with
  | [.int i, .int j] => Q (.int (if j < i then j else i)) M
  | _ => False
theorem oplc_max2 : OpLC K (fun xs H Q => ∃ i j, xs = [.int i, .int j] ∧ Q (.int (if j > i then j else i)) H) cMax2 := fun vs H M ds Q Qd r m o k => by
  match ds, o with
  | [.int i, .int j], o =>
    obtain ⟨v, w, rfl, r1, r2⟩ := reps2 r
    rw [rep_int r1, rep_int r2]
    exact ⟨i, j, rfl, k _ H _ M (.refl H M) m (.int _) o⟩
theorem oplc_min2 : OpLC K (fun xs H Q => ∃ i j, xs = [.int i, .int j] ∧ Q (.int (if j < i then j else i)) H) cMin2 := fun vs H M ds Q Qd r m o k => by
  match ds, o with
  | [.int i, .int j], o =>
    obtain ⟨v, w, rfl, r1, r2⟩ := reps2 r
    rw [rep_int r1, rep_int r2]
    exact ⟨i, j, rfl, k _ H _ M (.refl H M) m (.int _) o⟩
def cGcd : OC := fun ds M Q => match ds with
  | [.int i, .int j] => Q (.int ((Nat.gcd i.natAbs j.natAbs : Nat) : Int)) M
  | _ => False
theorem oplc_gcd : OpLC K rGcd cGcd := fun vs H M ds Q Qd r m o k => by
  match ds, o with
  | [.int i, .int j], o =>
    obtain ⟨v, w, rfl, r1, r2⟩ := reps2 r
    rw [rep_int r1, rep_int r2]
    exact ⟨i, j, rfl, k _ H _ M (.refl H M) m (.int _) o⟩
/-- all, any of a list of truth values; sum of ints -/
def cAll : OC := fun ds M Q => match ds with
  | [.lst l] => ∃ bs : List Bool, l = bs.map D.bl ∧ Q (.bl (bs.all id)) M
  | _ => False
def cAny : OC := fun ds M Q => match ds with
  | [.lst l] => ∃ bs : List Bool, l = bs.map D.bl ∧ Q (.bl (bs.any id)) M
  | _ => False
def cSum : OC := fun ds M Q => match ds with
  | [.lst l] => ∃ ns : List Int, l = ns.map D.int ∧ Q (.int ns.sum) M
  | _ => False
theorem reps_bls {H : Hp} : ∀ {vs : List V} {bs : List Bool}, Reps K H vs (bs.map D.bl) → vs = bs.map V.bl
  | [], [], _ => rfl
  | [], _ :: _, r => by cases r
  | _ :: _, [], r => by cases r
  | v :: vs, b :: bs, r => by
    cases r with
    | cons r1 r => rw [rep_bl r1, reps_bls r]; rfl
theorem reps_ints {H : Hp} : ∀ {vs : List V} {bs : List Int}, Reps K H vs (bs.map D.int) → vs = bs.map V.int
  | [], [], _ => rfl
  | [], _ :: _, r => by cases r
  | _ :: _, [], r => by cases r
  | v :: vs, b :: bs, r => by
    cases r with
    | cons r1 r => rw [rep_int r1, reps_ints r]; rfl
theorem oplc_all : OpLC K (rAll K) cAll := fun vs H M ds Q Qd r m o k => by
  match ds, o with
  | [.lst l], ⟨bs, e, o⟩ =>
    obtain ⟨v, rfl, r1⟩ := reps1 r
    subst e
    cases r1 with
    | lst h p =>
      rw [reps_bls p] at h
      exact ⟨_, bs, rfl, h.sq, k _ H _ M (.refl H M) m (.bl _) o⟩
theorem oplc_any : OpLC K (rAny K) cAny := fun vs H M ds Q Qd r m o k => by
  match ds, o with
  | [.lst l], ⟨bs, e, o⟩ =>
    obtain ⟨v, rfl, r1⟩ := reps1 r
    subst e
    cases r1 with
    | lst h p =>
      rw [reps_bls p] at h
      exact ⟨_, bs, rfl, h.sq, k _ H _ M (.refl H M) m (.bl _) o⟩
theorem oplc_sum : OpLC K (rSum K) cSum := fun vs H M ds Q Qd r m o k => by
  match ds, o with
  | [.lst l], ⟨bs, e, o⟩ =>
    obtain ⟨v, rfl, r1⟩ := reps1 r
    subst e
    cases r1 with
    | lst h p =>
      rw [reps_ints p] at h
      exact ⟨_, bs, rfl, h.sq, k _ H _ M (.refl H M) m (.int _) o⟩
/-- tuple(x) of a list or a tuple -/
def cTuple : OC := fun ds M Q => match ds with
  | [.lst l] => Q (.tup l) M
  | [.tup l] => Q (.tup l) M
  | _ => False
theorem oplc_tuple : OpLC K (fun xs H Q => ∃ p ys, xs = [.ref p] ∧ ((SqL K H p ys ∧ ∀ l, H l = none → Q (.ref l) (upd H l (.tup ys))) ∨ (SqT K H p ys ∧ Q (.ref p) H))) cTuple := fun vs H M ds Q Qd r m o k => by
  match ds, o with
  | [.lst l], o =>
    obtain ⟨v, rfl, r1⟩ := reps1 r
    cases r1 with
    | lst h p => exact ⟨_, _, rfl, .inl ⟨h.sq, fun l hl => k _ _ _ M (.new hl) (m.new hl) (.tup (SqT.of upd_same) (Reps.stb (Stb.new hl) p)) o⟩⟩
  | [.tup l], o =>
    obtain ⟨v, rfl, r1⟩ := reps1 r
    cases r1 with
    | tup h p => exact ⟨_, _, rfl, .inr ⟨h, k _ H _ M (.refl H M) m (.tup h p) o⟩⟩
/-- list(x): a new list that may change; of a list or a tuple -/
def cListM : OC := fun ds M Q => match ds with
  | [.lst l] => ∀ p, M p = none → Q (.ref p) (updM M p (.lst l))
  | [.tup l] => ∀ p, M p = none → Q (.ref p) (updM M p (.lst l))
  | _ => False
theorem oplc_listM : OpLC K (fun xs H Q => ∃ p ys, xs = [.ref p] ∧ (SqL K H p ys ∨ SqT K H p ys) ∧ ∀ l, H l = none → Q (.ref l) (upd H l (.lst ys))) cListM := fun vs H M ds Q Qd r m o k => by
  match ds, o with
  | [.lst l], o =>
    obtain ⟨v, rfl, r1⟩ := reps1 r
    cases r1 with
    | lst h p => exact ⟨_, _, rfl, .inl h.sq, fun q hq => k _ _ _ _ (.lay hq) (m.lay hq (c := .lst l) ⟨_, upd_same, Reps.stb (Stb.new hq) p⟩) (.ref q) (o q (m.fresh hq))⟩
  | [.tup l], o =>
    obtain ⟨v, rfl, r1⟩ := reps1 r
    cases r1 with
    | tup h p => exact ⟨_, _, rfl, .inr h, fun q hq => k _ _ _ _ (.lay hq) (m.lay hq (c := .lst l) ⟨_, upd_same, Reps.stb (Stb.new hq) p⟩) (.ref q) (o q (m.fresh hq))⟩

/-! ### isinstance, built-in classes -/
inductive Ty where
  | non | bool | int | str | tuple | list | dict
  deriving DecidableEq
def Ty.name : Ty → String
  | .non => "NoneType" | .bool => "bool" | .int => "int" | .str => "str" | .tuple => "tuple" | .list => "list" | .dict => "dict"
def D.ty (M : Mst) : D → Option Ty
  | .non => some .non
  | .bl _ => some .bool
  | .int _ => some .int
  | .str _ => some .str
  | .tup _ => some .tuple
  | .lst _ => some .list
  | .scr _ => some .list
  | .dct _ => some .dict
  | .err _ _ _ _ => none
  | .ref p => match M p with
    | some (.lst _) => some .list
    | some (.box _) => some .list
    | some (.dct _) => some .dict
    | _ => none
def isT (t T : Ty) : Bool := decide (t = T) || (decide (t = .bool) && decide (T = .int))
theorem kit_is : ∀ t T : Ty, kitB t.name T.name = some (isT t T) := by
  intro t T
  cases t <;> cases T <;> decide +kernel
theorem tyx_of {H : Hp} {M : Mst} {v : V} {d : D} {t : Ty} (r : Rep K H v d) (m : MOk K H M) (h : d.ty M = some t) : TyX K H v (.type t.name) := by
  cases r with
  | non => cases h; exact .base .non
  | bl b => cases h; exact .base (.bl b)
  | int i => cases h; exact .base (.int i)
  | str s => cases h; exact .base (.str s)
  | tup hq _ =>
    cases h
    rcases hq with (hq | ⟨o, hq⟩) | ⟨o, its, n, e, c, _⟩
    · exact .base (.tup hq)
    · exact .fTuple hq
    · exact .kTuple e c
  | lst hq _ =>
    cases h
    obtain ⟨o, hq⟩ := hq
    exact .base (.frz hq)
  | scr hq =>
    cases h
    rcases hq with ⟨o, hq⟩ | ⟨o, its, n, e, c, _⟩
    · exact .base (.frz hq)
    · exact .kList e c
  | err _ _ _ => cases h
  | dct hq _ _ =>
    cases h
    obtain ⟨o, hq⟩ := hq
    exact .fDict hq
  | ref a =>
    have h' : (match M a with | some (.lst _) => some Ty.list | some (.box _) => some Ty.list | some (.dct _) => some Ty.dict | _ => none) = some t := h
    cases e : M a with
    | none => rw [e] at h'; cases h'
    | some c =>
      rw [e] at h'
      cases c with
      | lst l => cases h'; obtain ⟨xs, hx, _⟩ := m a _ e; exact .base (.lst hx)
      | box b => cases h'; obtain ⟨_, _, _, _, hx, _⟩ := m a _ e; exact .base (.lst hx)
      | dct l => cases h'; obtain ⟨xs, hx, _⟩ := m a _ e; exact .base (.dK hx)
      | ins C dx fs => cases h'
def dIsi (T : Ty) (ta : TEd) : TEd := fun S Q E => ta S (fun d S1 => match d.ty S1.M with
  | some t => Q (.bl (isT t T)) S1
  | none => False) E
def dIsi2 (T1 T2 : Ty) (ta : TEd) : TEd := fun S Q E => ta S (fun d S1 => match d.ty S1.M with
  | some t => Q (.bl (isT t T1 || isT t T2)) S1
  | none => False) E
section
variable {X : Cx} {W : WX} {a : Expr} {ta : TEd} {p p1 p2 pos : Pos} {x y : Str}
theorem de_isi (T : Ty) (ha : DE X W a ta) (hg : Gl X "isinstance") (hm : X.mg "isinstance" = none) (hv : bootBuiltins "isinstance" = some (.builtin "isinstance")) (hx : Gl X x) (hmx : X.mg x = none) (hvx : bootBuiltins x = some (.type T.name))
    (hnx : x ≠ "__name__" := by decide) (hdx : (x == ("__debug__" : Str)) = false := by decide) (he : starEach [a, .Name x p1] X.env = (false, eval a X.env) :: starEach [.Name x p1] X.env := by rfl) : DE X W (.Call (.Name "isinstance" p) [a, .Name x p1] [] pos) (dIsi T ta) :=
  ⟨pe_imp (pe_callB call_isi hg hm hv (pa_cons ha.pe (pa_cons (pe_bltn (v := .ty T.name) hx hmx hvx rfl hnx hdx) pa_nil) he) (by decide) (by decide) he (by rfl)) fun σ H Q ⟨S, Qd, Ed, sr, k, x, q⟩ => ⟨S, _, Ed, sr, fun d S' v H' st sr' r qd => by
    cases e : d.ty S'.M with
    | none => rw [e] at qd; exact qd.elim
    | some t =>
      rw [e] at qd
      exact ⟨v, .ty T.name, .type t.name, .type T.name, isT t T, rfl, .ty _, tyx_of r sr'.m e, kit_ty (kit_is t T), k _ S' _ H' st sr' (.bl _) qd⟩, x, q⟩⟩
end
end
end DL
end
section
set_option maxRecDepth 100000
set_option maxHeartbeats 2000000
/-! DL7: isinstance of two, slices, methods, comprehensions -/
namespace DL
open PySem PySem.Spec L2
section
variable {X : Cx} {W : WX} {a : Expr} {ta : TEd} {p p1 p2 p3 pos : Pos} {x y : Str}
theorem kitAny2 {K : PySem.W.Frag} (t T1 T2 : Ty) : PySem.W.kitAny K (.type t.name) [.type T1.name, .type T2.name] = some (isT t T1 || isT t T2) :=
  kitAny_cons (kit_ty (kit_is t T1)) (fun h => by rw [h]; exact kitAny_cons (kit_ty (kit_is t T2)) (fun h2 => by rw [h2]; rfl) (fun h2 => by rw [h2]; rfl)) (fun h => by rw [h]; rfl)
/-- isinstance(a, (x, y)) -/
theorem de_isi2 {kk : Nat} (T1 T2 : Ty) (ha : DE X W a ta) (hg : Gl X "isinstance") (hm : X.mg "isinstance" = none) (hv : bootBuiltins "isinstance" = some (.builtin "isinstance")) (hx : Gl X x) (hmx : X.mg x = none) (hvx : bootBuiltins x = some (.type T1.name))
    (hy : Gl X y) (hmy : X.mg y = none) (hvy : bootBuiltins y = some (.type T2.name))
    (hnx : x ≠ "__name__" := by decide) (hdx : (x == ("__debug__" : Str)) = false := by decide) (hny : y ≠ "__name__" := by decide) (hdy : (y == ("__debug__" : Str)) = false := by decide)
    (he : starEach [a, .Tuple [.Name x p1, .Name y p2] kk p3] X.env = (false, eval a X.env) :: starEach [.Tuple [.Name x p1, .Name y p2] kk p3] X.env := by rfl) :
    DE X W (.Call (.Name "isinstance" p) [a, .Tuple [.Name x p1, .Name y p2] kk p3] [] pos) (dIsi2 T1 T2 ta) :=
  ⟨pe_imp (pe_callB call_isiT hg hm hv (pa_cons ha.pe (pa_cons (pe_tup (pa_cons (pe_bltn (v := .ty T1.name) hx hmx hvx rfl hnx hdx) (pa_cons (pe_bltn (v := .ty T2.name) hy hmy hvy rfl hny hdy) pa_nil))) pa_nil) he) (by decide) (by decide) he (by rfl)) fun σ H Q ⟨S, Qd, Ed, sr, k, x, q⟩ => ⟨S, _, Ed, sr, fun d S' v H' st sr' r qd => by
    cases e : d.ty S'.M with
    | none => rw [e] at qd; exact qd.elim
    | some t =>
      rw [e] at qd
      refine ⟨by show 2 ≤ sizeLine; decide, fun q hq => ?_⟩
      refine ⟨v, q, [.ty T1.name, .ty T2.name], .type t.name, [.type T1.name, .type T2.name], isT t T1 || isT t T2, rfl, upd_same, .cons (.ty _) (.cons (.ty _) .nil), tyx_of (r.stb (Stb.new hq)) (sr'.m.new hq) e, kitAny2 t T1 T2, ?_⟩
      exact k _ S' _ _ (st.trans (.new hq)) (sr'.mk2 (.new hq) (sr'.m.new hq)) (.bl _) qd, x, q⟩⟩
end

/-! ### slices -/
abbrev TOd := DS → (Option Int → DS → Prop) → (Er → DS → Prop) → Prop
def liftO (K : PySem.W.Frag) (W : WX) (t : TOd) : TO := fun σ H Q => ∃ S Qd Ed, SR K σ H S ∧ (∀ o S' H', Ext H S.M H' S'.M → SR K σ H' S' → Qd o S' → Q o H') ∧ ExOk K W σ H S.M Ed ∧ t S Qd Ed
structure DO (X : Cx) (W : WX) (e : Option Expr) (t : TOd) : Prop where
  po : PO X e (liftO X.K W t)
def dNoPart : TOd := fun S Q _ => Q none S
def dPart (te : TEd) : TOd := fun S Q E => te S (fun d S' => match d with
  | .int i => Q (some i) S'
  | _ => False) E
def cutD (l : List D) (lo hi : Option Int) : List D := (l.drop (HT.sIx l.length 0 lo)).take (HT.sIx l.length l.length hi - HT.sIx l.length 0 lo)
def cutI (l : List Int) (lo hi : Option Int) : List Int := (l.drop (HT.sIx l.length 0 lo)).take (HT.sIx l.length l.length hi - HT.sIx l.length 0 lo)
/-- a tuple's, a text's slice | a list's, frozen -/
def oSl : D → Option Int → Option Int → Mst → (D → Mst → Prop) → Prop := fun d lo hi M Q => match d with
  | .tup l => Q (.tup (cutD l lo hi)) M
  | .str z => z.length ≤ 100000 ∧ Q (.str (cutS z lo hi)) M
  | _ => False
def oSlL : D → Option Int → Option Int → Mst → (D → Mst → Prop) → Prop := fun d lo hi M Q => match d with
  | .lst l => Q (.lst (cutD l lo hi)) M
  | .scr l => Q (.lst ((cutI l lo hi).map D.int)) M
  | .ref p => (match M p with
    | some (.lst l) => Q (.lst (cutD l lo hi)) M
    | _ => False)
  | _ => False
def dSl (o : D → Option Int → Option Int → Mst → (D → Mst → Prop) → Prop) (te : TEd) (tl th : TOd) : TEd := fun S Q E => te S (fun d S1 => tl S1 (fun lo S2 => th S2 (fun hi S3 => o d lo hi S3.M fun c M' => Q c ⟨S3.τ, M'⟩) E) E) E
section
variable {X : Cx} {W : WX} {e : Expr} {te : TEd} {lo hi : Option Expr} {tl th : TOd} {p2 pos : Pos}
theorem do_none : DO X W none dNoPart := ⟨⟨fun pins s σ H Q I ⟨S, Qd, Ed, sr, k, x, q⟩ => po_none.run pins s σ H Q I (k none S H (.refl H _) sr q)⟩⟩
theorem do_some (h : DE X W e te) : DO X W (some e) (dPart te) := ⟨⟨fun pins s σ H Q I ⟨S, Qd, Ed, sr, k, x, q⟩ => (po_some h.pe).run pins s σ H Q I ⟨S, _, Ed, sr, fun d S' v H' st sr' r qd => by
  cases d <;> first | exact (show False from qd).elim | skip
  rename_i i
  exact ⟨i, rep_int r, k (some i) S' H' st sr' qd⟩, x, q⟩⟩⟩
theorem reps_cut {K : PySem.W.Frag} {H : Hp} {vs : List V} {ds : List D} {lo hi : Option Int} (r : Reps K H vs ds) : Reps K H (cutV vs lo hi) (cutD ds lo hi) := by
  unfold cutV cutD
  rw [r.length]
  exact (Reps.drop _ r).take _
theorem cutV_int {l : List Int} {lo hi : Option Int} : cutV (l.map V.int) lo hi = (cutI l lo hi).map V.int := by
  unfold cutV cutI
  rw [List.length_map, List.map_take, List.map_drop]
theorem reps_of_ints {K : PySem.W.Frag} {H : Hp} : ∀ l : List Int, Reps K H (l.map V.int) (l.map D.int)
  | [] => .nil
  | i :: l => .cons (.int i) (reps_of_ints l)
theorem SlR.or {r r' : V → Option Int → Option Int → Hp → VK → Prop} (h : SlR X r) (h' : SlR X r') : SlR X (fun x l u H Q => r x l u H Q ∨ r' x l u H Q) := by
  unfold SlR at *
  intros
  rename_i hh
  rcases hh with q | q
  · apply h <;> assumption
  · apply h' <;> assumption
theorem pe_slice_imp {r : V → Option Int → Option Int → Hp → VK → Prop} (hr : SlR X r) {o : D → Option Int → Option Int → Mst → (D → Mst → Prop) → Prop}
    (ho : ∀ x d l u H M (Q : VK) Qd, Rep X.K H x d → MOk X.K H M → o d l u M Qd → (∀ v H' c M', Ext H M H' M' → MOk X.K H' M' → Rep X.K H' v c → Qd c M' → Q v H') → r x l u H Q)
    (he : DE X W e te) (hl : DO X W lo tl) (hu : DO X W hi th) : PE X (.Subscript e (.Slice lo hi none p2) pos) (liftE X.K W (dSl o te tl th)) :=
  pe_imp (pe_slice hr he.pe hl.po hu.po) fun σ H Q ⟨S, Qd, Ed, sr, k, x, q⟩ => by
    refine ⟨S, _, Ed, sr, fun d S1 v H1 st1 sr1 r1 q1 => ?_, x, q⟩
    refine ⟨S1, _, Ed, sr1, fun lo S2 H2 st2 sr2 q2 => ?_, x.later st1, q1⟩
    refine ⟨S2, _, Ed, sr2, fun hi S3 H3 st3 sr3 q3 => ?_, x.later (st1.trans st2), q2⟩
    refine ho v d lo hi H3 S3.M Q _ (r1.stb ((st2.trans st3).stb sr1.m)) sr3.m q3 fun w H' c M' st m rr qq => ?_
    exact k c _ w H' (((st1.trans st2).trans st3).trans st) (sr3.mk2 st m) rr qq
theorem pe_slice_raw {r : V → Option Int → Option Int → Hp → VK → Prop} (hr : SlR X r) (he : DE X W e te) (hl : DO X W lo tl) (hu : DO X W hi th) : PE X (.Subscript e (.Slice lo hi none p2) pos) (tSl r (liftE X.K W te) (liftO X.K W tl) (liftO X.K W th)) := pe_slice hr he.pe hl.po hu.po
theorem cutD_whole {ds : List D} {lo hi : Option Int} (h1 : HT.sIx ds.length 0 lo = 0) (h2 : HT.sIx ds.length ds.length hi = ds.length) : cutD ds lo hi = ds := by
  unfold cutD
  rw [h1, h2]
  simp
theorem de_sl (he : DE X W e te) (hl : DO X W lo tl) (hu : DO X W hi th) : DE X W (.Subscript e (.Slice lo hi none p2) pos) (dSl oSl te tl th) :=
  ⟨pe_slice_imp (SlR.or sl_tupA sl_str) (fun x d l u H M Q Qd r m o k => by
    cases d <;> first | exact (show False from o).elim | skip
    · rename_i z
      rw [rep_str r]
      exact .inr ⟨z, rfl, line_of o.1, k _ H _ M (.refl H M) m (.str _) o.2⟩
    · cases r with
      | tup h r =>
        refine .inl ⟨_, _, rfl, h, fun z => ?_, fun z p hp => ?_⟩
        · have e : cutD _ l u = _ := cutD_whole (by rw [← r.length]; exact z.1) (by rw [← r.length]; exact z.2)
          have o' : Qd (.tup (cutD _ l u)) M := o
          rw [e] at o'
          exact k _ H _ M (.refl H M) m (.tup h r) o'
        · exact k _ _ _ M (.new hp) (m.new hp) (.tup (SqT.of upd_same) ((reps_cut r).stb (Stb.new hp))) o) he hl hu⟩
/-- a list's slice: a new list, frozen at once -/
def rSlF (K : PySem.W.Frag) : V → Option Int → Option Int → Hp → VK → Prop := fun x lo hi H Q => ∃ a xs, x = .ref a ∧ SqL K H a xs ∧ ∀ p o, H p = none → Q (.ref p) (upd H p (.frz o (.lst (cutV xs lo hi))))
theorem de_slL (he : DE X W e te) (hl : DO X W lo tl) (hu : DO X W hi th) : DE X W (.Subscript e (.Slice lo hi none p2) pos) (dSl oSlL te tl th) :=
  ⟨pe_imp (pe_fz (pe_slice_raw sl_list he hl hu)) fun σ H Q ⟨S, Qd, Ed, sr, k, x, q⟩ => by
    refine ⟨S, _, Ed, sr, fun d S1 v H1 st1 sr1 r1 q1 => ?_, x, q⟩
    refine ⟨S1, _, Ed, sr1, fun lo S2 H2 st2 sr2 q2 => ?_, x.later st1, q1⟩
    refine ⟨S2, _, Ed, sr2, fun hi S3 H3 st3 sr3 q3 => ?_, x.later (st1.trans st2), q2⟩
    have r3 : Rep X.K H3 v d := r1.stb ((st2.trans st3).stb sr1.m)
    have st := (st1.trans st2).trans st3
    have fin : ∀ a xs ds, v = .ref a → SqL X.K H3 a xs → Reps X.K H3 (cutV xs lo hi) ds → Qd (.lst ds) S3 → rSlL X.K v lo hi H3 fun v H1 => ∃ (p : Addr) (u : HO), v = .ref p ∧ H1 p = some u ∧ Mut (some u) ∧ ∀ o, Q v (upd H1 p (.frz o u)) := fun a xs ds e h r q => by
      refine ⟨a, xs, e, h, fun p hp => ⟨p, _, rfl, upd_same, trivial, fun o => ?_⟩⟩
      rw [upd_upd]
      exact k _ S3 _ _ (st.trans (.new hp)) (sr3.mk2 (.new hp) (sr3.m.new hp)) (.lst ⟨o, upd_same⟩ (r.stb (Stb.new hp))) q
    cases d <;> first | exact (show False from q3).elim | skip
    · cases r3 with
      | lst h r => exact fin _ _ _ rfl h.sq (reps_cut r) q3
    · cases r3 with
      | ref a =>
        rename_i a
        have q4 : (match S3.M a with | some (.lst l) => Qd (.lst (cutD l lo hi)) ⟨S3.τ, S3.M⟩ | _ => False) := q3
        cases e : S3.M a with
        | none => rw [e] at q4; exact q4.elim
        | some c =>
          rw [e] at q4
          cases c with
          | lst l =>
            obtain ⟨xs, hx, r⟩ := sr3.m a _ e
            exact fin _ _ _ rfl (SqL.of hx) (reps_cut r) q4
          | dct l => exact q4.elim
          | box l => exact q4.elim
          | ins C dx fs => exact q4.elim
    · cases r3 with
      | scr h => exact fin _ _ _ rfl h.sq (by rw [cutV_int]; exact reps_of_ints _) q3⟩
end
end DL
end
section
set_option maxRecDepth 100000
set_option maxHeartbeats 2000000
/-! DL8: methods of lists that may change; comprehensions -/
namespace DL
open PySem PySem.Spec L2

/-! ### methods of lists that may change -/
/-- a method on a cell: the receiver's data, the arguments -/
abbrev OM := D → List D → Mst → (D → Mst → Prop) → Prop
def isLM (M : Mst) (d : D) : Prop := match d with
  | .ref p => (match M p with
    | some (.lst _) => True
    | _ => False)
  | _ => False
def OpLM (K : PySem.W.Frag) (r : V → List V → Hp → VK → Prop) (om : OM) : Prop := ∀ x vs H M d ds (Q : VK) (Qd : D → Mst → Prop), Rep K H x d → Reps K H vs ds → MOk K H M → om d ds M Qd →
  (∀ v H' c M', Ext H M H' M' → MOk K H' M' → Rep K H' v c → Qd c M' → Q v H') → r x vs H Q
def dBM (om : OM) (to : TEd) (ta : TAd) : TEd := fun S Q E => to S (fun d S1 => isLM S1.M d ∧ ta S1 (fun ds S2 => om d ds S2.M fun c M' => Q c ⟨S2.τ, M'⟩) E) E
def dBM0 (om : OM) (to : TEd) : TEd := fun S Q E => to S (fun d S1 => isLM S1.M d ∧ om d [] S1.M fun c M' => Q c ⟨S1.τ, M'⟩) E
theorem lm_of {K : PySem.W.Frag} {H : Hp} {M : Mst} {v : V} {d : D} (r : Rep K H v d) (m : MOk K H M) (h : isLM M d) : tyV K "list" v H := by
  cases d <;> first | exact (show False from h).elim | skip
  rename_i a
  cases r with
  | ref =>
    have h' : (match M a with | some (.lst _) => True | _ => False) := h
    cases e : M a with
    | none => rw [e] at h'; exact h'.elim
    | some c =>
      rw [e] at h'
      cases c with
      | lst l => obtain ⟨xs, hx, _⟩ := m a _ e; exact .inl ⟨rfl, xs, SqL.of hx⟩
      | dct l => exact h'.elim
      | box l => exact h'.elim
      | ins C dx fs => exact h'.elim
section
variable {X : Cx} {W : WX} {o e : Expr} {es : List Expr} {to te : TEd} {t : TAd} {name : Str} {apos cpos : Pos} {id : String} {r : V → List V → Hp → VK → Prop} {om : OM}
theorem de_bm (pa : PlainAttrs "list") (slot : Slot "list" name id) (hty : typeOf (.builtin id) = pure (.type "method_descriptor")) (hm : MtR X id r) (oo : OpLM X.K r om) (ho : DE X W o to) (ha : DA X W (e :: es) t)
    (hbase : attributeBase o name X.env (eval o X.env) = eval o X.env := by rfl)
    (hfew : ((backTo cpos (starEach (e :: es) X.env)).all (fun x => !x.1) && (backToKw cpos (keywordEach [] X.env)).all (fun x => x.1.isSome)
      && decide ((e :: es).length + ([] : List Keyword).length + (if ([] : List Keyword).isEmpty then 0 else 1) < 30)) = true := by rfl)
    (hline : (apos.endLine == cpos.line) = true := by rfl) (hs : starEach (e :: es) X.env = (false, eval e X.env) :: starEach es X.env := by rfl) (hplain : (backTo cpos (starEach es X.env)).any (·.1) = false := by rfl) :
    DE X W (.Call (.Attribute o name apos) (e :: es) [] cpos) (dBM om to t) :=
  ⟨pe_imp (pe_bm pa slot hty hm ho.pe ha.pa hbase hfew hline hs hplain) fun σ H Q ⟨S, Qd, Ed, sr, k, x, q⟩ => ⟨S, _, Ed, sr, fun d S1 v H1 st1 sr1 r1 ⟨q0, q1⟩ => ⟨lm_of r1 sr1.m q0, S1, _, Ed, sr1, fun ds S2 vs H2 st2 sr2 rs q2 =>
    oo v vs H2 S2.M d ds Q _ (r1.stb (st2.stb sr1.m)) rs sr2.m q2 fun w H' c M' st m rr qq => k c _ w H' ((st1.trans st2).trans st) (sr2.mk2 st m) rr qq, x.later st1, q1⟩, x, q⟩⟩
theorem de_bm0 (pa : PlainAttrs "list") (slot : Slot "list" name id) (hty : typeOf (.builtin id) = pure (.type "method_descriptor")) (hm : MtR X id r) (oo : OpLM X.K r om) (ho : DE X W o to)
    (hbase : attributeBase o name X.env (eval o X.env) = eval o X.env := by rfl) (hline : (apos.endLine == cpos.line) = true := by rfl) : DE X W (.Call (.Attribute o name apos) [] [] cpos) (dBM0 om to) :=
  ⟨pe_imp (pe_bm0 pa slot hty hm ho.pe hbase hline) fun σ H Q ⟨S, Qd, Ed, sr, k, x, q⟩ => ⟨S, _, Ed, sr, fun d S1 v H1 st1 sr1 r1 ⟨q0, q1⟩ => ⟨lm_of r1 sr1.m q0,
    oo v [] H1 S1.M d [] Q _ r1 .nil sr1.m q1 fun w H' c M' st m rr qq => k c _ w H' (st1.trans st) (sr1.mk2 st m) rr qq⟩, x, q⟩⟩
/-- x.append(e) -/
def mAppend : OM := fun d ds M Q => match d, ds with
  | .ref p, [e] => (match M p with
    | some (.lst l) => l.length < 100000 ∧ Q .non (updM M p (.lst (l ++ [e])))
    | _ => False)
  | _, _ => False
theorem sz_lt {n : Nat} (h : n < 100000) : n < sizeLine := Nat.lt_of_lt_of_le h (by decide)
theorem oplm_append {K : PySem.W.Frag} : OpLM K rAppend mAppend := fun x vs H M d ds Q Qd r rs m o k => by
  match d, ds, o with
  | .ref p, [e], o =>
    have o' : (match M p with | some (.lst l) => l.length < 100000 ∧ Qd .non (updM M p (.lst (l ++ [e]))) | _ => False) := o
    cases r with
    | ref =>
      obtain ⟨v, rfl, rv⟩ := reps1 rs
      cases hm : M p with
      | none => rw [hm] at o'; exact o'.elim
      | some c =>
        rw [hm] at o'
        cases c with
        | lst l =>
          obtain ⟨xs, hx, rx⟩ := m p _ hm
          have sb : Stb H (upd H p (.lst (xs ++ [v]))) := Stb.mut hx trivial
          refine ⟨p, xs, v, rfl, rfl, hx, by rw [rx.length]; exact sz_lt o'.1, ?_⟩
          exact k _ _ _ _ (.put hm) (m.put hx trivial (c := .lst (l ++ [e])) ⟨_, upd_same, Reps.append (Reps.stb sb rx) (.cons (rv.stb sb) .nil)⟩) .non o'.2
        | dct l => exact o'.elim
        | box l => exact o'.elim
        | ins C dx fs => exact o'.elim
/-- x.pop(i) -/
def mPopAt : OM := fun d ds M Q => match d, ds with
  | .ref p, [.int i] => (match M p with
    | some (.lst l) => 0 ≤ i ∧ i < 100000 ∧ (match l[i.toNat]? with
      | some e => Q e (updM M p (.lst (l.eraseIdx i.toNat)))
      | none => False)
    | _ => False)
  | _, _ => False
theorem reps_erase {K : PySem.W.Frag} {H : Hp} : ∀ {vs : List V} {ds : List D} (i : Nat), Reps K H vs ds → Reps K H (vs.eraseIdx i) (ds.eraseIdx i)
  | _, _, _, .nil => .nil
  | _, _, 0, .cons _ t => t
  | _, _, i + 1, .cons r t => .cons r (reps_erase i t)
theorem oplm_popAt {K : PySem.W.Frag} : OpLM K rPopAt mPopAt := fun x vs H M d ds Q Qd r rs m o k => by
  match d, ds, o with
  | .ref p, [.int i], o =>
    have o' : (match M p with | some (.lst l) => 0 ≤ i ∧ i < 100000 ∧ (match l[i.toNat]? with | some e => Qd e (updM M p (.lst (l.eraseIdx i.toNat))) | none => False) | _ => False) := o
    cases r with
    | ref =>
      obtain ⟨v, rfl, rv⟩ := reps1 rs
      rw [rep_int rv]
      cases hm : M p with
      | none => rw [hm] at o'; exact o'.elim
      | some c =>
        rw [hm] at o'
        cases c with
        | lst l =>
          obtain ⟨xs, hx, rx⟩ := m p _ hm
          obtain ⟨h0, h1, o'⟩ := o'
          cases he : l[i.toNat]? with
          | none => rw [he] at o'; exact o'.elim
          | some e =>
            rw [he] at o'
            obtain ⟨y, hy, ry⟩ := rx.get he
            have sb : Stb H (upd H p (.lst (xs.eraseIdx i.toNat))) := Stb.mut hx trivial
            have hl : i.toNat < xs.length := (List.getElem?_eq_some_iff.mp hy).1
            refine ⟨p, xs, i, i.toNat, y, rfl, rfl, hx, by omega, by omega, ?_, hy, ?_⟩
            · have e2 : ixN xs.length i = some i.toNat := by
                unfold ixN
                rw [if_pos h0, if_pos (by omega)]
              exact (ixN_seq e2).1
            · exact k _ _ _ _ (.put hm) (m.put hx trivial (c := .lst (l.eraseIdx i.toNat)) ⟨_, upd_same, Reps.stb sb (reps_erase _ rx)⟩) (ry.stb sb) o'
        | dct l => exact o'.elim
        | box l => exact o'.elim
        | ins C dx fs => exact o'.elim
/-- a[i] = e of a list that may change -/
def hSubL (to ti : TEd) : TGd := fun v S Q => to S (fun d S1 => ti S1 (fun i S2 => match d, i with
  | .ref p, .int k => (match S2.M p with
    | some (.lst l) => (match ixN l.length k with
      | some j => Q ⟨S2.τ, updM S2.M p (.lst (l.set j v))⟩
      | none => False)
    | _ => False)
  | _, _ => False) fun _ _ => False) fun _ _ => False
theorem lift_subL {K : PySem.W.Frag} {ti : TEd} {v : V} {σ : L2.St} {H : Hp} {Q : L2.St → Hp → Prop} (h : liftG K (hSubL to ti) v σ H Q) : gSub (liftE K (fun _ _ _ _ => False) to) (liftE K (fun _ _ _ _ => False) ti) rSetL v σ H Q := by
  obtain ⟨dv, S, Qd, rv, sr, k, q⟩ := h
  have x0 : ∀ H M, ExOk K (fun _ _ _ _ => False) σ H M (fun _ _ => False) := fun H M => ⟨fun _ _ _ _ _ _ _ _ z => z⟩
  refine ⟨S, _, _, sr, fun d S1 u H1 st1 sr1 r1 q1 => ?_, x0 _ _, q⟩
  refine ⟨S1, _, _, sr1, fun i S2 w H2 st2 sr2 r2 q2 => ?_, x0 _ _, q1⟩
  cases d <;> first | exact (show False from q2).elim | skip
  cases i <;> first | exact (show False from q2).elim | skip
  rename_i p j
  have q3 : (match S2.M p with | some (.lst l) => (match ixN l.length j with | some n => Qd ⟨S2.τ, updM S2.M p (.lst (l.set n dv))⟩ | none => False) | _ => False) := q2
  cases r1 with
  | ref =>
    cases hm : S2.M p with
    | none => rw [hm] at q3; exact q3.elim
    | some c =>
      rw [hm] at q3
      cases c with
      | dct l => exact q3.elim
      | box l => exact q3.elim
      | ins C dx fs => exact q3.elim
      | lst l =>
        have q4 : (match ixN l.length j with | some n => Qd ⟨S2.τ, updM S2.M p (.lst (l.set n dv))⟩ | none => False) := q3
        obtain ⟨xs, hx, rx⟩ := sr2.m p _ hm
        cases hn : ixN l.length j with
        | none => rw [hn] at q4; exact q4.elim
        | some n =>
          rw [hn] at q4
          have sb : Stb H2 (upd H2 p (.lst (xs.set n v))) := Stb.mut hx trivial
          have rv2 : Rep K H2 v dv := rv.stb ((st1.trans st2).stb sr.m)
          refine ⟨p, xs, j, n, rfl, rep_int r2, hx, by rw [rx.length]; exact hn, ?_⟩
          exact k σ _ ⟨S2.τ, updM S2.M p (.lst (l.set n dv))⟩ ((st1.trans st2).trans (.put hm)) (sr2.mk2 (.put hm) (sr2.m.put hx trivial (c := .lst (l.set n dv)) ⟨_, upd_same, Reps.stb sb (Reps.set rv2 n rx)⟩)) q4
theorem dg_subL {i : Expr} {ti : TEd} {pos : Pos} (ho : DE X (fun _ _ _ _ => False) o to) (hi : DE X (fun _ _ _ _ => False) i ti)
    (ha : ∀ v, assign (.Subscript o i pos) X.env v = (do
      let ov ← holding [v] (eval o X.env)
      let iv ← holding [v, ov] (eval i X.env)
      standAt pos
      holding [v, ov, iv] (setItem ov iv v)
      release [v, ov, iv] []) := by intro _; rfl) : DG X (.Subscript o i pos) (hSubL to ti) := ⟨pg_imp (pg_sub ho.pe hi.pe set_list ha) fun _ _ _ _ h => lift_subL h⟩

/-! ### comprehensions -/
def wipeD (τ : List (Option D)) : List Nat → List (Option D)
  | [] => τ
  | v :: vs => (wipeD τ vs).set v none
theorem sr_wipe {K : PySem.W.Frag} {σ : L2.St} {H : Hp} {τ : List (Option D)} {M : Mst} (h : SR K σ H ⟨τ, M⟩) : ∀ vs : List Nat, SR K (wipe σ vs) H ⟨wipeD τ vs, M⟩
  | [] => h
  | v :: vs => SR.wipe (S := ⟨wipeD τ vs, M⟩) (sr_wipe h vs) v
/-- one turn's target: one name, or a pair of names -/
inductive LcT where
  | one (i : Nat) | two (i j : Nat)
def LcT.slots : LcT → List Nat
  | .one i => [i]
  | .two i j => [i, j]
def LcT.raw (K : PySem.W.Frag) : LcT → TG
  | .one i => gName i
  | .two i j => gTup K 2 (gCons (gName i) (gCons (gName j) gNil))
def LcT.put : LcT → D → List (Option D) → (List (Option D) → Prop) → Prop
  | .one i, d, τ, Q => Q (τ.set i (some d))
  | .two i j, .tup [a, b], τ, Q => Q ((τ.set i (some a)).set j (some b))
  | .two _ _, _, _, _ => False
def lcGo (g : LcT) (tt : TTd) (te : TEd) (τ : List (Option D)) (vs : List Nat) : List D → Mst → List D → (List D → Mst → Prop) → Prop
  | [], M, acc, Q => Q acc M
  | d :: r, M, acc, Q => g.put d (wipeD τ vs) fun τ1 => tt ⟨τ1, M⟩ (fun b S2 => if b = true then te S2 (fun y S3 => acc.length < 100000 ∧ lcGo g tt te τ vs r S3.M (acc ++ [y]) Q) (fun _ _ => False) else lcGo g tt te τ vs r S2.M acc Q) fun _ _ => False
def dLc (it : TAd) (g : LcT) (tt : TTd) (te : TEd) (vs : List Nat) : TEd := fun S Q E => it S (fun ds S1 => lcGo g tt te S1.τ vs ds S1.M [] fun acc M => Q (.lst acc) ⟨S1.τ, M⟩) E
abbrev W0 : WX := fun _ _ _ _ => False
def dYes : TTd := fun S Q _ => Q true S
theorem wipe_set {σ : L2.St} {i : Nat} {x : Option V} : ∀ {vs : List Nat}, i ∈ vs → wipe (σ.set i x) vs = wipe σ vs
  | [], h => by cases h
  | v :: vs, h => by
    show (wipe (σ.set i x) vs).set v none = (wipe σ vs).set v none
    by_cases e : i ∈ vs
    · rw [wipe_set e]
    · have e2 : i = v := by
        cases h with
        | head => rfl
        | tail _ h => exact absurd h e
      subst e2
      have key : ∀ (ws : List Nat), i ∉ ws → wipe (σ.set i x) ws = (wipe σ ws).set i x := by
        intro ws
        induction ws with
        | nil => intro _; rfl
        | cons u ws ih =>
          intro hn
          show (wipe (σ.set i x) ws).set u none = ((wipe σ ws).set u none).set i x
          rw [ih (fun z => hn (.tail _ z)), List.set_comm _ _ (fun z => hn (by rw [z]; exact .head _))]
      rw [key vs e, List.set_set]
theorem wipe_idem {σ : L2.St} {vs : List Nat} : wipe (wipe σ vs) vs = wipe σ vs := by
  have key : ∀ (us ws : List Nat), (∀ u ∈ us, u ∈ ws) → wipe (wipe σ us) ws = wipe σ ws := by
    intro us
    induction us with
    | nil => intro ws _; rfl
    | cons u us ih =>
      intro ws h
      show wipe ((wipe σ us).set u none) ws = wipe σ ws
      rw [wipe_set (h u (.head _)), ih ws fun z hz => h z (.tail _ hz)]
  exact key vs vs fun _ h => h
structure DTs (X : Cx) (W : WX) (ifs : List Expr) (t : TTd) : Prop where
  pts : PTs X ifs (liftT X.K W t)
theorem dts_nil : DTs X W [] dYes := ⟨⟨fun pins s σ H Q I ⟨S, Qd, Ed, sr, k, x, q⟩ => pts_nil.run pins s σ H Q I (k true S H (.refl H _) sr q)⟩⟩
theorem dts_one {c : Expr} {tc : TTd} (h : DT X W c tc) : DTs X W [c] tc := ⟨pts_one h.pt⟩
end
end DL
end
section
set_option maxRecDepth 100000
set_option maxHeartbeats 2000000
/-! DL9: the comprehension's rule -/
namespace DL
open PySem PySem.Spec L2
section
variable {K : PySem.W.Frag} {σ : L2.St} {H H0 : Hp} {S : DS} {p : Addr} {o u : HO} {M M0 : Mst}
theorem MOk.side (m : MOk K H M) (hp : H p = some o) (mu : Mut (some o)) (hm : M p = none) : MOk K (upd H p u) M := fun a c e => by
  have n : a ≠ p := fun z => by subst z; rw [hm] at e; cases e
  exact (m a c e).at (Stb.mut hp mu) (upd_ne n)
theorem SR.side (h : SR K σ H S) (hp : H p = some o) (mu : Mut (some o)) (hm : S.M p = none) : SR K σ (upd H p u) S :=
  ⟨h.len, fun i d q => by obtain ⟨v, a, r⟩ := h.at_ i d q; exact ⟨v, a, r.stb (Stb.mut hp mu)⟩, h.m.side hp mu hm⟩
theorem Ext.side (e : Ext H0 M0 H M) (h0 : H0 p = none) : Ext H0 M0 (upd H p u) M :=
  ⟨fun a w h m => by
    have n : a ≠ p := fun z => by subst z; rw [h0] at h; cases h
    exact ⟨by rw [upd_ne n]; exact (e.keep a w h m).1, (e.keep a w h m).2⟩, fun a w h => by
    by_cases n : a = p
    · subst n; exact ⟨u, upd_same⟩
    · obtain ⟨o', h'⟩ := e.dom a w h
      exact ⟨o', by rw [upd_ne n]; exact h'⟩⟩
theorem put_raw {g : LcT} {vs : List Nat} {d : D} {v : V} {σw : L2.St} {τw : List (Option D)} {P : List (Option D) → Prop} {Q : L2.St → Hp → Prop} (hv : ∀ i ∈ g.slots, i ∈ vs) (h : g.put d τw P) (r : Rep K H v d) (sr : SR K σw H ⟨τw, M⟩)
    (k : ∀ σ2 τ2, SR K σ2 H ⟨τ2, M⟩ → wipe σ2 vs = wipe σw vs → P τ2 → Q σ2 H) : g.raw K v σw H Q := by
  cases g with
  | one i => exact k _ _ (sr.set r) (wipe_set (hv i (by simp [LcT.slots]))) h
  | two i j =>
    have hi := hv i (by simp [LcT.slots])
    have hj := hv j (by simp [LcT.slots])
    match d, h with
    | .tup [a, b], h =>
      cases r with
      | tup hq rr =>
        obtain ⟨x, y, rfl, r1, r2⟩ := reps2 rr
        exact ⟨_, _, rfl, hq, rfl, x, [y], rfl, y, [], rfl, rfl, k _ _ ((sr.set r1).set r2) (by rw [wipe_set hj, wipe_set hi]) h⟩
end
section
variable {X : Cx} {W : WX}
theorem de_lc {elt tg iter : Expr} {ifs : List Expr} {scope : Scope} {own : List (Str × Nat)} {pos : Pos} {it : TAd} {g : LcT} {tt : TTd} {te : TEd} (hc : X.calm = true) (hN : X.N.Nodup) (hi : DI X W tg iter it) (ok : BlkOk X.N X.env.scope scope own)
    (hg : ∀ (s : Shared) (H : Hp) (C : Addr) (cl : List (Str × Addr)) (fp : List Addr), PG (X.blk s H scope (compEnvC scope cl C X.env) fp) tg (g.raw X.K)) (ht : ∀ (s : Shared) (H : Hp) (C : Addr) (cl : List (Str × Addr)) (fp : List Addr), DTs (X.blk s H scope (compEnvC scope cl C X.env) fp) W0 ifs tt)
    (he : ∀ (s : Shared) (H : Hp) (C : Addr) (cl : List (Str × Addr)) (fp : List Addr), DE (X.blk s H scope (compEnvC scope cl C X.env) fp) W0 elt te) (hv : ∀ i ∈ g.slots, i ∈ own.map (·.2)) (hs : ∀ x, foldedSetIterable iter X.env x = pure x := by intro _; rfl) :
    DE X W (.ListComp elt [⟨tg, iter, ifs, 0⟩] scope pos) (dLc it g tt te (own.map (·.2))) := by
  obtain ⟨wi, hw, li⟩ := hi.ex
  refine ⟨pe_imp (pe_fz (pe_lc (te := liftE X.K W0 te) (tt := liftT X.K W0 tt) hc hN hw ok hg (fun s H C cl fp => (ht s H C cl fp).pts) (fun s H C cl fp => (he s H C cl fp).pe) hs)) fun σ H Q ⟨S, Qd, Ed, sr, k, x, q⟩ => ?_⟩
  generalize own.map (·.2) = vs at *
  refine li σ H _ S _ Ed sr x q fun ds S1 H1 J st1 sr1 so q1 => ?_
  intro D hD
  have mD : S1.M D = none := sr1.m.fresh hD
  refine ⟨fun i m H' => m = ds.length - i ∧ i ≤ ds.length ∧ ∃ M acc xs, Ext H1 S1.M H' M ∧ SR X.K σ H' ⟨S1.τ, M⟩ ∧ H' D = some (.lst xs) ∧ Reps X.K H' xs acc ∧ M D = none ∧ acc.length ≤ 100000 ∧ lcGo g tt te S1.τ vs (ds.drop i) M acc (fun acc M => Qd (.lst acc) ⟨S1.τ, M⟩), ⟨ds.length, by simp, Nat.zero_le _, S1.M, [], [], .new hD, sr1.mk2 (.new hD) (sr1.m.new hD), upd_same, .nil, mD, Nat.zero_le _, by simpa using q1⟩, ?_⟩
  rintro i m H' ⟨rfl, hi, M, acc, xs, ext, sr', hD', rx, mD', hz, q'⟩
  have stb := ext.stb sr1.m
  by_cases hl : i < ds.length
  · have hd := List.getElem?_eq_getElem hl
    refine .inr ⟨so.go H' i _ stb hd, fun H2 => i + 1 ≤ ds.length ∧ ∃ M acc xs, Ext H1 S1.M H2 M ∧ SR X.K σ H2 ⟨S1.τ, M⟩ ∧ H2 D = some (.lst xs) ∧ Reps X.K H2 xs acc ∧ M D = none ∧ acc.length ≤ 100000 ∧ lcGo g tt te S1.τ vs (ds.drop (i + 1)) M acc (fun acc M => Qd (.lst acc) ⟨S1.τ, M⟩), fun H2 h => ⟨ds.length - (i + 1), by omega, rfl, h⟩, fun v H2 y => ?_⟩
    obtain ⟨e1, e2, e3⟩ := so.yld H' i _ v H2 stb hd y
    rw [drop_cons hd] at q'
    have sr2 : SR X.K σ H2 ⟨S1.τ, M⟩ := sr'.mk2 (e1 M) (e2 _ sr'.m)
    have hD2 := ((e1 M).keep D _ hD' mD').1
    refine put_raw (M := M) hv q' e3 (sr_wipe sr2 vs) fun σ3 τ3 sr3 hw3 q3 => ⟨by rw [hw3, wipe_idem], ?_⟩
    have x0 : ∀ σ H M, ExOk X.K W0 σ H M (fun _ _ => False) := fun σ H M => ⟨fun _ _ _ _ _ _ _ _ z => z⟩
    refine ⟨⟨τ3, M⟩, _, _, sr3, fun b S4 H4 st4 sr4 q4 => ?_, x0 _ _ _, q3⟩
    have k4 : Ext H' M H4 S4.M := (e1 M).trans st4
    have hD4 := k4.keep D _ hD' mD'
    cases b with
    | false =>
      refine iteF ?_
      have q5 : lcGo g tt te S1.τ vs (ds.drop (i + 1)) S4.M acc (fun acc M => Qd (.lst acc) ⟨S1.τ, M⟩) := by simpa using q4
      exact ⟨hl, S4.M, acc, xs, ext.trans k4, sr'.mk2 k4 sr4.m, hD4.1, Reps.stb (k4.stb sr'.m) rx, hD4.2, hz, q5⟩
    | true =>
      refine iteT ?_
      have q5 : te S4 (fun y S3 => acc.length < 100000 ∧ lcGo g tt te S1.τ vs (ds.drop (i + 1)) S3.M (acc ++ [y]) (fun acc M => Qd (.lst acc) ⟨S1.τ, M⟩)) (fun _ _ => False) := by simpa using q4
      refine ⟨S4, _, _, sr4, fun y S5 w H5 st5 sr5 r5 ⟨hz5, q6⟩ => ?_, x0 _ _ _, q5⟩
      have k5 : Ext H' M H5 S5.M := k4.trans st5
      have hD5 := k5.keep D _ hD' mD'
      have rx5 := Reps.stb (k5.stb sr'.m) rx
      have sb : Stb H5 (upd H5 D (.lst (xs ++ [w]))) := Stb.mut hD5.1 trivial
      refine ⟨xs, hD5.1, by rw [rx.length]; exact sz_lt hz5, hl, S5.M, acc ++ [y], xs ++ [w], (ext.trans k5).side hD, (sr'.mk2 k5 sr5.m).side hD5.1 trivial hD5.2, upd_same, Reps.append (Reps.stb sb rx5) (.cons (r5.stb sb) .nil), hD5.2, by rw [List.length_append]; exact hz5, q6⟩
  · have e : i = ds.length := by omega
    subst e
    refine .inl ⟨so.stop H' _ stb (Nat.le_refl _), D, _, rfl, hD', trivial, fun ob => ?_⟩
    rw [List.drop_length] at q'
    have sb : Stb H' (upd H' D (.frz ob (.lst xs))) := Stb.mut hD' trivial
    have q2 : Qd (.lst acc) ⟨S1.τ, M⟩ := q'
    exact k _ ⟨S1.τ, M⟩ _ _ (st1.trans (ext.side hD)) (sr'.side hD' trivial mD') (.lst ⟨ob, upd_same⟩ (Reps.stb sb rx)) q2
end
end DL
end
section
set_option maxRecDepth 100000
set_option maxHeartbeats 2000000
/-! EL1: the package's errors are made: super().__init__(given) in a class over ValueError -/
namespace PySem
namespace EL
open PySem.W PySem.Calls PyProof.Rows PySem.HandSPX
/-! ### the text of WeightError.__init__ -/
def iA (p1 p2 p3 : Pos) : Arguments := { posonlyargs := [], args := [{ arg := "self", annotation := none, pos := p1 }, { arg := "given", annotation := none, pos := p2 }], vararg := none, kwonlyargs := [], kw_defaults := [], kwarg := none, defaults := [.Constant .none 0 p3] }
def iB (q1 q2 q3 q4 q5 q6 r1 r2 r3 r4 : Pos) : List Stmt :=
  [.Expr (.Call (.Attribute (.Call (.Name "super" q1) [] [] q2) "__init__" q3) [.Name "given" q4] [] q5) q6, .Assign [.Attribute (.Name "self" r1) "given" r2] (.Name "given" r3) r4]
def iS : Scope := { kind := .function, names := [(PySem.Str.ofString "self", .local), (PySem.Str.ofString "given", .local), (PySem.Str.ofString "__class__", .free), (PySem.Str.ofString "super", .globalImplicit)], isGenerator := false, isCoroutine := false, more := [] }
/-- what the written part says of the base class at D and of its __init__ at f -/
structure BaseTxt (P : Program) (K : Frag) (D f : Addr) : Prop where
  fn : ∃ (oc : Value) (od : Option Addr) (dV kV doc pm : Value) (an : Option Addr) (cda cc : Addr) (ct : Value) (osl : Array (Option Value)) (p1 p2 p3 q1 q2 q3 q4 q5 q6 r1 r2 r3 r4 : Pos) (ccl cl : Value) (cdd cld : Option Addr) (ccs csl : Array (Option Value)) (vs : Array Value) (file : Str) (tf : Tok),
    K.lookup f = some ⟨oc, od, .func (ksFn "__init__" "WeightError.__init__" (iA p1 p2 p3) (iB q1 q2 q3 q4 q5 q6 r1 r2 r3 r4) iS dV kV doc pm an (.ref cda) ct cc), osl⟩ ∧ codeIn K (.ref cda) "WeightError.__init__" = true ∧
    K.lookup cda = some ⟨ccl, cdd, .fields vs, ccs⟩ ∧ vs[2]? = some (.str file tf) ∧ ((P.main.file : Str) == file) = true ∧ K.lookup cc = some ⟨cl, cld, .cell (some (.ref D)), csl⟩ ∧ (q3.endLine == q5.line) = true ∧ ∃ (Td : Addr) (oT : Obj) (nT : Nat), dV = .ref Td ∧ K.lookup Td = some oT ∧ oT.data = .seq #[.none] nT
  cls : ∃ cdD, clsIn K D = some cdD
  sup : nsIn K mainGlobals "super" = some none
  top : (P.main.scope.names.lookup ("super" : Str)).isSome = false
  opq : nsIn K cStatics "thirdparty.any" = some none
/-- .. and of a class at C over it -/
structure ClsTxt (K : Frag) (D C : Addr) : Prop where
  cls : ∃ nm q N bs bm sn sub ab col dd k0 k1 k2 k3 k5, K.lookup C = some (excClassObj nm q C N bs bm true sn sub ab col dd k0 k1 k2 k3 k5 "ValueError.__new__") ∧ refsVE bm = true
  mro : mroIn K C (.ref D) = some true
  supI : ks_superIn K C D "__init__" = some (some (.builtin "ValueError.__init__"))
  subV : subIn K (.ref C) (.type "ValueError") = some true
  sa : findIn K (.ref C) "__setattr__" = some (some (.builtin "object.__setattr__"))
  noG : findIn K (.ref C) "given" = some none
/-- what __init__ leaves of a fresh exception at x -/
structure InitEnd (h h' : Heap) (x C dx t1 : Addr) (v : Value) : Prop where
  keep : ∀ b o, b ≠ x → h.get? b = some o → h'.get? b = some o
  obj : h'.get? x = some { cls := .ref C, dict := some dx, data := .fields #[.ref t1, .none, .none, .none, .bool false, .none] }
  dbig : h.objs.size ≤ dx
  dne : dx ≠ x
  ns : h'.Ns1 dx (fun y => if y = "given" then some v else none)
section
variable {prog : Program} {w : World} {A : Around} {E : Value → Shared → Prop} {h : Heap} {g : Array GenState} {d : Drawn} {t : Nat} {os : OsState}
variable {nm q : Str} {C N : Addr} {bs bm : List Value} {hdct : Bool} {sn : List Str} {sub : List Value} {ab : Bool} {col : Option Bool} {dd : Option Addr} {k0 k1 k2 k3 k5 : Option Value}
/-- ValueError.__init__ bound to the exception at e, called -/
theorem call_mw {u e t0 : Addr} {rest : List Value} {Q : Value → Shared → Prop}
    (hC : h.get? C = some (excClassObj nm q C N bs bm hdct sn sub ab col dd k0 k1 k2 k3 k5 "ValueError.__new__")) (he : h.get? e = some (excO C t0)) (hu : h.get? u = some (kxs_mw "ValueError.__init__" e)) (hrest : rest.length ≤ sizeLine)
    (hq : ∀ h' t1, (∀ b o, b ≠ e → h.get? b = some o → h'.get? b = some o) → h'.get? e = some (excO C t1) → Q .none ⟨h', g, d, t, os⟩) :
    wpAny (model prog w) A (call (.ref u) rest) Q E ⟨h, g, d, t, os⟩ := by
  refine wpAny_call (codeAny_of_tree ?_)
  show wpAny _ A.in1 (callAny (.ref u) ⟨rest, []⟩) _ _ _
  simp only [callAny]
  refine wpAny_bind (wpAny_load hu ?_)
  simp only [kxs_mw, show (Value.type "method-wrapper" == Value.type "method" || Value.type "method-wrapper" == Value.type "builtin_function_or_method" || Value.type "method-wrapper" == Value.type "method-wrapper") = true by decide, if_true]
  refine W.KFB.if_so (by decide) ?_
  refine wpAny_bind (ESX.check_bound F.excBase_ValueError hC he rfl ?_)
  refine wpAny_bind (wpAny_pure (wpAny_pure ?_))
  refine ⟨Code.quiet_builtin _ (by decide +kernel), codeAny_builtin F.excBase_ValueError.initEntry ?_⟩
  rw [Around.under_plainId F.excBase_ValueError.init.plain _]
  exact exc_init_tree (cls := .ref C) (t0 := t0) (dv := none) (c2 := .none) (c3 := .none) (b4 := .bool false) he hrest fun h' a b c => hq h' _ a b
end
theorem mcall_he {o : Expr} {name : Str} {apos pos : Pos} {args : List Expr} {env : Env} (hl : (apos.endLine == pos.line) = true) (hf : methodCallForm (args.length + 0) (backTo pos (starEach args env)) [] = true) :
    eval (.Call (.Attribute o name apos) args [] pos) env = (do
      let ov ← attributeBase o name env (eval o env)
      standAt apos.atName
      let (f, first) ← holding [ov] (getMethod ov name (L2.plainOf o env))
      callWith pos f first (backTo pos (starEach args env)) []) := by
  have e : eval (.Call (.Attribute o name apos) args [] pos) env = (do
      let ov ← attributeBase o name env (eval o env)
      standAt apos.atName
      methodCall o name apos pos env ov (args.length + 0) (backTo pos (starEach args env)) []) := by rfl
  rw [e]
  congr 1
  funext ov
  congr 1
  funext _
  exact L2.mcall_line hf hl
section
variable {prog : Program} {w : World} {A : Around} {R : Result → Shared → Prop} {s : Shared} {K : Frag} {mg mb : Str → Option Value} {D C f : Addr}
theorem base_init (T : BaseTxt prog K D f) (Tc : ClsTxt K D C) {x t0 : Addr} {v : Value} {args : Args} (X : K.In s.heap) (hg : s.heap.Ns mainGlobals mg) (hb : s.heap.Ns builtinsNs mb) (hbb : ∀ x : Str, x ≠ "__name__" → mb x = bootBuiltins x) (hlim : s.heap.NoLimit)
    (hx : s.heap.get? x = some (excO C t0)) (hnx : K.lookup x = none) (hroom : A.depth < recursionLimit)
    (hbind : ∀ fd : FuncData, (∃ od osl oc, K.lookup f = some ⟨oc, od, .func fd, osl⟩) → BindsTo s fd args [("self", .ref x), ("given", v)])
    (hq : ∀ h' tk dx t1, InitEnd s.heap h' x C dx t1 v → R (.ok (.ret .none)) { s with heap := h', toks := tk }) :
    codeAny (model prog w) A (.call (.ref f) args) R s := by
  obtain ⟨oc, od, dV, kV, doc, pm, an, cda, cc, ct, osl, p1, p2, p3, q1, q2, q3, q4, q5, q6, r1, r2, r3, r4, ccl, cl, cdd, cld, ccs, csl, vs, file, tf, ho, hcd, hcode, hvs, hfile, hcell, hline, _⟩ := T.fn
  obtain ⟨cdD, hD⟩ := T.cls
  obtain ⟨nm, q, N, bs, bm, sn, sub, ab, col, dd, k0, k1, k2, k3, k5, hC, hbm⟩ := Tc.cls
  refine ks_codeAny_call_defAt (fd := ksFn "__init__" "WeightError.__init__" (iA p1 p2 p3) (iB q1 q2 q3 q4 q5 q6 r1 r2 r3 r4) iS dV kV doc pm an (.ref cda) ct cc) (body := iB q1 q2 q3 q4 q5 q6 r1 r2 r3 r4) (binds := [("self", .ref x), ("given", v)])
    hroom (X _ _ ho) rfl hlim (codeRec_of X hcd) rfl (hbind _ ⟨_, _, _, ho⟩) (show ∀ x ∈ iS.names, x.2 ≠ .cell from by decide) (fun y hy => ?_) (fun h₁ hns hk => ?_)
  · rcases List.mem_cons.mp hy with rfl | hy
    · rfl
    · rcases List.mem_cons.mp hy with rfl | hy
      · rfl
      · cases hy
  show _root_.PySem.wpAt _ _ _ (execs (_ :: _) _) _ _ _
  have X₁ : K.In h₁ := X.keeps hk
  have hx₁ := hk _ _ hx
  obtain ⟨oD, hD1, hD2⟩ : ∃ oD, s.heap.get? D = some oD ∧ oD.data = .cls cdD := by
    unfold clsIn at hD
    split at hD
    · rename_i c d cd' sl ho'
      cases hD
      exact ⟨_, X _ _ ho', rfl⟩
    · cases hD
  refine ks_wpAt_execs_cons (ks_wpAt_Expr_any ?_)
  refine ks_wpAt_MethodCall ?_ (mcall_he hline rfl)
  refine ks_wpAt_super_base rfl rfl (by decide) rfl (X₁ _ _ ho) rfl rfl rfl (X₁ _ _ hcode) rfl hvs hfile T.top ?_
  have hg₁ := hg.keeps hk
  have hb₁ := hb.keeps hk
  refine ks_loadName_global rfl rfl (loadGlobal_builtin hg₁ (mg_none_of X₁ hg₁ T.sup) hb₁ ((hbb _ (by decide +kernel)).trans (by decide +kernel : bootBuiltins "super" = some (.type "super"))) ⟨rfl, ?_⟩)
  refine wpAny_loadName_free rfl rfl rfl ⟨_, X₁ _ _ hcell, rfl⟩ ?_
  refine wpAny_loadName_local rfl rfl hns rfl ?_
  refine ks_wpAny_isType_cls (hk _ _ hD1) hD2 ⟨rfl, ?_⟩
  refine ks_wpAny_call_super (hk _ _ hD1) hD2 hx₁ rfl (fun c e => by cases e) (looks_mroIn X₁ Tc.mro) (fun h₂ e₂ k₂ => ?_)
  have X₂ : K.In h₂ := X₁.keeps k₂
  have hx₂ := k₂ _ _ hx₁
  have I₂ : InstAt h₂ x (excO C t0) C none := ⟨hx₂, rfl, rfl, trivial⟩
  have hcl : clsIn K C = some { name := nm, bases := bs, mro := .ref C :: bm, ns := N, qualname := q, hasDict := true, slotNames := sn, subclasses := sub, abstract := ab, collection := col, hasDel := false } := by unfold clsIn; rw [hC] <;> rfl
  have hm : alongIn K "__init__" (((Value.ref C :: bm).dropWhile (· != .ref D)).drop 1) = some (some (.builtin "ValueError.__init__")) := by
    have z := Tc.supI
    unfold ks_superIn at z
    rw [hcl] at z
    exact z
  refine kxs_getMethod kxs_ValueError e₂ (looks_opaque X₂ T.opq) (l₀ := .ref C :: bm) ?_ rfl X₂ hm (I₂.type.andThen (looks_subIn X₂ Tc.subV)) (ks_ne X₂ I₂ hcl) (by decide) ?_
  · exact fun A Q E s k q => wpAny_bind ((looks_clsIn X₂ hcl) A _ E s k (wpAny_pure q))
  have hlt : ∀ b o, h₂.get? b = some o → (h₂.push (kxs_mw "ValueError.__init__" x)).get? b = some o := fun b o e => Heap.get?_push_of_some _ e
  have hns₂ : h₂.Ns s.heap.objs.size (fun y => List.lookup y [(("given" : Str), v), ("self", .ref x)]) := hns.keeps k₂
  have hns₃ := hns₂.keeps hlt
  refine kxs_callWith (i := "ValueError.__init__") (x := x) (by rfl) ?_
  refine evalArgs_plain ?_
  refine Calls.spliced_cons (ESX.ldL hns₃ rfl ?_)
  refine Calls.spliced_nil ⟨Heap.get?_push_at rfl rfl, ?_⟩
  have X₃ : K.In (h₂.push (kxs_mw "ValueError.__init__" x)) := X₂.keeps hlt
  refine call_mw (C := C) (X₃ _ _ hC) (hlt _ _ hx₂) (Heap.get?_push_at rfl rfl) (by show 1 ≤ sizeLine; decide) fun h₄ t1 k₄ hx₄ => ?_
  have kp : ∀ b o, b ≠ x → s.heap.get? b = some o → h₄.get? b = some o := fun b o hb e => k₄ b o hb (hlt _ _ (k₂ _ _ (hk _ _ e)))
  have X₄ : K.In h₄ := fun a o e => k₄ a o (fun z => by rw [z, hnx] at e; cases e) (X₃ a o e)
  have hxL : s.heap.objs.size ≠ x := Nat.ne_of_gt (Heap.lt_size hx)
  have hns₄ : h₄.Ns s.heap.objs.size (fun y => List.lookup y [(("given" : Str), v), ("self", .ref x)]) := hns₃.at fun o e => k₄ _ _ hxL e
  refine wpAt_of_wpAny ?_
  refine wpAny_execs_cons (plainObj_wpAny_Assign_Attribute ?_)
  refine ESX.ldL hns₄ rfl (ESX.ldL hns₄ rfl ?_)
  refine set_plain X₄ (ox := excO C t1) (od := none) ⟨hx₄, rfl, rfl, trivial⟩ Tc.sa ?_
  refine exc_osa X₄ hx₄ hcl (show refsVE (.ref C :: bm) = true from hbm) rfl Tc.noG (fun h₅ tk₅ dx k₅ dn dne hx₅ hn₅ => ?_)
  refine wpAny_execs_nil (hq h₅ tk₅ dx t1 ⟨fun b o hb e => k₅ b o hb (kp b o hb e), hx₅, Nat.le_of_lt (Nat.lt_of_lt_of_le hns₄.lt dn), dne, hn₅⟩)
/-- a made error: a fresh exception at e, its dict at d -/
structure OwnMade (h h' : Heap) (e C d : Addr) (m : Str → Option Value) : Prop where
  keep : ∀ b o, h.get? b = some o → h'.get? b = some o
  new : h.objs.size ≤ e
  obj : ∃ oe vs, h'.get? e = some oe ∧ oe.cls = .ref C ∧ oe.dict = some d ∧ oe.data = .fields vs ∧ vs[1]? = some .none
  dbig : h.objs.size ≤ d
  dne : d ≠ e
  ns : h'.Ns1 d m
/-- what the written part says of a class whose __init__ is the base's -/
structure PassTxt (P : Program) (K : Frag) (D f C : Addr) : Prop where
  base : BaseTxt P K D f
  cl : ClsTxt K D C
  iC : findIn K (.ref C) "__init__" = some (some (.ref f))
  tC : typeIn K (.ref f) = some (.type "function")
theorem base_binds {s : Shared} {fd : FuncData} {x : Addr} (T : BaseTxt prog K D f) (X : K.In s.heap) {oc : Value} {od : Option Addr} {osl : Array (Option Value)} (hf : K.lookup f = some ⟨oc, od, .func fd, osl⟩) (us : List Value) (v : Value) (h : us = [v] ∨ (us = [] ∧ v = .none)) :
    BindsTo s fd ⟨.ref x :: us, []⟩ [("self", .ref x), ("given", v)] := by
  obtain ⟨oc', od', dV, kV, doc, pm, an, cda, cc, ct, osl', p1, p2, p3, q1, q2, q3, q4, q5, q6, r1, r2, r3, r4, _, _, _, _, _, _, _, _, _, ho, _, _, _, _, _, _, Td, oT, nT, rfl, lT, dT⟩ := T.fn
  rw [hf] at ho
  cases ho
  refine L2.BindsTo.of_looks fun M => ?_
  rcases h with rfl | ⟨rfl, rfl⟩
  · obtain ⟨k, e1, e2⟩ : ∃ k, bindArgs (ksFn "__init__" "WeightError.__init__" (iA p1 p2 p3) (iB q1 q2 q3 q4 q5 q6 r1 r2 r3 r4) iS (.ref Td) kV doc pm an (.ref cda) ct cc) ⟨[.ref x, v], []⟩ = seqItems? (.ref Td) >>= k ∧ k (some #[.none]) = pure ([(("self" : Str), Value.ref x), (("given" : Str), v)] : List (Str × Value)) := ⟨_, rfl, rfl⟩
    rw [e1]
    exact L2.looks_items X lT dT (.of_pure e2)
  · obtain ⟨k, e1, e2⟩ : ∃ k, bindArgs (ksFn "__init__" "WeightError.__init__" (iA p1 p2 p3) (iB q1 q2 q3 q4 q5 q6 r1 r2 r3 r4) iS (.ref Td) kV doc pm an (.ref cda) ct cc) ⟨[.ref x], []⟩ = seqItems? (.ref Td) >>= k ∧ k (some #[.none]) = pure ([(("self" : Str), Value.ref x), (("given" : Str), Value.none)] : List (Str × Value)) := ⟨_, rfl, rfl⟩
    rw [e1]
    exact L2.looks_items X lT dT (.of_pure e2)
theorem one_size (v : Value) : [v].length ≤ sizeLine := by show 1 ≤ sizeLine; decide
theorem pass_made (T : PassTxt prog K D f C) {v : Value} (X : K.In s.heap) (hg : s.heap.Ns mainGlobals mg) (hb : s.heap.Ns builtinsNs mb) (hbb : ∀ x : Str, x ≠ "__name__" → mb x = bootBuiltins x) (hlim : s.heap.NoLimit) (hroom : A.depth + 1 < recursionLimit)
    (hq : ∀ h' tk e d, OwnMade s.heap h' e C d (fun y => if y = "given" then some v else none) → R (.ok (.ret (.ref e))) { s with heap := h', toks := tk }) :
    codeAny (model prog w) A (.call (.ref C) ⟨[v], []⟩) R s := by
  obtain ⟨nm, q, N, bs, bm, sn, sub, ab, col, dd, k0, k1, k2, k3, k5, hC, hbm⟩ := T.cl.cls
  obtain ⟨hp, g, dr, tk, os⟩ := s
  have k : ∀ b o, hp.get? b = some o → ((hp.push (kdv_tup [v])).push (excO C hp.objs.size)).get? b = some o := fun b o e => Heap.get?_push_of_some _ (Heap.get?_push_of_some _ e)
  have hget : ((hp.push (kdv_tup [v])).push (excO C hp.objs.size)).get? (hp.objs.size + 1) = some (excO C hp.objs.size) := by heap_get
  have hnx : K.lookup (hp.objs.size + 1) = none := by
    cases e : K.lookup (hp.objs.size + 1) with
    | none => rfl
    | some o => exact absurd (Nat.lt_of_succ_lt (Heap.lt_size (show hp.get? (hp.objs.size + 1) = some o from X _ _ e))) (Nat.lt_irrefl _)
  refine call_own F.excBase_ValueError (fun X => refsVE_contains X bm hbm) (X _ _ hC) (looks_findIn X T.iC) (fun self => bind_fn X self T.tC) (one_size v) ?_
  refine base_init (s := ⟨(hp.push (kdv_tup [v])).push (excO C hp.objs.size), g, dr, tk, os⟩) (mg := mg) (mb := mb) (v := v) T.base T.cl (X.keeps k) (hg.keeps k) (hb.keeps k) hbb (hlim.keeps k) hget hnx ?_ (fun fd hf => ?_) fun h' tk' dx t1 ⟨k', hx, dn, dne, hns⟩ => ?_
  · show A.depth + 1 < recursionLimit
    exact hroom
  · obtain ⟨od, osl, oc, hf⟩ := hf
    exact base_binds T.base (X.keeps k) hf [v] v (.inl rfl)
  · have old : ∀ b o, hp.get? b = some o → h'.get? b = some o := fun b o e => k' b o (Nat.ne_of_lt (Nat.lt_succ_of_lt (Heap.lt_size e))) (k b o e)
    have z : hp.objs.size + 1 + 1 ≤ dx := by
      have q := dn
      rw [Heap.size_push, Heap.size_push] at q
      exact q
    exact ⟨rfl, hq h' tk' (hp.objs.size + 1) dx ⟨old, Nat.le_succ _, ⟨_, _, hx, rfl, rfl, rfl, rfl⟩, Nat.le_trans (Nat.le_trans (Nat.le_succ _) (Nat.le_succ _)) z, dne, hns⟩⟩
end
end EL
end PySem
end
section
set_option maxRecDepth 100000
set_option maxHeartbeats 2000000
/-! EL2: a class over the base with its own __init__(self): super().__init__() -/
namespace PySem
namespace EL
open PySem.W PySem.Calls PyProof.Rows PySem.HandSPX
def iA0 (p1 : Pos) : Arguments := { posonlyargs := [], args := [{ arg := "self", annotation := none, pos := p1 }], vararg := none, kwonlyargs := [], kw_defaults := [], kwarg := none, defaults := [] }
def iB0 (q1 q2 q3 q5 q6 : Pos) : List Stmt := [.Expr (.Call (.Attribute (.Call (.Name "super" q1) [] [] q2) "__init__" q3) [] [] q5) q6]
def iS0 : Scope := { kind := .function, names := [(PySem.Str.ofString "self", .local), (PySem.Str.ofString "__class__", .free), (PySem.Str.ofString "super", .globalImplicit)], isGenerator := false, isCoroutine := false, more := [] }
/-- the class at C over the base at D (its __init__ at f): its own __init__ at fI, by the qualified name q -/
structure OwnTxt0 (P : Program) (K : Frag) (D f C fI : Addr) (q : Str) : Prop where
  base : BaseTxt P K D f
  cl : ClsTxt K D C
  iC : findIn K (.ref C) "__init__" = some (some (.ref fI))
  tI : typeIn K (.ref fI) = some (.type "function")
  tf : typeIn K (.ref f) = some (.type "function")
  ff : fnIn K f = true
  fn : ∃ (oc : Value) (od : Option Addr) (doc pm kV : Value) (an : Option Addr) (cda cc : Addr) (ct : Value) (osl : Array (Option Value)) (p1 q1 q2 q3 q5 q6 : Pos) (ccl cl : Value) (cdd cld : Option Addr) (ccs csl : Array (Option Value)) (vs : Array Value) (file : Str) (tf : Tok),
    K.lookup fI = some ⟨oc, od, .func (ksFn "__init__" q (iA0 p1) (iB0 q1 q2 q3 q5 q6) iS0 .none kV doc pm an (.ref cda) ct cc), osl⟩ ∧ codeIn K (.ref cda) q = true ∧
    K.lookup cda = some ⟨ccl, cdd, .fields vs, ccs⟩ ∧ vs[2]? = some (.str file tf) ∧ ((P.main.file : Str) == file) = true ∧ K.lookup cc = some ⟨cl, cld, .cell (some (.ref C)), csl⟩ ∧ (q3.endLine == q5.line) = true
  own : mroIn K C (.ref C) = some true
  sup : ks_superIn K C C "__init__" = some (some (.ref f))
section
variable {prog : Program} {w : World} {A : Around} {R : Result → Shared → Prop} {s : Shared} {K : Frag} {mg mb : Str → Option Value} {D C f fI : Addr} {q : Str}
theorem own_init0 (T : OwnTxt0 prog K D f C fI q) {x t0 : Addr} (X : K.In s.heap) (hg : s.heap.Ns mainGlobals mg) (hb : s.heap.Ns builtinsNs mb) (hbb : ∀ x : Str, x ≠ "__name__" → mb x = bootBuiltins x) (hlim : s.heap.NoLimit)
    (hx : s.heap.get? x = some (excO C t0)) (hnx : K.lookup x = none) (hroom : A.depth + 1 < recursionLimit)
    (hq : ∀ h' tk dx t1, InitEnd s.heap h' x C dx t1 .none → R (.ok (.ret .none)) { s with heap := h', toks := tk }) :
    codeAny (model prog w) A (.call (.ref fI) ⟨[.ref x], []⟩) R s := by
  obtain ⟨oc, od, doc, pm, kV, an, cda, cc, ct, osl, p1, q1, q2, q3, q5, q6, ccl, cl, cdd, cld, ccs, csl, vs, file, tf, ho, hcd, hcode, hvs, hfile, hcell, hline⟩ := T.fn
  obtain ⟨nm, qn, N, bs, bm, sn, sub, ab, col, dd, k0, k1, k2, k3, k5, hC, hbm⟩ := T.cl.cls
  refine ks_codeAny_call_defAt (fd := ksFn "__init__" q (iA0 p1) (iB0 q1 q2 q3 q5 q6) iS0 .none kV doc pm an (.ref cda) ct cc) (body := iB0 q1 q2 q3 q5 q6) (binds := [("self", .ref x)])
    (Nat.lt_of_succ_lt hroom) (X _ _ ho) rfl hlim (codeRec_of X hcd) rfl (BindsTo.of_eq (by first | rfl | with_unfolding_all rfl)) (show ∀ x ∈ iS0.names, x.2 ≠ .cell from by decide) (fun y hy => ?_) (fun h₁ hns hk => ?_)
  · rcases List.mem_cons.mp hy with rfl | hy
    · rfl
    · cases hy
  show _root_.PySem.wpAt _ _ _ (execs (_ :: _) _) _ _ _
  have X₁ : K.In h₁ := X.keeps hk
  have hx₁ := hk _ _ hx
  have hcl : clsIn K C = some { name := nm, bases := bs, mro := .ref C :: bm, ns := N, qualname := qn, hasDict := true, slotNames := sn, subclasses := sub, abstract := ab, collection := col, hasDel := false } := by unfold clsIn; rw [hC] <;> rfl
  refine ks_wpAt_execs_cons (ks_wpAt_Expr_any ?_)
  refine ks_wpAt_MethodCall ?_ (mcall_he hline rfl)
  refine ks_wpAt_super_base rfl rfl (by decide) rfl (X₁ _ _ ho) rfl rfl rfl (X₁ _ _ hcode) rfl hvs hfile T.base.top ?_
  have hg₁ := hg.keeps hk
  have hb₁ := hb.keeps hk
  refine ks_loadName_global rfl rfl (loadGlobal_builtin hg₁ (mg_none_of X₁ hg₁ T.base.sup) hb₁ ((hbb _ (by decide +kernel)).trans (by decide +kernel : bootBuiltins "super" = some (.type "super"))) ⟨rfl, ?_⟩)
  refine wpAny_loadName_free rfl rfl rfl ⟨_, X₁ _ _ hcell, rfl⟩ ?_
  refine wpAny_loadName_local rfl rfl hns rfl ?_
  refine ks_wpAny_isType_cls (X₁ _ _ hC) rfl ⟨rfl, ?_⟩
  refine ks_wpAny_call_super (X₁ _ _ hC) rfl hx₁ rfl (fun c e => by cases e) (looks_mroIn X₁ T.own) (fun h₂ e₂ k₂ => ?_)
  have X₂ : K.In h₂ := X₁.keeps k₂
  have hx₂ := k₂ _ _ hx₁
  have I₂ : InstAt h₂ x (excO C t0) C none := ⟨hx₂, rfl, rfl, trivial⟩
  have hm : alongIn K "__init__" (((Value.ref C :: bm).dropWhile (· != .ref C)).drop 1) = some (some (.ref f)) := by
    have z := T.sup
    unfold ks_superIn at z
    rw [hcl] at z
    exact z
  obtain ⟨of, hof, hofc⟩ : ∃ of, h₂.get? f = some of ∧ of.cls = .type "function" := by
    have ht' : (K.lookup f).map (·.cls) = some (.type "function") := T.tf
    cases z : K.lookup f with
    | none => rw [z] at ht'; cases ht'
    | some of => rw [z] at ht'; exact ⟨of, X₂ _ _ z, Option.some.inj ht'⟩
  refine ks_wpAny_getMethod_super e₂ (looks_opaque X₂ T.base.opq) (l₀ := .ref C :: bm) ?_ rfl X₂ hm hof hofc (ks_ne X₂ I₂ hcl) (by decide) ?_
  · exact fun A Q E s k q => wpAny_bind ((looks_clsIn X₂ hcl) A _ E s k (wpAny_pure q))
  have hlt : ∀ b o, h₂.get? b = some o → (h₂.push (methodObj (.ref f) (.ref x))).get? b = some o := fun b o e => Heap.get?_push_of_some _ e
  have X₃ : K.In (h₂.push (methodObj (.ref f) (.ref x))) := X₂.keeps hlt
  refine callWith_M0 (q := h₂.objs.size) (g := f) (self := .ref x) ⟨Heap.get?_push_at rfl rfl, X₃⟩ T.ff ?_
  refine wpAny_call (ks_codeAny_call_bound (Heap.get?_push_at rfl rfl) ?_)
  have kk : ∀ b o, s.heap.get? b = some o → (h₂.push (methodObj (.ref f) (.ref x))).get? b = some o := fun b o e => hlt _ _ (k₂ _ _ (hk _ _ e))
  refine base_init (mg := mg) (mb := mb) (v := .none) (t0 := t0) (x := x) T.base T.cl X₃ (hg.keeps kk) (hb.keeps kk) hbb (hlim.keeps kk) (kk _ _ hx) hnx ?_ (fun fd ⟨_, _, _, hf⟩ => base_binds T.base X₃ hf [] .none (.inr ⟨rfl, rfl⟩)) fun h' tk' dx t1 ⟨k', hx', dn, dne, hns'⟩ => ?_
  · show A.depth + 1 < recursionLimit
    exact hroom
  · refine wpAt_of_wpAny (wpAny_execs_nil (hq h' _ dx t1 ⟨fun b o hb e => k' b o hb (kk b o e), hx', ?_, dne, hns'⟩))
    have l1 : s.heap.objs.size < (h₂.push (methodObj (.ref f) (.ref x))).objs.size := ((hns.keeps k₂).keeps hlt).lt
    exact Nat.le_of_lt (Nat.lt_of_lt_of_le l1 dn)
theorem own_made0 (T : OwnTxt0 prog K D f C fI q) (X : K.In s.heap) (hg : s.heap.Ns mainGlobals mg) (hb : s.heap.Ns builtinsNs mb) (hbb : ∀ x : Str, x ≠ "__name__" → mb x = bootBuiltins x) (hlim : s.heap.NoLimit) (hroom : A.depth + 2 < recursionLimit)
    (hq : ∀ h' tk e d, OwnMade s.heap h' e C d (fun y => if y = "given" then some .none else none) → R (.ok (.ret (.ref e))) { s with heap := h', toks := tk }) :
    codeAny (model prog w) A (.call (.ref C) ⟨[], []⟩) R s := by
  obtain ⟨nm, qn, N, bs, bm, sn, sub, ab, col, dd, k0, k1, k2, k3, k5, hC, hbm⟩ := T.cl.cls
  obtain ⟨hp, g, dr, tk, os⟩ := s
  have k : ∀ b o, hp.get? b = some o → ((hp.push (kdv_tup [])).push (excO C hp.objs.size)).get? b = some o := fun b o e => Heap.get?_push_of_some _ (Heap.get?_push_of_some _ e)
  have hget : ((hp.push (kdv_tup [])).push (excO C hp.objs.size)).get? (hp.objs.size + 1) = some (excO C hp.objs.size) := by heap_get
  have hnx : K.lookup (hp.objs.size + 1) = none := by
    cases e : K.lookup (hp.objs.size + 1) with
    | none => rfl
    | some o => exact absurd (Nat.lt_of_succ_lt (Heap.lt_size (show hp.get? (hp.objs.size + 1) = some o from X _ _ e))) (Nat.lt_irrefl _)
  refine call_own F.excBase_ValueError (fun X => refsVE_contains X bm hbm) (X _ _ hC) (looks_findIn X T.iC) (fun self => bind_fn X self T.tI) (Nat.zero_le _) ?_
  refine own_init0 (s := ⟨(hp.push (kdv_tup [])).push (excO C hp.objs.size), g, dr, tk, os⟩) (mg := mg) (mb := mb) T (X.keeps k) (hg.keeps k) (hb.keeps k) hbb (hlim.keeps k) hget hnx ?_ fun h' tk' dx t1 ⟨k', hx, dn, dne, hns⟩ => ?_
  · show A.depth + 1 + 1 < recursionLimit
    exact hroom
  · have old : ∀ b o, hp.get? b = some o → h'.get? b = some o := fun b o e => k' b o (Nat.ne_of_lt (Nat.lt_succ_of_lt (Heap.lt_size e))) (k b o e)
    have z : hp.objs.size + 1 + 1 ≤ dx := by
      have q := dn
      rw [Heap.size_push, Heap.size_push] at q
      exact q
    exact ⟨rfl, hq h' tk' (hp.objs.size + 1) dx ⟨old, Nat.le_succ _, ⟨_, _, hx, rfl, rfl, rfl, rfl⟩, Nat.le_trans (Nat.le_trans (Nat.le_succ _) (Nat.le_succ _)) z, dne, hns⟩⟩
end
end EL
end PySem
end
section
set_option maxRecDepth 100000
set_option maxHeartbeats 2000000
/-! DL10: raise, try -/
namespace DL
open PySem PySem.Spec L2
/-! ### an error is made -/
/-- what is known of an error class that the text names x: it stands at C; made with one value it keeps it as given (one), or made with none (zero) -/
structure ErrAt (P : Program) (K : PySem.W.Frag) (mg : Str → Option Value) (x : Str) (C : Addr) : Prop where
  gl : mg x = some (.ref C)
  kp : PySem.W.keepIn K (.ref C) = true
  ex : PySem.W.subIn K (.ref C) (.type "BaseException") = some true
  ty : PySem.W.typeIn K (.ref C) = some (.type "type")
structure ErrOne (P : Program) (K : PySem.W.Frag) (mg : Str → Option Value) (x : Str) (C : Addr) : Prop extends ErrAt P K mg x C where
  one : ∃ D f, EL.PassTxt P K D f C
structure ErrNul (P : Program) (K : PySem.W.Frag) (mg : Str → Option Value) (x : Str) (C : Addr) : Prop extends ErrAt P K mg x C where
  nul : ∃ D f fI q, EL.OwnTxt0 P K D f C fI q
theorem relO_giv {v : V} {v' : Value} (r : RelV v v') (f : Str) : RelO (List.lookup f [(("given" : Str), v)]) (if f = "given" then some v' else none) := by
  by_cases h : f = "given"
  · subst h
    rw [if_pos rfl]
    have q : List.lookup ("given" : Str) [(("given" : Str), v)] = some v := by simp [List.lookup]
    rw [q]; exact r
  · have e : (f == ("given" : Str)) = false := by simpa using h
    have q : List.lookup f [(("given" : Str), v)] = none := by simp [List.lookup, e]
    rw [if_neg h, q]; trivial
section
variable {X : Cx} {W : WX}
theorem mkp_made {pins : List (Addr × Obj)} {σ : L2.St} {H : Hp} {Q : XK} {hp h' : Heap} {g : Array GenState} {dr : Drawn} {tk tk' : Nat} {os : OsState} {v : V} {v' : Value} {e C d : Addr} (I : Inv X pins σ H ⟨hp, g, dr, tk, os⟩) (rv : RelV v v')
    (M : EL.OwnMade hp h' e C d (fun y => if y = "given" then some v' else none)) (hr : Raises X (.ref C)) (q : ∀ d, H d = none → Q (.ref C) (some d) (upd H d (.xd [(("given" : Str), v)]))) : MkP X pins σ Q (.ref e) ⟨h', g, dr, tk', os⟩ := by
  obtain ⟨oe, fv, hoe, hc, hd, hdat, h1⟩ := M.obj
  obtain ⟨G', g1, g2⟩ := restrict h' fun b => decide (b ≠ e)
  have gk : ∀ b, b ≠ e → G'.get? b = h'.get? b := fun b hb => g1 b (decide_eq_true hb)
  have ge : G'.get? e = none := g2 e (by simp)
  have old : ∀ b o, hp.get? b = some o → G'.get? b = some o := fun b o q => (gk b (Nat.ne_of_lt (Nat.lt_of_lt_of_le (Heap.lt_size q) M.new))).trans (M.keep b o q)
  have ob : ObjOk X.prog X.w (upd H d (.xd [(("given" : Str), v)])) G' d (.xd [(("given" : Str), v)]) := ⟨_, M.ns.at (fun o q => (gk d M.dne).trans q), fun f => relO_giv rv f⟩
  have J : Inv X pins σ (upd H d (.xd [(("given" : Str), v)])) ⟨G', g, dr, tk', os⟩ := I.laid (t' := tk') old M.dbig ob
  refine ⟨e, oe, fv, ⟨G', g, dr, tk', os⟩, _, .ref C, some d, rfl, J, fun b o q => ?_, ge, hoe, ⟨hc, hd⟩, hdat, h1, ?_, rfl, I.bare, hr, q d (I.hok.fresh M.dbig)⟩
  · by_cases hb : b = e
    · have q' : G'.get? b = some o := q
      rw [hb, ge] at q'; cases q'
    · exact (gk b hb).symm.trans q
  · rw [upd_ne (Ne.symm M.dne)]
    exact I.hok.fresh M.new
/-- x(e) -/
theorem pmk_one {x : Str} {C : Addr} {a : Expr} {te : TE} {p pos : Pos} {k : Nat} (T : ErrOne X.prog X.K X.mg x C) (hr : Room (k + 1) X.A) (ha : PE X a te) (hg : Gl X x := by rfl) (hdb : (x == ("__debug__" : Str)) = false := by decide)
    (he : starEach (a :: []) X.env = (false, eval a X.env) :: starEach [] X.env := by rfl) :
    PMk X (.Call (.Name x p) [a] [] pos) (fun σ H Q => te σ H fun v H1 => ∀ d, H1 d = none → Q (.ref C) (some d) (upd H1 d (.xd [(("given" : Str), v)]))) := by
  intro pins s σ H Q I h
  refine wpAny_Call_Name_kw (ld_glob I hg T.gl ?_ hdb)
  refine PySem.W.callWith_K (h₀ := X.base) I.ok.mod.kin T.kp ?_ he (by rfl)
  rw [he]
  show wpAny _ _ (spliced ((false, eval a X.env) :: backTo pos (starEach [] X.env))) _ _ s
  refine Calls.spliced_cons (thn (ha.run pins s σ H _ I h) fun u s1 ⟨v, H1, I1, r1, q1⟩ => ?_)
  refine Calls.spliced_nil ⟨I1.kIn, ?_⟩
  show wpAny _ _ (call (.ref C) [u]) _ _ _
  have hlim := I1.nolimit
  obtain ⟨mb, hb1, hb2⟩ := I1.mod.blt
  have hbk := I1.bk
  have X1 := I1.kIn
  have hdp := hr.dp
  obtain ⟨hp, g, dr, tk, os⟩ := s1
  obtain ⟨D, f, T1⟩ := T.one
  refine wpAny_call (EL.pass_made T1 (mg := X.mg) (mb := mb) X1 (I1.mod.glob.keeps hbk) (hb1.keeps hbk) hb2 hlim (by omega) fun h' tk' e d M => ?_)
  exact mkp_made I1 r1 M (raises_own T.ex T.ty) q1
/-- x() -/
theorem pmk_nul {x : Str} {C : Addr} {p pos : Pos} {k : Nat} (T : ErrNul X.prog X.K X.mg x C) (hr : Room (k + 2) X.A) (hg : Gl X x := by rfl) (hdb : (x == ("__debug__" : Str)) = false := by decide) :
    PMk X (.Call (.Name x p) [] [] pos) (fun σ H Q => ∀ d, H d = none → Q (.ref C) (some d) (upd H d (.xd [(("given" : Str), .non)]))) := by
  intro pins s σ H Q I h
  refine wpAny_Call_Name_kw (ld_glob I hg T.gl ?_ hdb)
  refine PySem.W.callWith_K0 I.kIn T.kp ?_
  show wpAny _ _ (call (.ref C) []) _ _ _
  have hlim := I.nolimit
  obtain ⟨mb, hb1, hb2⟩ := I.mod.blt
  have hbk := I.bk
  have X1 := I.kIn
  have hdp := hr.dp
  obtain ⟨hp, g, dr, tk, os⟩ := s
  obtain ⟨D, f, fI, q, T1⟩ := T.nul
  refine wpAny_call (EL.own_made0 T1 (mg := X.mg) (mb := mb) X1 (I.mod.glob.keeps hbk) (hb1.keeps hbk) hb2 hlim (by omega) fun h' tk' e d M => ?_)
  exact mkp_made (v := .non) (v' := .none) I (show RelV .non .none from rfl) M (raises_own T.ex T.ty) h
/-! ### raise -/
def dRaise (C : Addr) (te : TEd) : TSd := fun D S => te S (fun d S' => D.ex ⟨C, [(("given" : Str), d)]⟩ S') D.ex
def dRaise0 (C : Addr) : TSd := fun D S => D.ex ⟨C, [(("given" : Str), .non)]⟩ S
theorem dst_raise {x : Str} {C : Addr} {a : Expr} {te : TEd} {p pos pos2 : Pos} {k : Nat} (hc : X.calm = true) (tk : Takes X W) (T : ErrOne X.prog X.K X.mg x C) (hr : Room (k + 1) X.A) (ha : DE X W a te) (hg : Gl X x := by rfl) (hdb : (x == ("__debug__" : Str)) = false := by decide)
    (he : starEach (a :: []) X.env = (false, eval a X.env) :: starEach [] X.env := by rfl) : DSt X W (.Raise (some (.Call (.Name x p) [a] [] pos)) none pos2) (dRaise C te) :=
  ⟨ps_imp (ps_raise hc tk (pmk_one T hr ha.pe hg hdb he)) fun E σ H ⟨S, ED, sr, k, q⟩ => ⟨S, _, ED.ex, sr, fun d S' v H' st sr' r qd dd hdd => k.ex ⟨C, [(("given" : Str), d)]⟩ σ _ S' _ _ (st.trans (.new hdd)) (sr'.mk2 (.new hdd) (sr'.m.new hdd)) ⟨rfl, dd, _, rfl, upd_same, rfl, .cons (r.stb (Stb.new hdd)) .nil⟩ qd, k.exo σ, q⟩⟩
theorem dst_raise0 {x : Str} {C : Addr} {p pos pos2 : Pos} {k : Nat} (hc : X.calm = true) (tk : Takes X W) (T : ErrNul X.prog X.K X.mg x C) (hr : Room (k + 2) X.A) (hg : Gl X x := by rfl) (hdb : (x == ("__debug__" : Str)) = false := by decide) :
    DSt X W (.Raise (some (.Call (.Name x p) [] [] pos)) none pos2) (dRaise0 C) :=
  ⟨ps_imp (ps_raise hc tk (pmk_nul T hr hg hdb)) fun E σ H ⟨S, ED, sr, k, q⟩ dd hdd => k.ex ⟨C, [(("given" : Str), .non)]⟩ σ _ S _ _ (.new hdd) (sr.mk2 (.new hdd) (sr.m.new hdd)) ⟨rfl, dd, _, rfl, upd_same, rfl, .cons .non .nil⟩ q⟩
end
end DL
end
section
set_option maxRecDepth 100000
set_option maxHeartbeats 4000000
/-! DL11: try with several clauses, with and without a name -/
namespace DL
open PySem PySem.Spec L2
open PyProof.Rows hiding St
/-- a clause: the class, the slot of its name, the suite's reading -/
structure Cl where
  c : Value
  o : Option Nat
  ts : Addr → Value → Option Addr → TS
def wEnds (i : Nat) (D : Ends) : Ends := { nx := fun σ' H' => D.nx (σ'.set i none) H', rt := D.rt, bk := fun σ' H' => D.bk (σ'.set i none) H', ct := fun σ' H' => D.ct (σ'.set i none) H' }
def wX (K : PySem.W.Frag) (Wout : WX) (D : Ends) : List Cl → WX
  | [] => Wout
  | ⟨c, none, ts⟩ :: r => fun cls d σ H => ∃ b, PySem.W.exmOne K cls c = some b ∧ (b = true → ∀ a, H a = none → ts a cls d D σ H) ∧ (b = false → wX K Wout D r cls d σ H)
  | ⟨c, some i, ts⟩ :: r => fun cls d σ H => ∃ b, PySem.W.exmOne K cls c = some b ∧ (b = true → ∀ a, H a = none → ts a cls d (wEnds i D) (σ.set i (some (.ref a))) H) ∧ (b = false → wX K Wout D r cls d σ H)
inductive HdsX (X : Cx) : List ExceptHandler → List Cl → Prop
  | nil : HdsX X [] []
  | bare {x : Str} {c : Value} {ts : Addr → Value → Option Addr → TS} {b₀ : Stmt} {suite : List Stmt} {np pos' : Pos} {hds : List ExceptHandler} {l : List Cl} (hc : Names X x c)
      (hsu : ∀ (a : Addr) (oe : Obj) (cls : Value) (d : Option Addr) (pn : List (Addr × Obj)), Zc cls d oe → (∃ vs, oe.data = .fields vs) → PSs (X.suite a ((a, oe) :: pn)) (b₀ :: suite) (ts a cls d)) (r : HdsX X hds l) :
      HdsX X (.ExceptHandler (some (.Name x np)) none (b₀ :: suite) pos' :: hds) (⟨c, none, ts⟩ :: l)
  | named {x n : Str} {c : Value} {i : Nat} {ts : Addr → Value → Option Addr → TS} {b₀ : Stmt} {suite : List Stmt} {np pos' : Pos} {hds : List ExceptHandler} {l : List Cl} (hc : Names X x c) (hN : X.N.Nodup) (hi : X.N[i]? = some n) (hln : X.env.kindOf n = some .local)
      (hsu : ∀ (a : Addr) (oe : Obj) (cls : Value) (d : Option Addr) (pn : List (Addr × Obj)), Zc cls d oe → (∃ vs, oe.data = .fields vs) → PSs (X.suite a ((a, oe) :: pn)) (b₀ :: suite) (ts a cls d)) (r : HdsX X hds l) :
      HdsX X (.ExceptHandler (some (.Name x np)) (some n) (b₀ :: suite) pos' :: hds) (⟨c, some i, ts⟩ :: l)
section
variable {X : Cx} {body : List Stmt} {h₀ : ExceptHandler} {hds : List ExceptHandler} {l : List Cl} {pos : Pos} {tb : WX → TS} {Wout : WX}
theorem ps_try_x (hs : X.stack = X.env :: X.outer) (hf : X.env.frame = some X.env.locals) (tk : Takes X Wout)
    (hb : ∀ (W : WX) (pn : List (Addr × Obj)) (xe : Value → Shared → Prop), Takes (X.tr pn xe) W → PassesOwn (model X.prog X.w) X.A X.env xe → PSs (X.tr pn xe) body (tb W))
    (hh : HdsX X (h₀ :: hds) l) : PS X (.Try body (h₀ :: hds) [] [] pos) (fun D σ H => tb (wX X.K Wout D l) D σ H) := by
  refine ⟨fun pins s σ H D I h => ?_⟩
  have ok := I.ok
  have hfr : X.A.frames = some (X.env :: X.outer) := by rw [ok.frames, hs]
  refine wpAny_Try_except ?_
  refine wpAny_mono ((hb (wX X.K Wout D l) (X.pn ++ pins) (fun e s₁ => wpAny (model X.prog X.w) X.A (noteFrame e X.env) (fun _ s₂ => wpAny (model X.prog X.w) X.A (setFlight e none) (fun _ s₃ =>
    wpAny (model X.prog X.w) X.A (handleBy e X.env (h₀ :: hds)) (SP X pins D) X.xe s₃) X.xe s₂) X.xe s₁) (fun u s' xx => ?_) PassesOwn.looking).run [] s σ H D (I.toTry _) h) (fun f s1 hsp => ?_) (fun e s1 he => he)
  · obtain ⟨a, B, sI, pins', σ', H', cls, d, rfl, J', nb, up, sky, na, os, ag, w⟩ := xx
    have J : Inv X pins σ' H' sI := J'.ofTry ok
    have sky' : Sky B (X.env :: X.outer) a (Zc cls d) X.env.locals s'.heap := by rw [← hs]; exact sky
    show wpAny (model X.prog X.w) X.A (noteFrame (.ref a) X.env) _ _ _
    refine Sky.land Zc.steady hfr hf sky' fun h3 fl3 up3 => ?_
    have J3 : Inv X pins σ' H' { s' with heap := h3 } := J.landed nb fl3.1 (up.trans up3) os ag
    obtain ⟨oe3, vs3, he3, hz3, hd3⟩ := fl3.there
    have nfr : a ∉ frs (X.env :: X.outer) := fun hm => by
      obtain ⟨_, o', e', hnf⟩ := fl3.2.2.1.mem hm
      rw [he3] at e'; cases e'
      exact hnf _ hd3
    have nL : a ≠ X.env.locals := fun z => nfr (List.mem_filterMap.mpr ⟨X.env, List.mem_cons_self, by rw [hf, z]⟩)
    have nF : a ∉ X.fs := fun hm => by
      obtain ⟨e, he, q⟩ := List.mem_filterMap.mp hm
      exact nfr (List.mem_filterMap.mpr ⟨e, List.mem_cons_of_mem _ he, q⟩)
    have S3 := J3.suite he3 hd3 na nL nF
    have LT : PySem.W.Looks (model X.prog X.w) h3 (typeOf (.ref a)) cls := fun A Q E s k q => wpAny_typeOf_ref (k _ _ he3) (by rw [hz3.1]; exact q)
    have go : ∀ {hds' : List ExceptHandler} {l' : List Cl}, HdsX X hds' l' → wX X.K Wout D l' cls d σ' H' →
        wpAny (model X.prog X.w) X.A (handleBy (.ref a) X.env hds') (SP X pins D) X.xe { s' with heap := h3 } := by
      intro hds' l' hk
      induction hk with
      | nil =>
        intro w
        refine wpAny_handleBy_nil ?_
        obtain ⟨k1, k2, k3, oe, vs, T, oT, ts', he, hz, hd, h1, hr⟩ := id fl3
        unfold PySem.passOn
        refine wpAny_bind (wpAny_field he hd h1 ?_)
        rw [if_neg (show ¬ ((Value.ref T == Value.none) = true) from by simp)]
        have fin : wpAny (model X.prog X.w) X.A (setFlight (.ref a) X.env.frame) (fun _ s4 => wpAny (model X.prog X.w) X.A (throw (.ref a) : Sem Flow) (SP X pins D) X.xe s4) X.xe { s' with heap := h3 } := by
          rw [hf]
          refine HandSPX.setFlight_upZ fl3 fun h4 hh4 up4 => wpAny_throw (tk _ _ ?_)
          exact ⟨a, B, sI, pins, σ', H', cls, d, rfl, J, nb, (up.trans up3).trans up4, .inr (.inr (by rw [hs]; exact hh4)), na, os, ag, w⟩
        first
          | exact wpAny_bind (wpAny_pure (wpAny_bind fin))
          | exact wpAny_bind fin
      | @bare x c ts b₀ suite np pos' hds2 l2 hc hsu r ih =>
        intro w
        obtain ⟨b, hb1, hyes, hno⟩ := w
        have LM := PySem.W.exm_one (M := model X.prog X.w) (J3.kIn) LT hb1
        refine wpAny_handleBy_cons (codeAny_handlers_test ?_) (by intro q; cases q)
        have test : ∀ {Q : Value → Shared → Prop} {E : Value → Shared → Prop}, Q c { s' with heap := h3 } → wpAny (model X.prog X.w) (X.A.mark (some (.ref a))) (eval (.Name x np) X.env) Q E { s' with heap := h3 } := fun {Q E} q => by
          obtain ⟨hg, hdbg, hm | ⟨hm, hv, hnn⟩⟩ := hc
          · exact ld_glob (X := X.suite a ((a, oe3) :: (X.pn ++ pins))) S3 hg hm q hdbg
          · exact ld_blt (X := X.suite a ((a, oe3) :: (X.pn ++ pins))) S3 hg hm hv q hnn hdbg
        refine test (LM.here ?_)
        cases b with
        | true =>
          refine codeAny_handlers_suite ?_
          refine HandSPX.lands_againZ fl3 fun h4 fl4 up4 => ?_
          have J4 : Inv X pins σ' H' { s' with heap := h4 } := J.landed nb fl4.1 ((up.trans up3).trans up4) os ag
          obtain ⟨oe4, vs4, he4, hz4, hd4⟩ := fl4.there
          have S4 := J4.suite he4 hd4 na nL nF
          refine wpAny_mono ((hsu a oe4 cls d (X.pn ++ pins) hz4 ⟨_, hd4⟩).run [] _ _ H' _ S4 (hyes rfl a na)) (fun f s6 hsp => ?_) (fun _ _ z => False.elim z)
          cases f with
          | next => obtain ⟨σ6, H6, S6, q6⟩ := hsp; exact ⟨_, _, S6.unsuite ok, q6⟩
          | brk => obtain ⟨σ6, H6, S6, q6⟩ := hsp; exact ⟨_, _, S6.unsuite ok, q6⟩
          | cont => obtain ⟨σ6, H6, S6, q6⟩ := hsp; exact ⟨_, _, S6.unsuite ok, q6⟩
          | ret u => obtain ⟨v6, σ6, H6, S6, r6, q6⟩ := hsp; exact ⟨_, _, _, S6.unsuite ok, r6, q6⟩
        | false =>
          show wpAny _ X.A (handleBy (.ref a) X.env hds2) _ _ _
          exact ih (hno rfl)
      | @named x n c i ts b₀ suite np pos' hds2 l2 hc hN hi hln hsu r ih =>
        intro w
        obtain ⟨b, hb1, hyes, hno⟩ := w
        have LM := PySem.W.exm_one (M := model X.prog X.w) (J3.kIn) LT hb1
        refine wpAny_handleBy_cons (codeAny_handlers_test ?_) (by intro q; cases q)
        have test : ∀ {Q : Value → Shared → Prop} {E : Value → Shared → Prop}, Q c { s' with heap := h3 } → wpAny (model X.prog X.w) (X.A.mark (some (.ref a))) (eval (.Name x np) X.env) Q E { s' with heap := h3 } := fun {Q E} q => by
          obtain ⟨hg, hdbg, hm | ⟨hm, hv, hnn⟩⟩ := hc
          · exact ld_glob (X := X.suite a ((a, oe3) :: (X.pn ++ pins))) S3 hg hm q hdbg
          · exact ld_blt (X := X.suite a ((a, oe3) :: (X.pn ++ pins))) S3 hg hm hv q hnn hdbg
        refine test (LM.here ?_)
        cases b with
        | true =>
          refine codeAny_handlers_suite_as ?_
          refine HandSPX.lands_againZ fl3 fun h4 fl4 up4 => ?_
          have J4 : Inv X pins σ' H' { s' with heap := h4 } := J.landed nb fl4.1 ((up.trans up3).trans up4) os ag
          obtain ⟨oe4, vs4, he4, hz4, hd4⟩ := fl4.there
          have S4 := J4.suite he4 hd4 na nL nF
          refine store_ok (X := X.suite a ((a, oe4) :: (X.pn ++ pins))) (v := .ref a) S4 hN hi (.inl hln) rfl (fun s5 S5 => ?_) (.inr hln)
          refine wpAny_mono ((hsu a oe4 cls d (X.pn ++ pins) hz4 ⟨_, hd4⟩).run [] s5 _ H' _ S5 (hyes rfl a na)) (fun f s6 hsp => ?_) (fun _ _ z => False.elim z)
          have end_ : ∀ {σ6 : L2.St} {H6 : Hp} {Q : Shared → Prop}, Inv (X.suite a ((a, oe4) :: (X.pn ++ pins))) [] σ6 H6 s6 → (∀ s7, Inv X pins (σ6.set i none) H6 s7 → Q s7) →
              wpAny (model X.prog X.w) X.A (do bindName X.env n .none; unbindBehindTheSuite X.env n pos') (fun _ s7 => Q s7) X.xe s6 := fun {σ6 H6 Q} S6 hq => gone_ok (S6.unsuite ok) hN hi hln hq
          cases f with
          | next => obtain ⟨σ6, H6, S6, q6⟩ := hsp; exact end_ S6 fun s7 J7 => ⟨_, _, J7, q6⟩
          | brk => obtain ⟨σ6, H6, S6, q6⟩ := hsp; exact end_ S6 fun s7 J7 => ⟨_, _, J7, q6⟩
          | cont => obtain ⟨σ6, H6, S6, q6⟩ := hsp; exact end_ S6 fun s7 J7 => ⟨_, _, J7, q6⟩
          | ret u => obtain ⟨v6, σ6, H6, S6, r6, q6⟩ := hsp; exact end_ S6 fun s7 J7 => ⟨_, _, _, J7, r6, q6⟩
        | false =>
          show wpAny _ X.A (handleBy (.ref a) X.env hds2) _ _ _
          exact ih (hno rfl)
    exact go hh w
  · cases f with
    | next => obtain ⟨σ', H', J', q⟩ := hsp; exact wpAny_execs_nil ⟨σ', H', J'.ofTry ok, q⟩
    | brk => obtain ⟨σ', H', J', q⟩ := hsp; exact ⟨σ', H', J'.ofTry ok, q⟩
    | cont => obtain ⟨σ', H', J', q⟩ := hsp; exact ⟨σ', H', J'.ofTry ok, q⟩
    | ret u => obtain ⟨v, σ', H', J', r, q⟩ := hsp; exact ⟨v, σ', H', J'.ofTry ok, r, q⟩
end
end DL
end
section
set_option maxRecDepth 100000
set_option maxHeartbeats 4000000
/-! DL12: try over data -/
namespace DL
open PySem PySem.Spec L2
/-- a clause: the class at c, the slot of its name, the suite (by the error's class, its address, its dict) -/
structure ClD where
  c : Addr
  o : Option Nat
  ts : Addr → Addr → Addr → TSd
def endsWipe (i : Nat) (ED : EndsD) : EndsD :=
  { nx := fun S => ED.nx ⟨S.τ.set i none, S.M⟩, rt := ED.rt, bk := fun S => ED.bk ⟨S.τ.set i none, S.M⟩, ct := fun S => ED.ct ⟨S.τ.set i none, S.M⟩, ex := fun _ _ => False }
def endsCalm (ED : EndsD) : EndsD := { ED with ex := fun _ _ => False }
def tryGo (K : PySem.W.Frag) (ED : EndsD) : List ClD → Er → DS → Prop
  | [], er, S => ED.ex er S
  | ⟨c, none, ts⟩ :: r, er, S => ∃ b, PySem.W.exmOne K (.ref er.C) (.ref c) = some b ∧ (b = true → ∀ a dd, ts er.C a dd (endsCalm ED) S) ∧ (b = false → tryGo K ED r er S)
  | ⟨c, some i, ts⟩ :: r, er, S => ∃ b, PySem.W.exmOne K (.ref er.C) (.ref c) = some b ∧ (b = true → ∀ a dd, ts er.C a dd (endsWipe i ED) ⟨S.τ.set i (some (.err er.C a dd er.fs)), S.M⟩) ∧ (b = false → tryGo K ED r er S)
def dTry (K : PySem.W.Frag) (tb : TSd) (l : List ClD) : TSd := fun ED S => tb { ED with ex := tryGo K ED l } S
def ClD.raw (K : PySem.W.Frag) (c : ClD) : Cl := ⟨.ref c.c, c.o, fun a cls d E σ H => ∃ C dd, cls = .ref C ∧ d = some dd ∧ liftS K W0 (c.ts C a dd) E σ H⟩
structure HdsD (X : Cx) (hds : List ExceptHandler) (l : List ClD) : Prop where
  h : HdsX X hds (l.map (ClD.raw X.K))
section
variable {X : Cx} {W : WX}
theorem hd_nil : HdsD X [] [] := ⟨.nil⟩
theorem suite_raw {ts : Addr → Addr → Addr → TSd} {b₀ : Stmt} {suite : List Stmt} (h : ∀ (C a dd : Addr) (oe : Obj) (pn : List (Addr × Obj)), Zc (.ref C) (some dd) oe → (∃ vs, oe.data = .fields vs) → DSs (X.suite a ((a, oe) :: pn)) W0 (b₀ :: suite) (ts C a dd))
    (a : Addr) (oe : Obj) (cls : Value) (d : Option Addr) (pn : List (Addr × Obj)) (hz : Zc cls d oe) (hf : ∃ vs, oe.data = .fields vs) : PSs (X.suite a ((a, oe) :: pn)) (b₀ :: suite) (fun E σ H => ∃ C dd, cls = .ref C ∧ d = some dd ∧ liftS X.K W0 (ts C a dd) E σ H) := by
  refine ⟨fun pins s σ H D I ⟨C, dd, e1, e2, q⟩ => ?_⟩
  subst e1 e2
  exact (h C a dd oe pn hz hf).pss.run pins s σ H D I q
theorem hd_bare {x : Str} {c : Addr} {ts : Addr → Addr → Addr → TSd} {b₀ : Stmt} {suite : List Stmt} {np pos' : Pos} {hds : List ExceptHandler} {l : List ClD} (hg : Gl X x) (hm : X.mg x = some (.ref c))
    (hsu : ∀ (C a dd : Addr) (oe : Obj) (pn : List (Addr × Obj)), Zc (.ref C) (some dd) oe → (∃ vs, oe.data = .fields vs) → DSs (X.suite a ((a, oe) :: pn)) W0 (b₀ :: suite) (ts C a dd)) (r : HdsD X hds l) (hd : (x == ("__debug__" : Str)) = false := by decide) :
    HdsD X (.ExceptHandler (some (.Name x np)) none (b₀ :: suite) pos' :: hds) (⟨c, none, ts⟩ :: l) := ⟨.bare ⟨hg, hd, .inl hm⟩ (suite_raw hsu) r.h⟩
theorem hd_as {x n : Str} {c : Addr} {i : Nat} {ts : Addr → Addr → Addr → TSd} {b₀ : Stmt} {suite : List Stmt} {np pos' : Pos} {hds : List ExceptHandler} {l : List ClD} (hg : Gl X x) (hm : X.mg x = some (.ref c)) (hN : X.N.Nodup) (hi : X.N[i]? = some n) (hln : X.env.kindOf n = some .local)
    (hsu : ∀ (C a dd : Addr) (oe : Obj) (pn : List (Addr × Obj)), Zc (.ref C) (some dd) oe → (∃ vs, oe.data = .fields vs) → DSs (X.suite a ((a, oe) :: pn)) W0 (b₀ :: suite) (ts C a dd)) (r : HdsD X hds l) (hd : (x == ("__debug__" : Str)) = false := by decide) :
    HdsD X (.ExceptHandler (some (.Name x np)) (some n) (b₀ :: suite) pos' :: hds) (⟨c, some i, ts⟩ :: l) := ⟨.named ⟨hg, hd, .inl hm⟩ hN hi hln (suite_raw hsu) r.h⟩
theorem ends_calm {K : PySem.W.Frag} {H : Hp} {M : Mst} {E : Ends} {ED : EndsD} (k : EndsOk K W H M E ED) : EndsOk K W0 H M E (endsCalm ED) := ⟨k.nx, k.rt, k.bk, k.ct, fun _ _ _ _ _ _ _ _ _ z => z⟩
theorem ends_wipe {K : PySem.W.Frag} {H : Hp} {M : Mst} {E : Ends} {ED : EndsD} (i : Nat) (k : EndsOk K W H M E ED) : EndsOk K W0 H M (wEnds i E) (endsWipe i ED) :=
  ⟨fun σ H' S e sr q => k.nx _ H' ⟨S.τ.set i none, S.M⟩ e (sr.wipe i) q, k.rt, fun σ H' S e sr q => k.bk _ H' ⟨S.τ.set i none, S.M⟩ e (sr.wipe i) q, fun σ H' S e sr q => k.ct _ H' ⟨S.τ.set i none, S.M⟩ e (sr.wipe i) q, fun _ _ _ _ _ _ _ _ _ z => z⟩
theorem try_lift {K : PySem.W.Frag} {H : Hp} {M : Mst} {E : Ends} {ED : EndsD} (k : EndsOk K W H M E ED) : ∀ {l : List ClD} {er : Er} {σ : L2.St} {H' : Hp} {S : DS} {cls : Value} {d : Option Addr}, Ext H M H' S.M → SR K σ H' S → ErOk K H' cls d er → tryGo K ED l er S → wX K W E (l.map (ClD.raw K)) cls d σ H'
  | [], er, σ, H', S, cls, d, e, sr, eo, q => k.ex er σ H' S cls d e sr eo q
  | ⟨c, none, ts⟩ :: r, er, σ, H', S, cls, d, e, sr, eo, ⟨b, hb, q1, q2⟩ => by
    have ec := eo.1
    subst ec
    obtain ⟨_, dd, fv, rfl, hd, hn, hr⟩ := id eo
    exact ⟨b, hb, fun h a _ => ⟨er.C, dd, rfl, rfl, S, _, sr, ends_calm (k.later e), q1 h a dd⟩, fun h => try_lift k e sr eo (q2 h)⟩
  | ⟨c, some i, ts⟩ :: r, er, σ, H', S, cls, d, e, sr, eo, ⟨b, hb, q1, q2⟩ => by
    have ec := eo.1
    subst ec
    obtain ⟨_, dd, fv, rfl, hd, hn, hr⟩ := id eo
    exact ⟨b, hb, fun h a _ => ⟨er.C, dd, rfl, rfl, ⟨S.τ.set i (some (.err er.C a dd er.fs)), S.M⟩, _, sr.set (.err hd hn hr), ends_wipe i (k.later e), q1 h a dd⟩, fun h => try_lift k e sr eo (q2 h)⟩
theorem dst_try {body : List Stmt} {h₀ : ExceptHandler} {hds : List ExceptHandler} {l : List ClD} {pos : Pos} {tb : TSd} (hs : X.stack = X.env :: X.outer) (hf : X.env.frame = some X.env.locals) (tk : Takes X W)
    (hb : ∀ (W' : WX) (pn : List (Addr × Obj)) (xe : Value → Shared → Prop), Takes (X.tr pn xe) W' → PassesOwn (model X.prog X.w) X.A X.env xe → DSs (X.tr pn xe) W' body tb) (hh : HdsD X (h₀ :: hds) l) :
    DSt X W (.Try body (h₀ :: hds) [] [] pos) (dTry X.K tb l) :=
  ⟨ps_imp (ps_try_x (tb := fun W' => liftS X.K W' tb) hs hf tk (fun W' pn xe t po => (hb W' pn xe t po).pss) hh.h) fun E σ H ⟨S, ED, sr, k, q⟩ =>
    ⟨S, { ED with ex := tryGo X.K ED l }, sr, ⟨k.nx, k.rt, k.bk, k.ct, fun er σ' H' S' cls d e sr' eo q' => try_lift k e sr' eo q'⟩, q⟩⟩
/-- e.n, e the error that the suite holds -/
def dXf (K : PySem.W.Frag) (C a dd : Addr) (n : Str) (te : TEd) : TEd := fun S Q E => te S (fun v S' => (XfC K C ∧ PySem.W.findIn K (.ref C) n = some none) ∧ (match v with
  | .err C' a' dd' fs => (C' = C ∧ a' = a ∧ dd' = dd) ∧ (match fs.lookup n with
    | some d => Q d S'
    | none => False)
  | _ => False)) E
theorem look_reps {K : PySem.W.Frag} {H : Hp} {n : Str} : ∀ {fv : List (Str × V)} {fs : List (Str × D)} {d : D}, fv.map (·.1) = fs.map (·.1) → Reps K H (fv.map (·.2)) (fs.map (·.2)) → fs.lookup n = some d → ∃ v, fv.lookup n = some v ∧ Rep K H v d
  | [], [], _, _, _, h => by cases h
  | [], _ :: _, _, e, _, _ => by cases e
  | _ :: _, [], _, e, _, _ => by cases e
  | (m, v) :: fv, (m', d') :: fs, d, e, r, h => by
    have e1 : m = m' ∧ fv.map (·.1) = fs.map (·.1) := by simpa using e
    obtain ⟨rfl, e2⟩ := e1
    cases r with
    | cons r1 r2 =>
      by_cases hn : n = m
      · subst hn
        have : d' = d := by simpa [List.lookup] using h
        subst this
        exact ⟨v, by simp [List.lookup], r1⟩
      · have hb : (n == m) = false := by simpa using hn
        have h' : fs.lookup n = some d := by simpa [List.lookup, hb] using h
        obtain ⟨w, a, b⟩ := look_reps e2 r2 h'
        exact ⟨w, by simpa [List.lookup, hb] using a, b⟩
theorem de_xf {a C dd : Addr} {oe : Obj} {pn : List (Addr × Obj)} {e : Expr} {te : TEd} {pos : Pos} {n : Str} (hz : Zc (.ref C) (some dd) oe) (hf : ∃ vs, oe.data = .fields vs) (he : DE (X.suite a ((a, oe) :: pn)) W0 e te) (hb : attributeBase e n X.env (eval e X.env) = eval e X.env := by rfl) :
    DE (X.suite a ((a, oe) :: pn)) W0 (.Attribute e n pos) (dXf X.K C a dd n te) := by
  refine ⟨⟨fun pins s σ H Q I ⟨S, Qd, Ed, sr, k, x, q⟩ => ?_⟩⟩
  refine attr_of hb (thn (he.pe.run pins s σ H (fun v H1 => ∃ d S' , SR X.K σ H1 S' ∧ Ext H S.M H1 S'.M ∧ Rep X.K H1 v d ∧ _) I ⟨S, _, Ed, sr, fun d S' v H' st sr' r qd => ⟨d, S', sr', st, r, qd⟩, x, q⟩) fun u s1 hh => ?_)
  obtain ⟨v, H1, I1, rx, d, S', sr', st, r, ⟨T, hno⟩, q'⟩ := hh
  cases d <;> first | exact (show False from q').elim | skip
  rename_i C' a' dd' fs
  obtain ⟨⟨e1, e2, e3⟩, q'⟩ := q'
  subst e1 e2 e3
  cases r with
  | err h hn rr =>
    cases hl : fs.lookup n with
    | none => rw [hl] at q'; exact q'.elim
    | some dv =>
      rw [hl] at q'
      obtain ⟨w, hw, rw_⟩ := look_reps hn rr hl
      obtain rfl : u = Value.ref _ := rx
      obtain ⟨ha, _⟩ := I1.pin (_, oe) (List.mem_append_left _ List.mem_cons_self)
      obtain ⟨vs, hd⟩ := hf
      obtain ⟨mA, hns, hr⟩ := (show ObjOk X.prog X.w H1 s1.heap dd' (.xd _) from I1.hok dd' _ h)
      obtain ⟨od, ho, hlk⟩ := lookIn_ns hns
      obtain ⟨uv, hu, ru⟩ := RelO.some_of (v := w) (o := mA n) (by rw [← hw]; exact hr n)
      have J : PySem.W.InstAt s1.heap a' oe C' (some od) := ⟨ha, hz.1, by unfold PySem.W.notCls; rw [hd] <;> rfl, by rw [hz.2]; exact ho⟩
      exact HandSPX.exc_get I1.kIn J T.ga T.gg T.exC (PySem.W.findObj_own T.hdC hno rfl (by rw [hlk, hu])) (handed_of ru) ⟨w, H1, I1.tok _, ru, k _ S' w H1 st sr' rw_ q'⟩
end
end DL
end
section
set_option maxRecDepth 100000
set_option maxHeartbeats 2000000
/-! DL13: more operations; dicts; keyword calls; boxes opened -/
namespace DL
open PySem PySem.Spec L2
section
variable {K : PySem.W.Frag}
/-! ### ints, truth values, texts -/
def oPowI : O2 := fun x y M Q => match x, y with
  | .int i, .int j => (0 ≤ j ∧ j ≤ 1000000 ∧ i.natAbs < 2 ^ 64) ∧ Q (.int (i ^ j.toNat)) M
  | _, _ => False
theorem opl_pow : OpL K (rI CPow fun i j => .int (i ^ j.toNat)) oPowI := opl_int (gd := fun i j => .int (i ^ j.toNat)) (fun _ _ _ => .int _) fun x y M Q o => by
  cases x <;> cases y <;> first | exact ⟨_, _, rfl, rfl, o⟩ | exact o.elim
def bI (b : Bool) : Int := if b = true then 1 else 0
def rBB (g : Bool → Bool → Int) : R2 := fun x y H Q => ∃ a b, x = V.bl a ∧ y = V.bl b ∧ Q (.int (g a b)) H
theorem op_subB {X : Cx} : OpR X (binaryOp .Sub) (rBB fun a b => bI a - bI b) := by
  intro pins s σ H x y v u Q I rx ry h
  obtain ⟨a, b, rfl, rfl, q⟩ := h
  cases rx
  cases ry
  exact PyProof.Rows.sub_bool ⟨.int (bI a - bI b), H, I.tok _, ⟨_, rfl⟩, q⟩
def oSubB : O2 := fun x y M Q => match x, y with
  | .bl a, .bl b => Q (.int (bI a - bI b)) M
  | _, _ => False
theorem opl_subB : OpL K (rBB fun a b => bI a - bI b) oSubB := fun x y H M d1 d2 Q Qd r1 r2 m o k => by
  cases d1 <;> cases d2 <;> first | exact o.elim | skip
  exact ⟨_, _, rep_bl r1, rep_bl r2, k _ H _ M (.refl H M) m (.int _) o⟩
def cStr : OC := fun ds M Q => match ds with
  | [.int i] => szI 1900 i ∧ Q (.str (toString i)) M
  | _ => False
theorem oplc_str : OpLC K (fun xs H Q => ∃ i, xs = [.int i] ∧ i.natAbs.log2 < 1920 ∧ Q (.str (toString i)) H) cStr := fun vs H M ds Q Qd r m o k => by
  match ds, o with
  | [.int i], o =>
    obtain ⟨v, rfl, r1⟩ := reps1 r
    rw [rep_int r1]
    have h := szI.log o.1 (by decide)
    exact ⟨i, rfl, by omega, k _ H _ M (.refl H M) m (.str _) o.2⟩
/-! ### in, not in of flat items -/
def D.fv : D → Option V
  | .non => some .non
  | .bl b => some (.bl b)
  | .int i => some (.int i)
  | .str z => some (.str z)
  | _ => none
def fvs : List D → Option (List V)
  | [] => some []
  | d :: r => match d.fv, fvs r with
    | some v, some vs => some (v :: vs)
    | _, _ => none
theorem fv_rep {H : Hp} {v w : V} {d : D} (r : Rep K H v d) (h : d.fv = some w) : v = w ∧ flatV w = true := by
  cases r <;> first | (cases h; exact ⟨rfl, rfl⟩) | cases h
theorem fvs_rep {H : Hp} : ∀ {vs : List V} {ds : List D} {ws : List V}, Reps K H vs ds → fvs ds = some ws → vs = ws ∧ ws.all flatV = true
  | _, _, _, .nil, h => by cases h; exact ⟨rfl, rfl⟩
  | _, _, _, .cons r t, h => by
    unfold fvs at h
    split at h
    · rename_i v vs e1 e2
      cases h
      obtain ⟨rfl, f1⟩ := fv_rep r e1
      obtain ⟨rfl, f2⟩ := fvs_rep t e2
      exact ⟨rfl, by rw [List.all_cons, f1, f2]; rfl⟩
    · cases h
def inD (neg : Bool) (x : D) (l : List D) (Q : D → Prop) : Prop := match x.fv, fvs l with
  | some v, some vs => Q (.bl (if neg then !inV v vs else inV v vs))
  | _, _ => False
def oInS (neg : Bool) : O2 := fun x y M Q => match y with
  | .tup l => inD neg x l fun d => Q d M
  | .lst l => inD neg x l fun d => Q d M
  | _ => False
abbrev oIn : O2 := oInS false
abbrev oNotIn : O2 := oInS true
theorem opl_inS {neg : Bool} : OpL K (rIn K neg) (oInS neg) := fun x y H M d1 d2 Q Qd r1 r2 m o k => by
  have fin : ∀ (l : List D) (xs : List V) (p : Addr), Reps K H xs l → (SqL K H p xs ∨ SqT K H p xs) → inD neg d1 l (fun d => Qd d M) → rIn K neg x (.ref p) H Q := fun l xs p rr hq o => by
    unfold inD at o
    split at o
    · rename_i v vs e1 e2
      obtain ⟨rfl, f1⟩ := fv_rep r1 e1
      obtain ⟨rfl, f2⟩ := fvs_rep rr e2
      exact ⟨p, _, rfl, hq, f1, f2, k _ H _ M (.refl H M) m (.bl _) o⟩
    · exact o.elim
  cases d2 <;> first | exact (show False from o).elim | skip
  · cases r2 with
    | tup hq rr => exact fin _ _ _ rr (.inr hq) o
  · cases r2 with
    | lst hq rr => exact fin _ _ _ rr (.inl hq.sq) o
theorem opl_in : OpL K (rIn K false) oIn := opl_inS
theorem opl_notIn : OpL K (rIn K true) oNotIn := opl_inS
end

/-! ### calls by name alone -/
section
variable {X : Cx} {W : WX} {e : Expr} {te : TEd} {pos p kpos : Pos} {x : Str} {st : Stmt} {ps ks : List Str} {k : Nat} {sp : SpD} {kws : List Keyword} {t : TAd} {nm : Option Str}
structure DK (X : Cx) (W : WX) (kws : List Keyword) (t : TAd) : Prop where
  pk : PK X kws (liftA X.K W t)
theorem pk_imp {t t' : TA} (h : PK X kws t) (k : ∀ σ H Q, t' σ H Q → t σ H Q) : PK X kws t' := ⟨fun pos pins s σ H Q I q => h.run pos pins s σ H Q I (k σ H Q q)⟩
theorem dk_nil : DK X W [] dNil := ⟨pk_imp pk_nil fun σ H Q ⟨S, Qd, Ed, sr, k, x, q⟩ => k [] S [] H (.refl H _) sr .nil q⟩
theorem dk_cons (ha : DE X W e te) (hr : DK X W kws t) : DK X W (⟨nm, e, kpos⟩ :: kws) (dCons te t) :=
  ⟨pk_imp (pk_cons ha.pe hr.pk) fun σ H Q ⟨S, Qd, Ed, sr, k, x, q⟩ => by
    refine ⟨S, _, Ed, sr, fun d1 S1 v1 H1 st1 sr1 r1 q1 => ?_, x, q⟩
    exact ⟨S1, _, Ed, sr1, fun ds S2 vs H2 st2 sr2 rs q2 => k _ S2 _ H2 (st1.trans st2) sr2 (.cons (r1.stb (st2.stb sr1.m)) rs) q2, x.later st1, q1⟩⟩
/-- a list put in the parameters' order -/
def pick {α : Type} : List Nat → List α → List α
  | [], _ => []
  | i :: r, l => match l[i]? with
    | some x => x :: pick r l
    | none => pick r l
theorem pick_rel {α β : Type} {R : α → β → Prop} : ∀ (is : List Nat) {xs : List α} {ys : List β}, Paired R xs ys → Paired R (pick is xs) (pick is ys)
  | [], _, _, _ => .nil
  | i :: is, xs, ys, r => by
    unfold pick
    have g : (∃ x y, xs[i]? = some x ∧ ys[i]? = some y ∧ R x y) ∨ (xs[i]? = none ∧ ys[i]? = none) := by
      induction r generalizing i with
      | nil => exact .inr ⟨rfl, rfl⟩
      | @cons a b as bs h t ih =>
        cases i with
        | zero => exact .inl ⟨a, b, rfl, rfl, h⟩
        | succ i => simpa using ih i
    rcases g with ⟨x, y, e1, e2, h⟩ | ⟨e1, e2⟩
    · rw [e1, e2]; exact .cons h (pick_rel is r)
    · rw [e1, e2]; exact pick_rel is r
def dCallK (sp : SpD) (is : List Nat) (t : TAd) : TEd := fun S Q E => t S (fun ds S1 => ds.length = is.length ∧ sp (pick is ds) S1.M (fun d M' => Q d ⟨S1.τ, M'⟩) fun er M' => E er ⟨S1.τ, M'⟩) E
def KwBind (x : Str) (st : Stmt) (ps ks : List Str) (is : List Nat) : Prop := ∀ (kV doc pm : Value) (an : Option Addr) (cdv ct : Value) (ws : List Value), ws.length = ks.length →
  bindArgs (PySem.W.fnOf x x (defArgs st) (defBody st) (defScope st) .none kV doc pm an cdv ct) ⟨[], ks.zip ws⟩ = pure (ps.zip (pick is ws))
theorem de_callKw (is : List Nat) (tk : Takes X W) (F : FD X.prog X.w X.K X.mg X.base x st ps k sp) (hr : Room k X.A) (ha : DK X W kws t) (kb : KwBind x st ps ks is) (hn : is.length = ks.length := by rfl) (hg : Gl X x := by rfl)
    (hall : (backToKw pos (keywordEach kws X.env)).all (·.1.isSome) = true := by rfl) (hks : (backToKw pos (keywordEach kws X.env)).filterMap (·.1) = ks := by rfl)
    (hdb : (x == ("__debug__" : Str)) = false := by decide) (hpl : ((backTo pos (starEach [] X.env)).any (·.1) || (backToKw pos (keywordEach kws X.env)).any (·.1.isNone)) = false := by rfl) :
    DE X W (.Call (.Name x p) [] kws pos) (dCallK sp is t) := by
  obtain ⟨f, fd, F1, F2, F3, F4⟩ := F.ex
  refine ⟨⟨fun pins s σ H Q I h => ?_⟩⟩
  obtain ⟨S, Qd, Ed, sr, kq, xo, q⟩ := h
  refine wpAny_Call_Name_kw (ld_glob I hg F3 ?_ hdb)
  refine PySem.W.callWith_KW0 (h₀ := X.base) I.ok.mod.kin F2.kp hall ?_ hpl
  refine thn (ha.pk.run pos pins s σ H (fun vs H1 => ∃ ds S1, Ext H S.M H1 S1.M ∧ SR X.K σ H1 S1 ∧ Reps X.K H1 vs ds ∧ ds.length = is.length ∧ sp (pick is ds) S1.M (fun d M' => Qd d ⟨S1.τ, M'⟩) fun er M' => Ed er ⟨S1.τ, M'⟩) I
    ⟨S, _, Ed, sr, fun ds S1 vs H1 st1 sr1 rs q1 => ⟨ds, S1, st1, sr1, rs, q1.1, q1.2⟩, xo, q⟩) fun ws s1 hh => ?_
  · obtain ⟨vs, H1, I1, rv, ds, S1, st1, sr1, rs, hd, q1⟩ := hh
    refine ⟨I1.kIn, ?_⟩
    rw [hks]
    have hq : liftSp X.K sp (pick is vs) H1 Q (WE W σ) := ⟨pick is ds, S1.M, _, _, pick_rel is rs, sr1.m, fun d M' v H' st m r q => kq d _ v H' (st1.trans st) (sr1.mk2 st m) r q, fun er M' cls d H' st m eo q => xo.ex er _ cls d H' (st1.trans st) (sr1.mk2 st m) eo q, q1⟩
    have hlw : ws.length = ks.length := by rw [← rv.length, rs.length, hd, hn]
    have b : BindsTo s1 fd ⟨[], ks.zip ws⟩ (ps.zip (pick is ws)) := by
      obtain ⟨oc, od, dV, kV, doc, pm, an, cdv, ct, osl, rfl, lk, hcd, hD, hK⟩ := F2.ex
      rcases hD with ⟨_, rfl⟩ | ⟨e, _⟩
      · exact .of_eq (kb kV doc pm an cdv ct ws hlw)
      · exact absurd rfl e
    have r2 : Vals (pick is vs) (pick is ws) := pick_rel is rv
    show wpAny _ _ (call (.ref f) ([] ++ []) (ks.zip ws)) _ _ _
    refine wpAny_call (codeAny_mono (F1.run X.A X.stack s1 H1 ⟨[], ks.zip ws⟩ (pick is ws) (pick is vs) Q (WE W σ) hr I1.env0 b r2 hq) fun r s' hq => ?_)
    cases r with
    | error e => exact passAt tk σ pins H1 s1 e s' I1 hq
    | ok fl =>
      cases fl with
      | ret u => exact I1.after hq
      | next => exact False.elim hq
      | brk => exact False.elim hq
      | cont => exact False.elim hq
end

/-! ### a law's box, opened: its list is seen -/
theorem FD.box {P : Program} {w : World} {K : PySem.W.Frag} {mg : Str → Option Value} {base : Heap} {x : Str} {st : Stmt} {ps : List Str} {k : Nat} {sp : SpD} (F : FD P w K mg base x st ps k sp) :
    FD P w K mg base x st ps k (fun ds M Q E => ∃ a b, M a = some (.box b) ∧ ∀ g s m c, BoxV b g m c → sp ds (updM M a (.lst [.int g, .bl s, .int m, .int c])) Q E) := by
  obtain ⟨f, fd, a, b, c, d⟩ := F.ex
  refine ⟨f, fd, a.imp fun vs H Q E ⟨ds, M, Qd, Ed, h1, h2, h3, h4, p, n, hp, h5⟩ => ?_, b, c, d⟩
  obtain ⟨g, s, m, cc, hx, hb⟩ := h2 p _ hp
  have ex : ∀ {H' M'}, Ext H (updM M p (.lst [.int g, .bl s, .int m, .int cc])) H' M' → Ext H M H' M' := fun e => ⟨fun a o ho hm => e.keep a o ho (by
    rw [updM_ne (fun z => by subst z; rw [hp] at hm; cases hm)]; exact hm), e.dom⟩
  refine ⟨ds, _, Qd, Ed, h1, fun a c e => ?_, fun d M' v H' e => h3 d M' v H' (ex e), fun er M' cls d H' e => h4 er M' cls d H' (ex e), h5 g s m cc hb⟩
  by_cases q : a = p
  · subst q; rw [updM_same] at e; cases e; exact ⟨_, hx, .cons (.int _) (.cons (.bl _) (.cons (.int _) (.cons (.int _) .nil)))⟩
  · rw [updM_ne q] at e; exact h2 a c e
end DL
end
section
set_option maxRecDepth 100000
set_option maxHeartbeats 2000000
/-! DL14: dicts -/
namespace DL
open PySem PySem.Spec L2
/-! ### what bears no dict that stands -/
mutual
def D.nd : D → Bool
  | .dct _ => false
  | .tup l => ndL l
  | .lst l => ndL l
  | .err _ _ _ fs => ndF fs
  | _ => true
def ndL : List D → Bool
  | [] => true
  | d :: r => d.nd && ndL r
def ndF : List (Str × D) → Bool
  | [] => true
  | d :: r => d.2.nd && ndF r
end
def ndK : List (Key × D) → Bool
  | [] => true
  | d :: r => d.2.nd && ndK r
def Cell.nd : Cell → Bool
  | .lst l => ndL l
  | .dct l => ndK l
  | .box _ => true
  | .ins _ _ fs => ndF fs
def NDM (M : Mst) : Prop := ∀ a c, M a = some c → c.nd = true
theorem NDM.upd {M : Mst} {a : Addr} {c : Cell} (h : NDM M) (hc : c.nd = true) : NDM (updM M a c) := fun b d e => by
  by_cases q : b = a
  · subst q; rw [updM_same] at e; cases e; exact hc
  · rw [updM_ne q] at e; exact h b d e
theorem NDM.del {M : Mst} {a : Addr} (h : NDM M) : NDM (delM M a) := fun b d e => by
  by_cases q : b = a
  · subst q; rw [delM_same] at e; cases e
  · rw [delM_ne q] at e; exact h b d e
theorem and2 {a b : Bool} (h : (a && b) = true) : a = true ∧ b = true := Bool.and_eq_true_iff.mp h
section
variable {K : PySem.W.Frag} {H : Hp} {p : Addr} {o : Obj} {ks : List (Key × V)}
theorem SqT.unl {a : Addr} {xs : List V} (hp : H p = some (.frz o (.dK ks))) (h : SqT K H a xs) : SqT K (upd H p (.dK ks)) a xs := by
  rcases h with (h | ⟨o', h⟩) | h
  · exact .inl (.inl (by rw [upd_ne (fun z => by subst z; rw [hp] at h; cases h)]; exact h))
  · exact .inl (.inr ⟨o', by rw [upd_ne (fun z => by subst z; rw [hp] at h; cases h)]; exact h⟩)
  · exact .inr h
theorem StL.unl {a : Addr} {xs : List V} (hp : H p = some (.frz o (.dK ks))) (h : StL K H a xs) : StL K (upd H p (.dK ks)) a xs := by
  obtain ⟨o', h⟩ := h
  exact ⟨o', by rw [upd_ne (fun z => by subst z; rw [hp] at h; cases h)]; exact h⟩
theorem StScr.unl {a : Addr} {xs : List V} (hp : H p = some (.frz o (.dK ks))) (h : StScr K H a xs) : StScr K (upd H p (.dK ks)) a xs := by
  rcases h with ⟨o', h⟩ | h
  · exact .inl ⟨o', by rw [upd_ne (fun z => by subst z; rw [hp] at h; cases h)]; exact h⟩
  · exact .inr h
theorem ndF_snd : ∀ {fs : List (Str × D)}, ndF fs = true → ndL (fs.map (·.2)) = true
  | [], _ => rfl
  | _ :: _, h => by
    unfold ndF at h
    obtain ⟨h1, h2⟩ := and2 h
    show (_ && _) = true
    rw [h1, Bool.true_and]
    exact ndF_snd h2
theorem ndK_snd : ∀ {fs : List (Key × D)}, ndK fs = true → ndL (fs.map (·.2)) = true
  | [], _ => rfl
  | _ :: _, h => by
    unfold ndK at h
    obtain ⟨h1, h2⟩ := and2 h
    show (_ && _) = true
    rw [h1, Bool.true_and]
    exact ndK_snd h2
mutual
theorem Rep.unl (hp : H p = some (.frz o (.dK ks))) : ∀ {v : V} {d : D}, Rep K H v d → d.nd = true → Rep K (upd H p (.dK ks)) v d
  | _, _, .non, _ => .non
  | _, _, .bl b, _ => .bl b
  | _, _, .int i, _ => .int i
  | _, _, .str s, _ => .str s
  | _, _, .tup h r, n => .tup (SqT.unl hp h) (Reps.unl hp r (by unfold D.nd at n; exact n))
  | _, _, .lst h r, n => .lst (StL.unl hp h) (Reps.unl hp r (by unfold D.nd at n; exact n))
  | _, _, .dct _ _ _, n => by unfold D.nd at n; cases n
  | _, _, .ref a, _ => .ref a
  | _, _, .scr h, _ => .scr (StScr.unl hp h)
  | _, _, .err h q r, n => .err (by rw [upd_ne (fun z => by subst z; rw [hp] at h; cases h)]; exact h) q (Reps.unl hp r (by unfold D.nd at n; exact ndF_snd n))
theorem Reps.unl (hp : H p = some (.frz o (.dK ks))) : ∀ {vs : List V} {ds : List D}, Reps K H vs ds → ndL ds = true → Reps K (upd H p (.dK ks)) vs ds
  | _, _, .nil, _ => .nil
  | _, _, .cons r t, n => by
    unfold ndL at n
    obtain ⟨n1, n2⟩ := and2 n
    exact .cons (Rep.unl hp r n1) (Reps.unl hp t n2)
end
theorem CellOk.unl {a : Addr} {c : Cell} (hp : H p = some (.frz o (.dK ks))) (ha : a ≠ p) (h : CellOk K H a c) (n : c.nd = true) : CellOk K (upd H p (.dK ks)) a c := by
  cases c with
  | lst ds => obtain ⟨xs, h, r⟩ := h; exact ⟨xs, by rw [upd_ne ha]; exact h, Reps.unl hp r n⟩
  | dct ds => obtain ⟨xs, h, q, r⟩ := h; exact ⟨xs, by rw [upd_ne ha]; exact h, q, Reps.unl hp r (ndK_snd n)⟩
  | box b => obtain ⟨g, s, m, k, h, r⟩ := h; exact ⟨g, s, m, k, by rw [upd_ne ha]; exact h, r⟩
  | ins C dx fs => obtain ⟨gs, h, q, r⟩ := h; exact ⟨gs, by rw [upd_ne ha]; exact h, q, Reps.unl hp r (ndF_snd n)⟩
end
/-- e while the dict that slots i and j hold stands still -/
def slotsNd (i j : Nat) (τ : List (Option D)) : Prop := ∀ n d, n ≠ i → n ≠ j → τ[n]? = some (some d) → d.nd = true
def dLockD (i j : Nat) (te : TEd) : TEd := fun S Q _ => ∃ p l, S.τ[i]? = some (some (.ref p)) ∧ S.τ[j]? = some (some (.ref p)) ∧ S.M p = some (.dct l) ∧ ndK l = true ∧
  te ⟨(S.τ.set i (some (.dct l))).set j (some (.dct l)), delM S.M p⟩ (fun d S' => d.nd = true ∧ slotsNd i j S'.τ ∧ NDM S'.M ∧ Q d ⟨(S'.τ.set i (some (.ref p))).set j (some (.ref p)), updM S'.M p (.dct l)⟩) fun _ _ => False
theorem set_same {σ : L2.St} {i : Nat} {v : Option V} (h : σ[i]? = some v) : σ.set i v = σ := by
  apply List.ext_getElem?
  intro n
  rw [List.getElem?_set]
  by_cases e : i = n
  · subst e
    rw [if_pos rfl]
    have l := (List.getElem?_eq_some_iff.mp h).1
    rw [if_pos l, h]
  · rw [if_neg e]
section
variable {X : Cx} {W : WX} {e a b i : Expr} {te ta tb ti : TEd} {pos pos' : Pos}
theorem de_lockD (i j : Nat) (h : DE X W e te) : DE X W e (dLockD i j te) :=
  ⟨pe_imp (pe_lock h.pe) fun σ H Q ⟨S, Qd, Ed, sr, k, x, p, l, hi, hj, hm, hl, q⟩ => by
    obtain ⟨ks, hp, he, rr⟩ := sr.m p _ hm
    obtain ⟨vi, si, ri⟩ := sr.at_ i _ hi
    obtain ⟨vj, sj, rj⟩ := sr.at_ j _ hj
    cases ri
    cases rj
    refine ⟨p, .dK ks, hp, trivial, fun od => ?_⟩
    have ex : Ext H S.M (upd H p (.frz od (.dK ks))) (delM S.M p) := Ext.off hm
    have sr1 : SR X.K σ (upd H p (.frz od (.dK ks))) ⟨S.τ, delM S.M p⟩ := sr.mk2 ex (sr.m.off hp trivial)
    have rd : Rep X.K (upd H p (.frz od (.dK ks))) (.ref p) (.dct l) := rep_frz (c := .dct l) ⟨ks, hp, he, rr⟩ rfl hp od
    have sr2 := (sr1.set (i := i) rd).set (i := j) rd
    rw [set_same si, set_same sj] at sr2
    refine ⟨_, _, _, sr2, fun d S' v H' st' sr' r' ⟨n1, n2, n3, qd⟩ => ?_, ⟨fun _ _ _ _ _ _ _ _ (z : False) => z.elim⟩, q⟩
    have hpl : (upd H p (.frz od (.dK ks))) p = some (.frz od (.dK ks)) := upd_same
    obtain ⟨hp', hm'⟩ := st'.keep p _ hpl delM_same
    have hm2 : S'.M p = none := hm'
    refine ⟨hp', ?_⟩
    have rr2 : Reps X.K H' (ks.map (·.2)) (l.map (·.2)) := Reps.stb ((ex.trans st').stb sr.m) rr
    have mo : MOk X.K (upd H' p (.dK ks)) (updM S'.M p (.dct l)) := fun a c e => by
      by_cases z : a = p
      · subst z
        rw [updM_same] at e; cases e
        exact ⟨ks, upd_same, he, Reps.unl hp' rr2 (ndK_snd hl)⟩
      · rw [updM_ne z] at e
        exact CellOk.unl hp' z (sr'.m a c e) (n3 a c e)
    have ext : Ext H S.M (upd H' p (.dK ks)) (updM S'.M p (.dct l)) := by
      have e0 := ex.trans st'
      refine ⟨fun a o ho hmo => ?_, fun a o ho => ?_⟩
      · have z : a ≠ p := fun z => by subst z; rw [hm] at hmo; cases hmo
        exact ⟨by rw [upd_ne z]; exact (e0.keep a o ho hmo).1, by rw [updM_ne z]; exact (e0.keep a o ho hmo).2⟩
      · by_cases z : a = p
        · subst z; exact ⟨_, upd_same⟩
        · obtain ⟨o', h'⟩ := e0.dom a o ho; exact ⟨o', by rw [upd_ne z]; exact h'⟩
    refine k d _ v _ ext ⟨?_, fun n c e => ?_, mo⟩ (Rep.unl hp' r' n1) qd
    · have := sr'.len
      show σ.length = ((S'.τ.set i _).set j _).length
      rw [List.length_set, List.length_set]; exact this
    · have e' : ((S'.τ.set i (some (.ref p))).set j (some (.ref p)))[n]? = some (some c) := e
      rw [List.getElem?_set, List.getElem?_set] at e'
      by_cases zj : j = n
      · subst zj
        rw [if_pos rfl] at e'
        by_cases lt : j < (S'.τ.set i (some (.ref p))).length
        · rw [if_pos lt] at e'; cases e'; exact ⟨_, sj, .ref p⟩
        · rw [if_neg lt] at e'; cases e'
      · rw [if_neg zj] at e'
        by_cases zi : i = n
        · subst zi
          rw [if_pos rfl] at e'
          by_cases lt : i < S'.τ.length
          · rw [if_pos lt] at e'; cases e'; exact ⟨_, si, .ref p⟩
          · rw [if_neg lt] at e'; cases e'
        · rw [if_neg zi] at e'
          obtain ⟨v', e1, r1⟩ := sr'.at_ n c e'
          exact ⟨v', e1, Rep.unl hp' r1 (n2 n c (fun z => zi z.symm) (fun z => zj z.symm) e')⟩⟩
/-! ### displays -/
def dDctM0 : TEd := fun S Q _ => ∀ p, S.M p = none → Q (.ref p) ⟨S.τ, updM S.M p (.dct [])⟩
theorem de_dctM0 : DE X W (.Dict [] [] pos) dDctM0 := ⟨pe_imp pe_dnewK fun σ H Q ⟨S, Qd, Ed, sr, k, x, q⟩ => fun p hp =>
  k _ _ _ _ (Ext.lay hp) (sr.mk2 (Ext.lay hp) (sr.m.lay hp (c := .dct []) ⟨[], upd_same, rfl, .nil⟩)) (.ref p) (q p (sr.m.fresh hp))⟩
/-- {'k': v} -/
def dDctM1 (key : Str) (te : TEd) : TEd := fun S Q E => ∀ p, S.M p = none → te ⟨S.τ, updM S.M p (.dct [])⟩ (fun d S' => S'.M p = some (.dct []) ∧ Q (.ref p) ⟨S'.τ, updM S'.M p (.dct [(.inr key, d)])⟩) E
theorem de_dctM1 {key : Str} {j : Nat} {kp : Pos} (h : DE X W e te) : DE X W (.Dict [some (.Constant (.str key) j kp)] [e] pos) (dDctM1 key te) :=
  ⟨pe_imp (pe_disp (pps_cons pe_str h.pe pps_nil) rfl rfl (by simp) (by show 1 ≤ 15; decide)) fun σ H Q ⟨S, Qd, Ed, sr, k, x, q⟩ => fun p hp => by
    refine ⟨_, _, Ed, sr.mk2 (Ext.lay hp) (sr.m.lay hp (c := .dct []) ⟨[], upd_same, rfl, .nil⟩), fun d S' v H' st' sr' r' ⟨hm', qd⟩ => ?_, x.later (Ext.lay hp), q p (sr.m.fresh hp)⟩
    obtain ⟨ks, hp', he, _⟩ := sr'.m p _ hm'
    have ek : ks = [] := by cases ks with | nil => rfl | cons _ _ => cases he
    subst ek
    refine ⟨hp', [(.inr key, v)], rfl, by show 1 ≤ 15; decide, ?_⟩
    have pu : Ext H' S'.M (upd H' p (.dK [(.inr key, v)])) (updM S'.M p (.dct [(.inr key, d)])) := Ext.put hm'
    have st0 : Ext H S.M H' S'.M := (Ext.lay hp).trans st'
    exact k _ ⟨S'.τ, _⟩ _ _ (st0.trans pu) (sr'.mk2 pu (sr'.m.put hp' trivial (c := .dct [(.inr key, d)]) ⟨[(.inr key, v)], upd_same, rfl, .cons (r'.stb (Stb.mut hp' trivial)) .nil⟩)) (.ref p) qd⟩
/-! ### reads -/
def keyD : Key → D
  | .inl i => .int i
  | .inr s => .str s
def D.key : D → Option Key
  | .int i => some (.inl i)
  | .str s => some (.inr s)
  | _ => none
def getK (l : List (Key × D)) (k : Key) : Option D := (l.find? fun kv => decide (kv.1 = k)).map (·.2)
theorem key_rep {K : PySem.W.Frag} {H : Hp} {v : V} {d : D} {k : Key} (r : Rep K H v d) (h : d.key = some k) : v = kV k := by
  cases r <;> first | (cases h; rfl) | cases h
theorem rep_key {K : PySem.W.Frag} {H : Hp} (k : Key) : Rep K H (kV k) (keyD k) := by
  cases k with
  | inl i => exact .int i
  | inr s => exact .str s
theorem get_kv {K : PySem.W.Frag} {H : Hp} {k : Key} : ∀ {ks : List (Key × V)} {l : List (Key × D)}, ks.map (·.1) = l.map (·.1) → Reps K H (ks.map (·.2)) (l.map (·.2)) →
    (valV ks k = none ∧ getK l k = none) ∨ ∃ v d, valV ks k = some v ∧ getK l k = some d ∧ Rep K H v d
  | [], [], _, _ => .inl ⟨rfl, rfl⟩
  | [], _ :: _, h, _ => by cases h
  | _ :: _, [], h, _ => by cases h
  | (k1, v1) :: ks, (k2, d1) :: l, h, r => by
    have h1 : k1 = k2 := (List.cons.inj h).1
    have h2 := (List.cons.inj h).2
    subst h1
    cases r with
    | cons r1 r =>
      by_cases e : k1 = k
      · refine .inr ⟨v1, d1, ?_, ?_, r1⟩
        · unfold valV; rw [List.find?_cons]; simp [e]
        · unfold getK; rw [List.find?_cons]; simp [e]
      · have a1 : valV ((k1, v1) :: ks) k = valV ks k := by unfold valV; rw [List.find?_cons]; simp [e]
        have a2 : getK ((k1, d1) :: l) k = getK l k := by unfold getK; rw [List.find?_cons]; simp [e]
        rw [a1, a2]
        exact get_kv h2 r
/-- a dict: one that stands, a cell -/
def D.dctOf (M : Mst) : D → Option (List (Key × D))
  | .dct l => some l
  | .ref p => match M p with
    | some (.dct l) => some l
    | _ => none
  | _ => none
theorem dct_rd {K : PySem.W.Frag} {H : Hp} {M : Mst} {v : V} {d : D} {l : List (Key × D)} (r : Rep K H v d) (m : MOk K H M) (h : d.dctOf M = some l) :
    ∃ a ks, v = .ref a ∧ Rd H a (.dK ks) ∧ ks.map (·.1) = l.map (·.1) ∧ Reps K H (ks.map (·.2)) (l.map (·.2)) := by
  cases r with
  | dct hs e r =>
    cases h
    obtain ⟨o, hs⟩ := hs
    exact ⟨_, _, rfl, .inr ⟨o, hs⟩, e, r⟩
  | ref a =>
    have h' : (match M a with | some (.dct l) => some l | _ => none) = some l := h
    cases q : M a with
    | none => rw [q] at h'; cases h'
    | some c =>
      rw [q] at h'
      cases c with
      | dct l' =>
        cases h'
        obtain ⟨ks, hx, e, r⟩ := m a _ q
        exact ⟨a, ks, rfl, .inl hx, e, r⟩
      | lst _ => cases h'
      | box _ => cases h'
      | ins _ _ _ => cases h'
  | _ => cases h
theorem op_inK (hu : X.A.units + 1 < cLine) : OpR X (compareOp .In) (fun y x H Q => ∃ a o, x = V.ref a ∧ DGet H a y o ∧ Q (.bl o.isSome) H) := by
  intro pins s σ H y x u v Q I ry rx h
  obtain ⟨a, o, rfl, g, q⟩ := h
  cases rx
  exact d_in hu I g ry fun s3 I3 => ⟨.bl o.isSome, H, I3, rfl, q⟩
theorem op_notInK (hu : X.A.units + 1 < cLine) : OpR X (compareOp .NotIn) (fun y x H Q => ∃ a o, x = V.ref a ∧ DGet H a y o ∧ Q (.bl (!o.isSome)) H) := by
  intro pins s σ H y x u v Q I ry rx h
  obtain ⟨a, o, rfl, g, q⟩ := h
  cases rx
  exact d_notIn hu I g ry fun s3 I3 => ⟨.bl (!o.isSome), H, I3, rfl, q⟩
def oInK (neg : Bool) : O2 := fun y x M Q => match x.dctOf M, y.key with
  | some l, some k => Q (.bl (if neg then !(getK l k).isSome else (getK l k).isSome)) M
  | _, _ => False
theorem opl_inK {K : PySem.W.Frag} : OpL K (fun y x H Q => ∃ a o, x = V.ref a ∧ DGet H a y o ∧ Q (.bl o.isSome) H) (oInK false) := fun y x H M d1 d2 Q Qd r1 r2 m o k => by
  unfold oInK at o
  split at o
  · rename_i l kk e1 e2
    obtain ⟨a, ks, rfl, rd, he, rr⟩ := dct_rd r2 m e1
    rw [key_rep r1 e2]
    refine ⟨a, valV ks kk, rfl, .inl ⟨ks, kk, rd, rfl, rfl⟩, ?_⟩
    have ee : (valV ks kk).isSome = (getK l kk).isSome := by
      rcases get_kv (k := kk) he rr with ⟨a1, a2⟩ | ⟨_, _, a1, a2, _⟩ <;> rw [a1, a2] <;> rfl
    rw [ee]
    exact k _ H _ M (.refl H M) m (.bl _) o
  · exact o.elim
theorem opl_notInK {K : PySem.W.Frag} : OpL K (fun y x H Q => ∃ a o, x = V.ref a ∧ DGet H a y o ∧ Q (.bl (!o.isSome)) H) (oInK true) := fun y x H M d1 d2 Q Qd r1 r2 m o k => by
  unfold oInK at o
  split at o
  · rename_i l kk e1 e2
    obtain ⟨a, ks, rfl, rd, he, rr⟩ := dct_rd r2 m e1
    rw [key_rep r1 e2]
    refine ⟨a, valV ks kk, rfl, .inl ⟨ks, kk, rd, rfl, rfl⟩, ?_⟩
    have ee : (valV ks kk).isSome = (getK l kk).isSome := by
      rcases get_kv (k := kk) he rr with ⟨a1, a2⟩ | ⟨_, _, a1, a2, _⟩ <;> rw [a1, a2] <;> rfl
    rw [ee]
    exact k _ H _ M (.refl H M) m (.bl _) o
  · exact o.elim
def oDget : O2 := fun x y M Q => match x.dctOf M, y.key with
  | some l, some k => (match getK l k with
    | some d => Q d M
    | none => False)
  | _, _ => False
theorem de_dget (hu : X.A.units + 1 < cLine) (ha : DE X W a ta) (hb : DE X W b tb) (hs : NoSl b) : DE X W (.Subscript a b pos) (dOp oDget ta tb) :=
  ⟨pe_imp (pe_dget hu ha.pe hb.pe hs) fun σ H Q ⟨S, Qd, Ed, sr, k, x, q⟩ => by
    refine ⟨S, _, Ed, sr, fun d1 S1 v1 H1 st1 sr1 r1 q1 => ?_, x, q⟩
    refine ⟨S1, _, Ed, sr1, fun d2 S2 v2 H2 st2 sr2 r2 q2 => ?_, x.later st1, q1⟩
    have q3 : oDget d1 d2 S2.M fun d M' => Qd d ⟨S2.τ, M'⟩ := q2
    unfold oDget at q3
    split at q3
    · rename_i l kk e1 e2
      obtain ⟨a, ks, rfl, rd, he, rr⟩ := dct_rd (r1.stb (st2.stb sr1.m)) sr2.m e1
      rw [key_rep r2 e2]
      rcases get_kv (k := kk) he rr with ⟨a1, a2⟩ | ⟨v, d, a1, a2, r⟩
      · rw [a2] at q3; exact q3.elim
      · rw [a2] at q3
        exact ⟨a, v, rfl, .inl ⟨ks, kk, rd, rfl, a1.symm⟩, k _ S2 _ H2 (st1.trans st2) sr2 r q3⟩
    · exact q3.elim⟩
theorem call_lenK : CallR X (.builtin "len") (fun xs H Q => ∃ a kvs, xs = [V.ref a] ∧ Rd H a (.dK kvs) ∧ Q (.int kvs.length) H) := by
  intro pins s σ H xs us Q I r h
  obtain ⟨a, kvs, rfl, rd, q⟩ := h
  obtain ⟨u, rfl, rx⟩ := vals1 r
  cases rx
  exact d_len I rd fun t s' I' => ⟨.int kvs.length, H, I', ⟨t, rfl⟩, q⟩
def cLenK : OC := fun ds M Q => match ds with
  | [d] => (match d.dctOf M with
    | some l => Q (.int l.length) M
    | none => False)
  | _ => False
theorem oplc_lenK {K : PySem.W.Frag} : OpLC K (fun xs H Q => ∃ a kvs, xs = [V.ref a] ∧ Rd H a (.dK kvs) ∧ Q (.int kvs.length) H) cLenK := fun vs H M ds Q Qd r m o k => by
  match ds, o with
  | [d], o =>
    obtain ⟨v, rfl, r1⟩ := reps1 r
    have o' : (match d.dctOf M with | some l => Qd (.int l.length) M | none => False) := o
    cases e : d.dctOf M with
    | none => rw [e] at o'; exact o'.elim
    | some l =>
      rw [e] at o'
      obtain ⟨a, ks, rfl, rd, he, rr⟩ := dct_rd r1 m e
      have hl : ks.length = l.length := by
        have := congrArg List.length he
        simpa using this
      refine ⟨a, ks, rfl, rd, ?_⟩
      rw [hl]
      exact k _ H _ M (.refl H M) m (.int _) o'
/-- for key in d, the dict stands -/
def dKeysI (te : TEd) : TAd := fun S Q E => te S (fun d S' => match d with
  | .dct l => Q (l.map fun kv => keyD kv.1) S'
  | _ => False) E
theorem seq_keys {K : PySem.W.Frag} {H : Hp} {a : Addr} {o : Obj} {ks : List (Key × V)} {l : List (Key × D)} (h : H a = some (.frz o (.dK ks))) (e : ks.map (·.1) = l.map (·.1)) : SeqOk K (Itk a o ks) H (l.map fun kv => keyD kv.1) where
  go := fun H' i d st q => by
    have hl : ks.length = l.length := by simpa using congrArg List.length e
    have lt := (List.getElem?_eq_some_iff.mp q).1
    rw [List.length_map] at lt
    exact ⟨st _ _ h (fun z => z), by rw [hl]; exact lt⟩
  yld := fun H' i d x H'' st q y => by
    obtain ⟨rfl, k, v, q1, rfl⟩ := y
    have e1 : (ks.map (·.1))[i]? = some k := by rw [List.getElem?_map, q1]; rfl
    rw [e, List.getElem?_map] at e1
    rw [List.getElem?_map] at q
    cases hq : l[i]? with
    | none => rw [hq] at q; cases q
    | some kv =>
      rw [hq] at q e1
      cases q
      have ek : kv.1 = k := Option.some.inj e1
      show _ ∧ _ ∧ Rep K _ (kV k) (keyD kv.1)
      rw [ek]
      exact ⟨fun M => .refl _ M, fun M m => m, rep_key k⟩
  stop := fun H' i st q => by
    have hl : ks.length = l.length := by simpa using congrArg List.length e
    rw [List.length_map] at q
    exact ⟨st _ _ h (fun z => z), by rw [hl]; exact q⟩
theorem di_keys {tg : Expr} (h : DE X W a ta) : DI X W tg a (dKeysI ta) := ⟨_, pi_keys h.pe, fun σ H R S Qd Ed sr x q k => ⟨S, _, Ed, sr, fun d S' v H' st sr' r qd => by
  cases d <;> first | exact (show False from qd).elim | skip
  cases r with
  | dct hs e rr =>
    obtain ⟨o, hs⟩ := hs
    exact ⟨_, o, rfl, .inl ⟨_, hs, k _ S' H' _ st sr' (seq_keys hs e) qd⟩⟩, x, q⟩⟩
/-! ### d[k] = v of a cell -/
def putD (l : List (Key × D)) (k : Key) (d : D) : List (Key × D) := if (l.any fun kv => decide (kv.1 = k)) = true then l.map (fun kv => if kv.1 = k then (kv.1, d) else kv) else l ++ [(k, d)]
theorem put_any {α β : Type} {ks : List (Key × α)} {l : List (Key × β)} {k : Key} (e : ks.map (·.1) = l.map (·.1)) : (ks.any fun kv => decide (kv.1 = k)) = l.any fun kv => decide (kv.1 = k) := by
  have h : ∀ {γ : Type} (l : List (Key × γ)), (l.any fun kv => decide (kv.1 = k)) = (l.map (·.1)).any fun z => decide (z = k) := fun l => by rw [List.any_map]; rfl
  rw [h, h, e]
theorem put_rel {K : PySem.W.Frag} {H : Hp} {k : Key} {v : V} {d : D} (rv : Rep K H v d) : ∀ {ks : List (Key × V)} {l : List (Key × D)}, ks.map (·.1) = l.map (·.1) → Reps K H (ks.map (·.2)) (l.map (·.2)) →
    (putK ks k v).map (·.1) = (putD l k d).map (·.1) ∧ Reps K H ((putK ks k v).map (·.2)) ((putD l k d).map (·.2)) := fun {ks l} e r => by
  unfold putK putD
  rw [put_any e]
  by_cases q : (l.any fun kv => decide (kv.1 = k)) = true
  · rw [if_pos q, if_pos q]
    clear q
    induction ks generalizing l with
    | nil => cases l with
      | nil => exact ⟨rfl, .nil⟩
      | cons _ _ => cases e
    | cons p ks ih => cases l with
      | nil => cases e
      | cons p2 l =>
        obtain ⟨k1, v1⟩ := p
        obtain ⟨k2, d2⟩ := p2
        have h1 : k1 = k2 := (List.cons.inj e).1
        subst h1
        cases r with
        | cons r1 r =>
          obtain ⟨a1, a2⟩ := ih (List.cons.inj e).2 r
          simp only [List.map_cons]
          by_cases z : k1 = k
          · rw [if_pos z, if_pos z]; exact ⟨by rw [a1], .cons rv a2⟩
          · rw [if_neg z, if_neg z]; exact ⟨by rw [a1], .cons r1 a2⟩
  · rw [if_neg q, if_neg q]
    simp only [List.map_append]
    exact ⟨by rw [e]; rfl, Reps.append r (.cons rv .nil)⟩
def dPutK (td ti tv : TEd) : TSd := fun ED S => tv S (fun v S1 => td S1 (fun d S2 => ti S2 (fun y S3 => match d, y.key with
  | .ref p, some k => (match S3.M p with
    | some (.dct l) => l.length < 100000 ∧ ED.nx ⟨S3.τ, updM S3.M p (.dct (putD l k v))⟩
    | _ => False)
  | _, _ => False) ED.ex) ED.ex) ED.ex
theorem dst_dput {e o : Expr} {to tv : TEd} (hu : X.A.units + 1 < cLine) (ho : DE X W o to) (hi : DE X W i ti) (hv : DE X W e tv) (hs : swapsWith e (some (.Subscript o i pos')) pos.line X.env = pure false := by rfl) :
    DSt X W (.Assign [.Subscript o i pos'] e pos) (dPutK to ti tv) :=
  ⟨ps_imp (ps_dput hu ho.pe hi.pe hv.pe hs) fun E σ H ⟨S, ED, sr, k, q⟩ => by
    have x := k.exo σ
    refine ⟨S, _, _, sr, fun dv S1 v H1 st1 sr1 r1 q1 => ?_, x, q⟩
    refine ⟨S1, _, _, sr1, fun d S2 u H2 st2 sr2 r2 q2 => ?_, x.later st1, q1⟩
    refine ⟨S2, _, _, sr2, fun y S3 w H3 st3 sr3 r3 q3 => ?_, x.later (st1.trans st2), q2⟩
    cases d <;> first | exact (show False from q3).elim | skip
    rename_i p
    cases r2 with
    | ref =>
      cases ey : y.key with
      | none =>
        have q4 : (match (D.ref p), y.key with | .ref p, some k => (match S3.M p with | some (.dct l) => l.length < 100000 ∧ ED.nx ⟨S3.τ, updM S3.M p (.dct (putD l k dv))⟩ | _ => False) | _, _ => False) := q3
        rw [ey] at q4; exact q4.elim
      | some kk =>
        have q4 : (match (D.ref p), y.key with | .ref p, some k => (match S3.M p with | some (.dct l) => l.length < 100000 ∧ ED.nx ⟨S3.τ, updM S3.M p (.dct (putD l k dv))⟩ | _ => False) | _, _ => False) := q3
        rw [ey] at q4
        have q5 : (match S3.M p with | some (.dct l) => l.length < 100000 ∧ ED.nx ⟨S3.τ, updM S3.M p (.dct (putD l kk dv))⟩ | _ => False) := q4
        cases hm : S3.M p with
        | none => rw [hm] at q5; exact q5.elim
        | some c =>
          rw [hm] at q5
          cases c with
          | dct l =>
            obtain ⟨ks, hx, he, rr⟩ := sr3.m p _ hm
            have hl : ks.length = l.length := by simpa using congrArg List.length he
            rw [key_rep r3 ey]
            refine ⟨p, _, rfl, DPut.k hx (by rw [hl]; exact sz_lt q5.1), ?_⟩
            have rv : Rep X.K H3 v dv := r1.stb ((st2.trans st3).stb sr1.m)
            obtain ⟨a1, a2⟩ := put_rel (k := kk) rv he rr
            have pu : Ext H3 S3.M (upd H3 p (.dK (putK ks kk v))) (updM S3.M p (.dct (putD l kk dv))) := Ext.put hm
            exact k.nx σ _ ⟨S3.τ, _⟩ (((st1.trans st2).trans st3).trans pu) (sr3.mk2 pu (sr3.m.put hx trivial (c := .dct (putD l kk dv)) ⟨_, upd_same, a1, Reps.stb (Stb.mut hx trivial) a2⟩)) q5.2
          | lst _ => exact q5.elim
          | box _ => exact q5.elim
          | ins _ _ _ => exact q5.elim⟩
end
end DL
end
section
set_option maxRecDepth 100000
set_option maxHeartbeats 4000000
/-! HK: what the head tells of the written part, by names -/
namespace HK
open PySem PySem.W
open L2 (V)
/-! ### checks -/
def clsB (K : Frag) (C : Addr) : Bool := match K.lookup C with
  | some ⟨.type "type", _, .cls cd, sl⟩ => (match cd.mro, sl.toList with
    | .ref C' :: bm, [_, _, _, _, some (.builtin n), _] => C' == C && (n == "ValueError.__new__" && (!cd.hasDel && (cd.hasDict && HandSPX.refsVE bm)))
    | _, _ => false)
  | _ => false
theorem clsB_ok {K : Frag} {C : Addr} (h : clsB K C = true) : ∃ nm q N bs bm sn sub ab col dd k0 k1 k2 k3 k5, K.lookup C = some (excClassObj nm q C N bs bm true sn sub ab col dd k0 k1 k2 k3 k5 "ValueError.__new__") ∧ HandSPX.refsVE bm = true := by
  unfold clsB at h
  split at h
  · rename_i dd cd sl ho
    split at h
    · rename_i C' bm k0 k1 k2 k3 n k5 hm hs
      simp only [Bool.and_eq_true, beq_iff_eq, Bool.not_eq_true'] at h
      obtain ⟨rfl, rfl, hdel, hdct, hv⟩ := h
      obtain ⟨nm, bs, mro, ns, qn, hd, sn, sb, ab, col, del⟩ := cd
      dsimp only at hm hdel hdct
      subst hm hdel hdct
      have e : sl = #[k0, k1, k2, k3, some (.builtin "ValueError.__new__"), k5] := by
        apply Array.toList_inj.mp
        rw [hs]
      subst e
      exact ⟨_, _, _, _, _, _, _, _, _, _, _, _, _, _, _, ho, hv⟩
    · cases h
  · cases h
abbrev eqV (a b : Option (Option Value)) : Bool := decide (a = b)
/-- ClsTxt of the class at C over the base at D -/
def ctB (K : Frag) (D C : Addr) : Bool := clsB K C && (decide (mroIn K C (.ref D) = some true) && (eqV (ks_superIn K C D "__init__") (some (some (.builtin "ValueError.__init__"))) && (decide (subIn K (.ref C) (.type "ValueError") = some true) &&
  (eqV (findIn K (.ref C) "__setattr__") (some (some (.builtin "object.__setattr__"))) && eqV (findIn K (.ref C) "given") (some none)))))
theorem and2 {a b : Bool} (h : (a && b) = true) : a = true ∧ b = true := Bool.and_eq_true_iff.mp h
theorem ctB_ok {K : Frag} {D C : Addr} (h : ctB K D C = true) : EL.ClsTxt K D C := by
  obtain ⟨h1, h⟩ := and2 h
  obtain ⟨h2, h⟩ := and2 h
  obtain ⟨h3, h⟩ := and2 h
  obtain ⟨h4, h⟩ := and2 h
  obtain ⟨h5, h6⟩ := and2 h
  exact ⟨clsB_ok h1, of_decide_eq_true h2, of_decide_eq_true h3, of_decide_eq_true h4, of_decide_eq_true h5, of_decide_eq_true h6⟩
/-- the code, the cell, the defaults of an __init__ that says super() -/
def codeB (P : Program) (K : Frag) (fd : FuncData) (q : Str) (D : Addr) : Bool := codeIn K fd.code q && ((match fd.code with
    | .ref cda => (match K.lookup cda with
      | some ⟨_, _, .fields vs, _⟩ => (match (vs[2]? : Option Value) with
        | some (.str file _) => (P.main.file : Str) == file
        | _ => false)
      | _ => false)
    | _ => false) && (match fd.closure with
    | [(_, cc)] => (match K.lookup cc with
      | some ⟨_, _, .cell (some (.ref d)), _⟩ => d == D
      | _ => false)
    | _ => false))
def dfl1 (K : Frag) (dV : Value) : Bool := match dV with
  | .ref T => (match K.lookup T with
    | some ⟨_, _, .seq its _, _⟩ => its.toList == [.none]
    | _ => false)
  | _ => false
def fnAt (K : Frag) (f : Addr) : Option FuncData := match K.lookup f with
  | some ⟨_, _, .func fd, _⟩ => some fd
  | _ => none
/-- what is looked at of an __init__ -/
abbrev IV : Type := Option (Str × Str × Arguments × FuncBody × Scope × Addr × List Str × Addr)
def initW (K : Frag) (C : Str) : IV := (fnAt K (He.ma K (He.ga K C) "__init__")).map fun fd => (fd.name, fd.qualname, fd.params, fd.body, fd.scope, fd.globals, fd.closure.map (·.1), fd.builtins)
/-- facts by names -/
inductive Fx where
  | glo (x : Str)
  | free (x : Str)
  | blt (x : Str) (id : String)
  | tup (x : Str) (vs : List He.Dv)
  | int (x : Str) (i : Int)
  | exm (x y : Str) (b : Bool)
  | err (x : Str)
  | xf (x f : Str)
  | base (x : Str)
  | pass (b x : Str)
  | nul (b x q : Str)
def Fx.ok (P : Program) (K : Frag) : Fx → Bool
  | .glo x => (He.Fa.glo x).ok K
  | .free x => (He.Fa.free x).ok K
  | .blt x id => eqV (nsIn K mainGlobals x) (some (some (.builtin id)))
  | .tup x vs => (He.Fa.glo x).ok K && He.tupB K x vs
  | .int x i => (He.Fa.int x i).ok K
  | .exm x y b => decide (exmOne K (.ref (He.ga K x)) (.ref (He.ga K y)) = some b)
  | .err x => (He.Fa.glo x).ok K && (keepIn K (.ref (He.ga K x)) && (decide (subIn K (.ref (He.ga K x)) (.type "BaseException") = some true) && decide (typeIn K (.ref (He.ga K x)) = some (.type "type"))))
  | .xf x f => L2.xfB K (He.ga K x) && eqV (findIn K (.ref (He.ga K x)) f) (some none)
  | .base x => (clsIn K (He.ga K x)).isSome && (eqV (nsIn K mainGlobals "super") (some none) && ((P.main.scope.names.lookup ("super" : Str)).isNone && (eqV (nsIn K cStatics "thirdparty.any") (some none) &&
      (match fnAt K (He.ma K (He.ga K x) "__init__") with
      | some fd => codeB P K fd "WeightError.__init__" (He.ga K x) && dfl1 K fd.defaults
      | none => false))))
  | .pass b x => ctB K (He.ga K b) (He.ga K x) && (eqV (findIn K (.ref (He.ga K x)) "__init__") (some (some (.ref (He.ma K (He.ga K b) "__init__")))) && decide (typeIn K (.ref (He.ma K (He.ga K b) "__init__")) = some (.type "function")))
  | .nul b x q => ctB K (He.ga K b) (He.ga K x) && (eqV (findIn K (.ref (He.ga K x)) "__init__") (some (some (.ref (He.ma K (He.ga K x) "__init__")))) && (decide (typeIn K (.ref (He.ma K (He.ga K x) "__init__")) = some (.type "function")) &&
      (decide (typeIn K (.ref (He.ma K (He.ga K b) "__init__")) = some (.type "function")) && (fnIn K (He.ma K (He.ga K b) "__init__") && (decide (mroIn K (He.ga K x) (.ref (He.ga K x)) = some true) &&
      (eqV (ks_superIn K (He.ga K x) (He.ga K x) "__init__") (some (some (.ref (He.ma K (He.ga K b) "__init__")))) &&
      (match fnAt K (He.ma K (He.ga K x) "__init__") with
      | some fd => codeB P K fd q (He.ga K x) && (fd.defaults == .none)
      | none => false)))))))
/-! ### the Hook -/
abbrev Al : Type := (Bool × List IV) × He.AlD
def obsX (P : Program) (fx : List Fx) (ini : List (Str × IV)) (fn : List He.DefD) (K : Frag) : Al := ((fx.all fun f => f.ok P K, ini.map fun i => initW K i.1), He.obsD [] fn K)
def valX (ini : List (Str × IV)) (fn : List He.DefD) : Al := ((true, ini.map (·.2)), He.valD fn)
def SaysX (P : Program) (fx : List Fx) (ini : List (Str × IV)) (fn : List He.DefD) (K : Frag) : Prop := obsX P fx ini fn K = valX ini fn
def obsXG (P : Program) (n : Nat) (fx : List Fx) (ini : List (Str × IV)) (fn : List He.DefD) (g : Addr → Option Obj) : Al := obsX P fx ini fn (He.frG g (cStatics :: He.asD g n))
def hookX (P : Program) (n : Nat) (fx : List Fx) (ini : List (Str × IV)) (fn : List He.DefD) : Hook where
  α := Al
  obs := fun s => obsXG P n fx ini fn s.heap.get?
  val := fun _ => valX ini fn
  says := fun _ h => ∃ K : Frag, K.In h ∧ SaysX P fx ini fn K
  of := fun _ _ e => ⟨_, He.frG_in, e⟩
  keeps := fun _ _ _ ⟨K, hK, c⟩ k => ⟨K, Frag.In.keeps hK k, c⟩
theorem obsXG_eq {P : Program} {n : Nat} {fx : List Fx} {ini : List (Str × IV)} {fn : List He.DefD} {g : Addr → Option Obj} {s : Shared} (h : ∀ a, g a = s.heap.get? a) : obsXG P n fx ini fn g = (hookX P n fx ini fn).obs s := by
  have e : g = s.heap.get? := funext h
  rw [e] <;> rfl
section
variable {P : Program} {fx : List Fx} {ini : List (Str × IV)} {fn : List He.DefD} {K : Frag}
theorem SaysX.fact (c : SaysX P fx ini fn K) (i : Nat) {f : Fx} (h : fx[i]? = some f := by rfl) : f.ok P K = true := by
  have c1 : (fx.all fun f => f.ok P K) = true := congrArg (fun z : Al => z.1.1) c
  exact List.all_eq_true.mp c1 f (List.mem_of_getElem? h)
theorem SaysX.init (c : SaysX P fx ini fn K) (i : Nat) {x : Str} {v : IV} (h : ini[i]? = some (x, v) := by rfl) : initW K x = v := by
  have e : ini.map (fun i => initW K i.1) = ini.map (·.2) := congrArg (fun z : Al => z.1.2) c
  have e2 : (ini.map (fun i => initW K i.1))[i]? = (ini.map (·.2))[i]? := by rw [e]
  rw [List.getElem?_map, List.getElem?_map, h] at e2
  exact Option.some.inj e2
theorem SaysX.def_ (c : SaysX P fx ini fn K) (i : Nat) {d : He.DefD} (h : fn[i]? = some d := by rfl) : ∃ fd, L2.FunD K d.name d.qual d.params d.body d.scope (d.dvs K) (d.kws K) (He.fAd K d.at_) fd := by
  have c2 : He.SaysD [] fn K := congrArg (fun z : Al => z.2) c
  exact He.SaysD.def_ c2 i h
end
section
variable {P : Program} {K : Frag} {h : Heap} {mg : Str → Option Value}
theorem blt_ok (X : K.In h) (G : h.Ns mainGlobals mg) {x : Str} {id : String} (c : (Fx.blt x id).ok P K = true) : mg x = some (.builtin id) := mg_of X G (of_decide_eq_true c)
theorem tup_ok (X : K.In h) (G : h.Ns mainGlobals mg) {x : Str} {vs : List He.Dv} (c : (Fx.tup x vs).ok P K = true) : mg x = some (.ref (He.ga K x)) ∧ ∀ H, L2.SqT K H (He.ga K x) (vs.map (He.Dv.v K)) :=
  ⟨He.glo_ok X G (and2 c).1, fun H => He.tupB_ok (and2 c).2 H⟩
theorem err_ok (X : K.In h) (G : h.Ns mainGlobals mg) {x : Str} (c : (Fx.err x).ok P K = true) : DL.ErrAt P K mg x (He.ga K x) := by
  obtain ⟨c1, c⟩ := and2 c
  obtain ⟨c2, c⟩ := and2 c
  obtain ⟨c3, c4⟩ := and2 c
  exact ⟨He.glo_ok X G c1, c2, of_decide_eq_true c3, of_decide_eq_true c4⟩
theorem xf_ok {x f : Str} (c : (Fx.xf x f).ok P K = true) : L2.XfC K (He.ga K x) ∧ findIn K (.ref (He.ga K x)) f = some none := ⟨L2.xfB_ok (and2 c).1, of_decide_eq_true (and2 c).2⟩
theorem exm_ok {x y : Str} {b : Bool} (c : (Fx.exm x y b).ok P K = true) : exmOne K (.ref (He.ga K x)) (.ref (He.ga K y)) = some b := of_decide_eq_true c
theorem fnAt_some {f : Addr} {fd : FuncData} (e : fnAt K f = some fd) : ∃ oc od osl, K.lookup f = some ⟨oc, od, .func fd, osl⟩ := by
  unfold fnAt at e
  split at e
  · rename_i oc od fd' osl ho
    cases e
    exact ⟨_, _, _, ho⟩
  · cases e
theorem codeB_ok {fd : FuncData} {q : Str} {D : Addr} (h : codeB P K fd q D = true) : codeIn K fd.code q = true ∧ ∃ cda ccl cdd vs ccs file tf n cc cl cld csl, fd.code = .ref cda ∧ K.lookup cda = some ⟨ccl, cdd, .fields vs, ccs⟩ ∧ vs[2]? = some (.str file tf) ∧ ((P.main.file : Str) == file) = true ∧ fd.closure = [(n, cc)] ∧ K.lookup cc = some ⟨cl, cld, .cell (some (.ref D)), csl⟩ := by
  obtain ⟨h1, h⟩ := and2 h
  obtain ⟨h2, h3⟩ := and2 h
  refine ⟨h1, ?_⟩
  split at h2
  · rename_i cda e1
    split at h2
    · rename_i ccl cdd vs ccs e2
      split at h2
      · rename_i file tf e3
        split at h3
        · rename_i n cc e4
          split at h3
          · rename_i cl cld d csl e5
            have ed : d = D := by simpa using h3
            subst ed
            exact ⟨cda, ccl, cdd, vs, ccs, file, tf, n, cc, cl, cld, csl, e1, e2, e3, h2, e4, e5⟩
          · cases h3
        · cases h3
      · cases h2
    · cases h2
  · cases h2
theorem dfl1_ok {dV : Value} (h : dfl1 K dV = true) : ∃ Td oT nT, dV = .ref Td ∧ K.lookup Td = some oT ∧ oT.data = .seq #[.none] nT := by
  unfold dfl1 at h
  split at h
  · rename_i T
    split at h
    · rename_i oc od its n sl e
      have e2 : its.toList = [.none] := by simpa using h
      have e3 : its = #[.none] := Array.toList_inj.mp e2
      subst e3
      exact ⟨T, _, n, rfl, e, rfl⟩
    · cases h
  · cases h
theorem base_ok {x : Str} {p1 p2 p3 q1 q2 q3 q4 q5 q6 r1 r2 r3 r4 : Pos} (c : (Fx.base x).ok P K = true) (i : initW K x = (some (("__init__" : Str), ("WeightError.__init__" : Str), EL.iA p1 p2 p3, FuncBody.stmts (EL.iB q1 q2 q3 q4 q5 q6 r1 r2 r3 r4), EL.iS, mainGlobals, [("__class__" : Str)], builtinsNs) : IV)) (hl : (q3.endLine == q5.line) = true) :
    EL.BaseTxt P K (He.ga K x) (He.ma K (He.ga K x) "__init__") := by
  obtain ⟨c1, c⟩ := and2 c
  obtain ⟨c2, c⟩ := and2 c
  obtain ⟨c3, c⟩ := and2 c
  obtain ⟨c4, c5⟩ := and2 c
  refine ⟨?_, Option.isSome_iff_exists.mp c1, of_decide_eq_true c2, by simpa using c3, of_decide_eq_true c4⟩
  split at c5
  · rename_i fd e
    obtain ⟨oc, od, osl, ho⟩ := fnAt_some e
    obtain ⟨k1, k2⟩ := and2 c5
    obtain ⟨m1, cda, ccl, cdd, vs, ccs, file, tf, n, cc, cl, cld, csl, e1, e2, e3, e4, e5, e6⟩ := codeB_ok k1
    unfold initW at i
    rw [e] at i
    obtain ⟨n1, n2, n3, n4, n5, n6, n7, n8, n9, n10, n11, n12, n13, n14, n15⟩ := fd
    have i2 := Option.some.inj i
    simp only [Prod.mk.injEq] at i2
    obtain ⟨h1, h2, h3, h4, h5, h6, h7, h8⟩ := i2
    dsimp only at e1 e5 k2 m1
    subst h1 h2 h3 h4 h5 h6 h8 e1 e5
    have hn : n = "__class__" := by simpa using h7
    subst hn
    obtain ⟨Td, oT, nT, d1, d2, d3⟩ := dfl1_ok k2
    exact ⟨_, _, _, _, _, _, _, _, _, _, _, _, _, _, _, _, _, _, _, _, _, _, _, _, _, _, _, _, _, _, _, _, _, ho, m1, e2, e3, e4, e6, hl, Td, oT, nT, d1, d2, d3⟩
  · cases c5
theorem pass_ok {b x : Str} (c : (Fx.pass b x).ok P K = true) (B : EL.BaseTxt P K (He.ga K b) (He.ma K (He.ga K b) "__init__")) : EL.PassTxt P K (He.ga K b) (He.ma K (He.ga K b) "__init__") (He.ga K x) := by
  obtain ⟨c1, c⟩ := and2 c
  obtain ⟨c2, c3⟩ := and2 c
  exact ⟨B, ctB_ok c1, of_decide_eq_true c2, of_decide_eq_true c3⟩
theorem nul_ok {b x q : Str} {p1 q1 q2 q3 q5 q6 : Pos} (c : (Fx.nul b x q).ok P K = true) (B : EL.BaseTxt P K (He.ga K b) (He.ma K (He.ga K b) "__init__")) (i : initW K x = (some (("__init__" : Str), q, EL.iA0 p1, FuncBody.stmts (EL.iB0 q1 q2 q3 q5 q6), EL.iS0, mainGlobals, [("__class__" : Str)], builtinsNs) : IV)) (hl : (q3.endLine == q5.line) = true) :
    EL.OwnTxt0 P K (He.ga K b) (He.ma K (He.ga K b) "__init__") (He.ga K x) (He.ma K (He.ga K x) "__init__") q := by
  obtain ⟨c1, c⟩ := and2 c
  obtain ⟨c2, c⟩ := and2 c
  obtain ⟨c3, c⟩ := and2 c
  obtain ⟨c4, c⟩ := and2 c
  obtain ⟨c5, c⟩ := and2 c
  obtain ⟨c6, c⟩ := and2 c
  obtain ⟨c7, c8⟩ := and2 c
  refine ⟨B, ctB_ok c1, of_decide_eq_true c2, of_decide_eq_true c3, of_decide_eq_true c4, c5, ?_, of_decide_eq_true c6, of_decide_eq_true c7⟩
  split at c8
  · rename_i fd e
    obtain ⟨oc, od, osl, ho⟩ := fnAt_some e
    obtain ⟨k1, k2⟩ := and2 c8
    obtain ⟨m1, cda, ccl, cdd, vs, ccs, file, tf, n, cc, cl, cld, csl, e1, e2, e3, e4, e5, e6⟩ := codeB_ok k1
    unfold initW at i
    rw [e] at i
    obtain ⟨n1, n2, n3, n4, n5, n6, n7, n8, n9, n10, n11, n12, n13, n14, n15⟩ := fd
    have i2 := Option.some.inj i
    simp only [Prod.mk.injEq] at i2
    obtain ⟨h1, h2, h3, h4, h5, h6, h7, h8⟩ := i2
    dsimp only at e1 e5 k2 m1
    have hd : n8 = .none := by simpa using k2
    subst h1 h2 h3 h4 h5 h6 h8 e1 e5 hd
    have hn : n = "__class__" := by simpa using h7
    subst hn
    exact ⟨_, _, _, _, _, _, _, _, _, _, _, _, _, _, _, _, _, _, _, _, _, _, _, _, _, ho, m1, e2, e3, e4, e6, hl⟩
  · cases c8
end
end HK
end
section
set_option maxRecDepth 100000
set_option maxHeartbeats 2000000
/-! DL15: lemmas for reading off -/
namespace DL
open PySem PySem.Spec L2
theorem okEq_int {a : Int} : okEq (.int a) = true := rfl
theorem okEq_bl {a : Bool} : okEq (.bl a) = true := rfl
theorem okEq_str {a : Str} (h : SeqAt.shaped (.str a) = true) : okEq (.str a) = true := h
theorem okEq_non : okEq .non = true := rfl
theorem eqD_int {a b : Int} : eqD (.int a) (.int b) = decide (a = b) := by
  unfold eqD D.py PyData.eqv
  by_cases h : a = b <;> simp [h]
theorem eqD_bl {a b : Bool} : eqD (.bl a) (.bl b) = decide (a = b) := by
  unfold eqD D.py PyData.eqv
  cases a <;> cases b <;> rfl
theorem eqD_str {a b : Str} : eqD (.str a) (.str b) = decide (a = b) := by
  unfold eqD D.py PyData.eqv
  by_cases h : a = b <;> simp [h]
theorem eqD_intTup {a : Int} {l : List D} : eqD (.int a) (.tup l) = false := rfl
theorem pyAll_ints : ∀ l : List Int, isPyL (l.map D.int) = true
  | [] => rfl
  | _ :: l => pyAll_ints l
theorem slot_some {τ : List (Option D)} {i : Nat} {Q : D → Prop} {d : D} (h : τ[i]? = some (some d)) : slot τ i Q = Q d := by unfold slot; rw [h]
theorem startD1 {n : Nat} {a : D} : startD (n + 1) [a] = some a :: List.replicate n none := rfl
theorem ty_int {M : Mst} {i : Int} : D.ty M (.int i) = some .int := rfl
theorem ty_bl {M : Mst} {i : Bool} : D.ty M (.bl i) = some .bool := rfl
theorem ty_non {M : Mst} : D.ty M .non = some .non := rfl
theorem ty_str {M : Mst} {i : Str} : D.ty M (.str i) = some .str := rfl
theorem ty_tup {M : Mst} {i : List D} : D.ty M (.tup i) = some .tuple := rfl
theorem ty_lst {M : Mst} {i : List D} : D.ty M (.lst i) = some .list := rfl
def EndsD.wnx (D : EndsD) (f : DS → Prop) : EndsD := { D with nx := f }
def EndsD.wlp (D : EndsD) (f : DS → Prop) : EndsD := { D with nx := f, ct := f, bk := D.nx }
def EndsD.wex (D : EndsD) (f : Er → DS → Prop) : EndsD := { D with ex := f }
theorem dSeq_eq {t u : TSd} {D : EndsD} {S : DS} : dSeq t u D S = t (D.wnx (u D)) S := rfl
theorem forGo_nil {g : TGd} {b : TSd} {D : EndsD} {S : DS} : forGo g b D [] S = D.nx S := rfl
theorem forGo_cons {g : TGd} {b : TSd} {ED : EndsD} {S : DS} {d : D} {r : List D} : forGo g b ED (d :: r) S = g d S fun S1 => b (ED.wlp (forGo g b ED r)) S1 := rfl
theorem wnx_nx {D : EndsD} {f : DS → Prop} : (D.wnx f).nx = f := rfl
theorem wnx_rt {D : EndsD} {f : DS → Prop} : (D.wnx f).rt = D.rt := rfl
theorem wnx_bk {D : EndsD} {f : DS → Prop} : (D.wnx f).bk = D.bk := rfl
theorem wnx_ct {D : EndsD} {f : DS → Prop} : (D.wnx f).ct = D.ct := rfl
theorem wnx_ex {D : EndsD} {f : DS → Prop} : (D.wnx f).ex = D.ex := rfl
theorem wlp_nx {D : EndsD} {f : DS → Prop} : (D.wlp f).nx = f := rfl
theorem wlp_rt {D : EndsD} {f : DS → Prop} : (D.wlp f).rt = D.rt := rfl
theorem wlp_bk {D : EndsD} {f : DS → Prop} : (D.wlp f).bk = D.nx := rfl
theorem wlp_ct {D : EndsD} {f : DS → Prop} : (D.wlp f).ct = f := rfl
theorem wlp_ex {D : EndsD} {f : DS → Prop} : (D.wlp f).ex = D.ex := rfl
theorem wex_nx {D : EndsD} {f : Er → DS → Prop} : (D.wex f).nx = D.nx := rfl
theorem wex_rt {D : EndsD} {f : Er → DS → Prop} : (D.wex f).rt = D.rt := rfl
theorem wex_bk {D : EndsD} {f : Er → DS → Prop} : (D.wex f).bk = D.bk := rfl
theorem wex_ct {D : EndsD} {f : Er → DS → Prop} : (D.wex f).ct = D.ct := rfl
theorem wex_ex {D : EndsD} {f : Er → DS → Prop} : (D.wex f).ex = f := rfl
theorem en_nx {Q : D → Mst → Prop} {E : Er → Mst → Prop} {S : DS} : (endsOf Q E).nx S = Q .non S.M := rfl
theorem en_rt {Q : D → Mst → Prop} {E : Er → Mst → Prop} : (endsOf Q E).rt = Q := rfl
theorem en_ex {Q : D → Mst → Prop} {E : Er → Mst → Prop} {S : DS} {er : Er} : (endsOf Q E).ex er S = E er S.M := rfl
theorem dTry_eq {K : PySem.W.Frag} {t : TSd} {l : List ClD} {D : EndsD} {S : DS} : dTry K t l D S = t (D.wex (tryGo K D l)) S := rfl
/-! a statement, then the rest: the rest stays closed while the statement is read -/
theorem seq_to {t u : TSd} {D : EndsD} {S S' : DS} (g : ∀ R : DS → Prop, R S' → t (D.wnx R) S) (h : u D S') : dSeq t u D S := g _ h
theorem seq_all {α : Type} {t u : TSd} {D : EndsD} {S : DS} {S' : α → DS} {P : α → Prop} (g : ∀ R : DS → Prop, (∀ x, P x → R (S' x)) → t (D.wnx R) S) (h : ∀ x, P x → u D (S' x)) : dSeq t u D S := g _ h
theorem seq_stop {t u : TSd} {D : EndsD} {S : DS} (g : ∀ R : DS → Prop, t (D.wnx R) S) : dSeq t u D S := g _
theorem if_t {c : TTd} {t u : TSd} {D : EndsD} {S S' : DS} (g : ∀ R : Bool → DS → Prop, R true S' → c S R D.ex) (h : t D S') : dIfS c t u D S := g _ (by show (if true = true then _ else _); rw [if_pos rfl]; exact h)
theorem if_f {c : TTd} {t u : TSd} {D : EndsD} {S S' : DS} (g : ∀ R : Bool → DS → Prop, R false S' → c S R D.ex) (h : u D S') : dIfS c t u D S := g _ (by show (if false = true then _ else _); rw [if_neg (by decide)]; exact h)
theorem if_b {c : TTd} {t u : TSd} {D : EndsD} {S S' : DS} (b : Bool) (g : ∀ R : Bool → DS → Prop, R b S' → c S R D.ex) (h : b = true → t D S') (h2 : b = false → u D S') : dIfS c t u D S := g _ (by
  cases b with
  | true => show (if true = true then _ else _); rw [if_pos rfl]; exact h rfl
  | false => show (if false = true then _ else _); rw [if_neg (by decide)]; exact h2 rfl)
theorem skip_if {c : TTd} {t u : TSd} {D : EndsD} {S : DS} (g : ∀ (R : Bool → DS → Prop) E, R false S → c S R E) (h : u D S) : dSeq (dIfS c t dNext) u D S := if_f (fun R hR => g R _ hR) h
theorem cond_if {c : TTd} {t u : TSd} {D : EndsD} {S S' : DS} (b : Bool) (g : ∀ (R : Bool → DS → Prop) E, R b S' → c S R E) (h : b = true → ∀ R, t (D.wnx R) S') (h2 : b = false → u D S') : dSeq (dIfS c t dNext) u D S :=
  if_b b (fun R hR => g R _ hR) (fun e => h e _) h2
theorem stop_if {c : TTd} {t u : TSd} {D : EndsD} {S S' : DS} (g : ∀ (R : Bool → DS → Prop) E, R true S' → c S R E) (h : ∀ R, t (D.wnx R) S') : dSeq (dIfS c t dNext) u D S := if_t (fun R hR => g R _ hR) (h _)
theorem or_f {t u : TTd} {S S' : DS} {Q : Bool → DS → Prop} {E : Er → DS → Prop} (g : ∀ R : Bool → DS → Prop, R false S' → t S R E) (h : u S' Q E) : dOr t u S Q E := g _ (by show (if false = true then _ else _); rw [if_neg (by decide)]; exact h)
theorem or_t {t u : TTd} {S S' : DS} {Q : Bool → DS → Prop} {E : Er → DS → Prop} (g : ∀ R : Bool → DS → Prop, R true S' → t S R E) (h : Q true S') : dOr t u S Q E := g _ (by show (if true = true then _ else _); rw [if_pos rfl]; exact h)
theorem and_t {t u : TTd} {S S' : DS} {Q : Bool → DS → Prop} {E : Er → DS → Prop} (g : ∀ R : Bool → DS → Prop, R true S' → t S R E) (h : u S' Q E) : dAnd t u S Q E := g _ (by show (if true = true then _ else _); rw [if_pos rfl]; exact h)
theorem and_f {t u : TTd} {S S' : DS} {Q : Bool → DS → Prop} {E : Er → DS → Prop} (g : ∀ R : Bool → DS → Prop, R false S' → t S R E) (h : Q false S') : dAnd t u S Q E := g _ (by show (if false = true then _ else _); rw [if_neg (by decide)]; exact h)
theorem test_str {w v : Str} {r : List (Option D)} {M : Mst} {R : Bool → DS → Prop} {E : Er → DS → Prop} (hw : okEq (.str w) = true) (hv : okEq (.str v) = true) (h : R (decide (w = v)) ⟨some (.str w) :: r, M⟩) :
    dTest (dOp oEq (dVar 0) (dC (.str v))) ⟨some (.str w) :: r, M⟩ R E := ⟨⟨hw, hv⟩, by rw [eqD_str]; exact h⟩
theorem atI0 {α : Type} {a : α} {l : List α} : atI (a :: l) 0 = some a := by
  unfold atI ixN
  rw [if_pos (by decide), if_pos (by simp)]
  rfl
theorem atI1 {α : Type} {a b : α} {l : List α} : atI (a :: b :: l) 1 = some b := by
  unfold atI ixN
  rw [if_pos (by decide), if_pos (by simp; omega)]
  rfl
theorem atI2 {α : Type} {a b c : α} {l : List α} : atI (a :: b :: c :: l) 2 = some c := by
  unfold atI ixN
  rw [if_pos (by decide), if_pos (by simp; omega)]
  rfl
theorem atI3 {α : Type} {a b c d : α} {l : List α} : atI (a :: b :: c :: d :: l) 3 = some d := by
  unfold atI ixN
  rw [if_pos (by decide), if_pos (by simp; omega)]
  rfl
theorem slot_0 {d : D} {r : List (Option D)} {Q : D → Prop} : slot (some d :: r) 0 Q = Q d := rfl
theorem set_0 {α : Type} {b x : α} {r : List α} : (b :: r).set 0 x = x :: r := rfl
theorem slot_1 {a0 : Option D} {d : D} {r : List (Option D)} {Q : D → Prop} : slot (a0 :: some d :: r) 1 Q = Q d := rfl
theorem set_1 {α : Type} {a0 : α} {b x : α} {r : List α} : (a0 :: b :: r).set 1 x = a0 :: x :: r := rfl
theorem slot_2 {a0 a1 : Option D} {d : D} {r : List (Option D)} {Q : D → Prop} : slot (a0 :: a1 :: some d :: r) 2 Q = Q d := rfl
theorem set_2 {α : Type} {a0 a1 : α} {b x : α} {r : List α} : (a0 :: a1 :: b :: r).set 2 x = a0 :: a1 :: x :: r := rfl
theorem slot_3 {a0 a1 a2 : Option D} {d : D} {r : List (Option D)} {Q : D → Prop} : slot (a0 :: a1 :: a2 :: some d :: r) 3 Q = Q d := rfl
theorem set_3 {α : Type} {a0 a1 a2 : α} {b x : α} {r : List α} : (a0 :: a1 :: a2 :: b :: r).set 3 x = a0 :: a1 :: a2 :: x :: r := rfl
theorem slot_4 {a0 a1 a2 a3 : Option D} {d : D} {r : List (Option D)} {Q : D → Prop} : slot (a0 :: a1 :: a2 :: a3 :: some d :: r) 4 Q = Q d := rfl
theorem set_4 {α : Type} {a0 a1 a2 a3 : α} {b x : α} {r : List α} : (a0 :: a1 :: a2 :: a3 :: b :: r).set 4 x = a0 :: a1 :: a2 :: a3 :: x :: r := rfl
theorem slot_5 {a0 a1 a2 a3 a4 : Option D} {d : D} {r : List (Option D)} {Q : D → Prop} : slot (a0 :: a1 :: a2 :: a3 :: a4 :: some d :: r) 5 Q = Q d := rfl
theorem set_5 {α : Type} {a0 a1 a2 a3 a4 : α} {b x : α} {r : List α} : (a0 :: a1 :: a2 :: a3 :: a4 :: b :: r).set 5 x = a0 :: a1 :: a2 :: a3 :: a4 :: x :: r := rfl
theorem slot_6 {a0 a1 a2 a3 a4 a5 : Option D} {d : D} {r : List (Option D)} {Q : D → Prop} : slot (a0 :: a1 :: a2 :: a3 :: a4 :: a5 :: some d :: r) 6 Q = Q d := rfl
theorem set_6 {α : Type} {a0 a1 a2 a3 a4 a5 : α} {b x : α} {r : List α} : (a0 :: a1 :: a2 :: a3 :: a4 :: a5 :: b :: r).set 6 x = a0 :: a1 :: a2 :: a3 :: a4 :: a5 :: x :: r := rfl
theorem slot_7 {a0 a1 a2 a3 a4 a5 a6 : Option D} {d : D} {r : List (Option D)} {Q : D → Prop} : slot (a0 :: a1 :: a2 :: a3 :: a4 :: a5 :: a6 :: some d :: r) 7 Q = Q d := rfl
theorem set_7 {α : Type} {a0 a1 a2 a3 a4 a5 a6 : α} {b x : α} {r : List α} : (a0 :: a1 :: a2 :: a3 :: a4 :: a5 :: a6 :: b :: r).set 7 x = a0 :: a1 :: a2 :: a3 :: a4 :: a5 :: a6 :: x :: r := rfl
theorem slot_8 {a0 a1 a2 a3 a4 a5 a6 a7 : Option D} {d : D} {r : List (Option D)} {Q : D → Prop} : slot (a0 :: a1 :: a2 :: a3 :: a4 :: a5 :: a6 :: a7 :: some d :: r) 8 Q = Q d := rfl
theorem set_8 {α : Type} {a0 a1 a2 a3 a4 a5 a6 a7 : α} {b x : α} {r : List α} : (a0 :: a1 :: a2 :: a3 :: a4 :: a5 :: a6 :: a7 :: b :: r).set 8 x = a0 :: a1 :: a2 :: a3 :: a4 :: a5 :: a6 :: a7 :: x :: r := rfl
theorem slot_9 {a0 a1 a2 a3 a4 a5 a6 a7 a8 : Option D} {d : D} {r : List (Option D)} {Q : D → Prop} : slot (a0 :: a1 :: a2 :: a3 :: a4 :: a5 :: a6 :: a7 :: a8 :: some d :: r) 9 Q = Q d := rfl
theorem set_9 {α : Type} {a0 a1 a2 a3 a4 a5 a6 a7 a8 : α} {b x : α} {r : List α} : (a0 :: a1 :: a2 :: a3 :: a4 :: a5 :: a6 :: a7 :: a8 :: b :: r).set 9 x = a0 :: a1 :: a2 :: a3 :: a4 :: a5 :: a6 :: a7 :: a8 :: x :: r := rfl
theorem slot_10 {a0 a1 a2 a3 a4 a5 a6 a7 a8 a9 : Option D} {d : D} {r : List (Option D)} {Q : D → Prop} : slot (a0 :: a1 :: a2 :: a3 :: a4 :: a5 :: a6 :: a7 :: a8 :: a9 :: some d :: r) 10 Q = Q d := rfl
theorem set_10 {α : Type} {a0 a1 a2 a3 a4 a5 a6 a7 a8 a9 : α} {b x : α} {r : List α} : (a0 :: a1 :: a2 :: a3 :: a4 :: a5 :: a6 :: a7 :: a8 :: a9 :: b :: r).set 10 x = a0 :: a1 :: a2 :: a3 :: a4 :: a5 :: a6 :: a7 :: a8 :: a9 :: x :: r := rfl
theorem slot_11 {a0 a1 a2 a3 a4 a5 a6 a7 a8 a9 a10 : Option D} {d : D} {r : List (Option D)} {Q : D → Prop} : slot (a0 :: a1 :: a2 :: a3 :: a4 :: a5 :: a6 :: a7 :: a8 :: a9 :: a10 :: some d :: r) 11 Q = Q d := rfl
theorem set_11 {α : Type} {a0 a1 a2 a3 a4 a5 a6 a7 a8 a9 a10 : α} {b x : α} {r : List α} : (a0 :: a1 :: a2 :: a3 :: a4 :: a5 :: a6 :: a7 :: a8 :: a9 :: a10 :: b :: r).set 11 x = a0 :: a1 :: a2 :: a3 :: a4 :: a5 :: a6 :: a7 :: a8 :: a9 :: a10 :: x :: r := rfl
theorem slot_12 {a0 a1 a2 a3 a4 a5 a6 a7 a8 a9 a10 a11 : Option D} {d : D} {r : List (Option D)} {Q : D → Prop} : slot (a0 :: a1 :: a2 :: a3 :: a4 :: a5 :: a6 :: a7 :: a8 :: a9 :: a10 :: a11 :: some d :: r) 12 Q = Q d := rfl
theorem set_12 {α : Type} {a0 a1 a2 a3 a4 a5 a6 a7 a8 a9 a10 a11 : α} {b x : α} {r : List α} : (a0 :: a1 :: a2 :: a3 :: a4 :: a5 :: a6 :: a7 :: a8 :: a9 :: a10 :: a11 :: b :: r).set 12 x = a0 :: a1 :: a2 :: a3 :: a4 :: a5 :: a6 :: a7 :: a8 :: a9 :: a10 :: a11 :: x :: r := rfl
theorem slot_13 {a0 a1 a2 a3 a4 a5 a6 a7 a8 a9 a10 a11 a12 : Option D} {d : D} {r : List (Option D)} {Q : D → Prop} : slot (a0 :: a1 :: a2 :: a3 :: a4 :: a5 :: a6 :: a7 :: a8 :: a9 :: a10 :: a11 :: a12 :: some d :: r) 13 Q = Q d := rfl
theorem set_13 {α : Type} {a0 a1 a2 a3 a4 a5 a6 a7 a8 a9 a10 a11 a12 : α} {b x : α} {r : List α} : (a0 :: a1 :: a2 :: a3 :: a4 :: a5 :: a6 :: a7 :: a8 :: a9 :: a10 :: a11 :: a12 :: b :: r).set 13 x = a0 :: a1 :: a2 :: a3 :: a4 :: a5 :: a6 :: a7 :: a8 :: a9 :: a10 :: a11 :: a12 :: x :: r := rfl
theorem slot_14 {a0 a1 a2 a3 a4 a5 a6 a7 a8 a9 a10 a11 a12 a13 : Option D} {d : D} {r : List (Option D)} {Q : D → Prop} : slot (a0 :: a1 :: a2 :: a3 :: a4 :: a5 :: a6 :: a7 :: a8 :: a9 :: a10 :: a11 :: a12 :: a13 :: some d :: r) 14 Q = Q d := rfl
theorem set_14 {α : Type} {a0 a1 a2 a3 a4 a5 a6 a7 a8 a9 a10 a11 a12 a13 : α} {b x : α} {r : List α} : (a0 :: a1 :: a2 :: a3 :: a4 :: a5 :: a6 :: a7 :: a8 :: a9 :: a10 :: a11 :: a12 :: a13 :: b :: r).set 14 x = a0 :: a1 :: a2 :: a3 :: a4 :: a5 :: a6 :: a7 :: a8 :: a9 :: a10 :: a11 :: a12 :: a13 :: x :: r := rfl
theorem slot_15 {a0 a1 a2 a3 a4 a5 a6 a7 a8 a9 a10 a11 a12 a13 a14 : Option D} {d : D} {r : List (Option D)} {Q : D → Prop} : slot (a0 :: a1 :: a2 :: a3 :: a4 :: a5 :: a6 :: a7 :: a8 :: a9 :: a10 :: a11 :: a12 :: a13 :: a14 :: some d :: r) 15 Q = Q d := rfl
theorem set_15 {α : Type} {a0 a1 a2 a3 a4 a5 a6 a7 a8 a9 a10 a11 a12 a13 a14 : α} {b x : α} {r : List α} : (a0 :: a1 :: a2 :: a3 :: a4 :: a5 :: a6 :: a7 :: a8 :: a9 :: a10 :: a11 :: a12 :: a13 :: a14 :: b :: r).set 15 x = a0 :: a1 :: a2 :: a3 :: a4 :: a5 :: a6 :: a7 :: a8 :: a9 :: a10 :: a11 :: a12 :: a13 :: a14 :: x :: r := rfl
theorem slot_16 {a0 a1 a2 a3 a4 a5 a6 a7 a8 a9 a10 a11 a12 a13 a14 a15 : Option D} {d : D} {r : List (Option D)} {Q : D → Prop} : slot (a0 :: a1 :: a2 :: a3 :: a4 :: a5 :: a6 :: a7 :: a8 :: a9 :: a10 :: a11 :: a12 :: a13 :: a14 :: a15 :: some d :: r) 16 Q = Q d := rfl
theorem set_16 {α : Type} {a0 a1 a2 a3 a4 a5 a6 a7 a8 a9 a10 a11 a12 a13 a14 a15 : α} {b x : α} {r : List α} : (a0 :: a1 :: a2 :: a3 :: a4 :: a5 :: a6 :: a7 :: a8 :: a9 :: a10 :: a11 :: a12 :: a13 :: a14 :: a15 :: b :: r).set 16 x = a0 :: a1 :: a2 :: a3 :: a4 :: a5 :: a6 :: a7 :: a8 :: a9 :: a10 :: a11 :: a12 :: a13 :: a14 :: a15 :: x :: r := rfl
theorem slot_17 {a0 a1 a2 a3 a4 a5 a6 a7 a8 a9 a10 a11 a12 a13 a14 a15 a16 : Option D} {d : D} {r : List (Option D)} {Q : D → Prop} : slot (a0 :: a1 :: a2 :: a3 :: a4 :: a5 :: a6 :: a7 :: a8 :: a9 :: a10 :: a11 :: a12 :: a13 :: a14 :: a15 :: a16 :: some d :: r) 17 Q = Q d := rfl
theorem set_17 {α : Type} {a0 a1 a2 a3 a4 a5 a6 a7 a8 a9 a10 a11 a12 a13 a14 a15 a16 : α} {b x : α} {r : List α} : (a0 :: a1 :: a2 :: a3 :: a4 :: a5 :: a6 :: a7 :: a8 :: a9 :: a10 :: a11 :: a12 :: a13 :: a14 :: a15 :: a16 :: b :: r).set 17 x = a0 :: a1 :: a2 :: a3 :: a4 :: a5 :: a6 :: a7 :: a8 :: a9 :: a10 :: a11 :: a12 :: a13 :: a14 :: a15 :: a16 :: x :: r := rfl
theorem isT_non_non : isT .non .non = true := rfl
theorem isT_non_bool : isT .non .bool = false := rfl
theorem isT_non_int : isT .non .int = false := rfl
theorem isT_non_str : isT .non .str = false := rfl
theorem isT_non_tuple : isT .non .tuple = false := rfl
theorem isT_non_list : isT .non .list = false := rfl
theorem isT_non_dict : isT .non .dict = false := rfl
theorem isT_bool_non : isT .bool .non = false := rfl
theorem isT_bool_bool : isT .bool .bool = true := rfl
theorem isT_bool_int : isT .bool .int = true := rfl
theorem isT_bool_str : isT .bool .str = false := rfl
theorem isT_bool_tuple : isT .bool .tuple = false := rfl
theorem isT_bool_list : isT .bool .list = false := rfl
theorem isT_bool_dict : isT .bool .dict = false := rfl
theorem isT_int_non : isT .int .non = false := rfl
theorem isT_int_bool : isT .int .bool = false := rfl
theorem isT_int_int : isT .int .int = true := rfl
theorem isT_int_str : isT .int .str = false := rfl
theorem isT_int_tuple : isT .int .tuple = false := rfl
theorem isT_int_list : isT .int .list = false := rfl
theorem isT_int_dict : isT .int .dict = false := rfl
theorem isT_str_non : isT .str .non = false := rfl
theorem isT_str_bool : isT .str .bool = false := rfl
theorem isT_str_int : isT .str .int = false := rfl
theorem isT_str_str : isT .str .str = true := rfl
theorem isT_str_tuple : isT .str .tuple = false := rfl
theorem isT_str_list : isT .str .list = false := rfl
theorem isT_str_dict : isT .str .dict = false := rfl
theorem isT_tuple_non : isT .tuple .non = false := rfl
theorem isT_tuple_bool : isT .tuple .bool = false := rfl
theorem isT_tuple_int : isT .tuple .int = false := rfl
theorem isT_tuple_str : isT .tuple .str = false := rfl
theorem isT_tuple_tuple : isT .tuple .tuple = true := rfl
theorem isT_tuple_list : isT .tuple .list = false := rfl
theorem isT_tuple_dict : isT .tuple .dict = false := rfl
theorem isT_list_non : isT .list .non = false := rfl
theorem isT_list_bool : isT .list .bool = false := rfl
theorem isT_list_int : isT .list .int = false := rfl
theorem isT_list_str : isT .list .str = false := rfl
theorem isT_list_tuple : isT .list .tuple = false := rfl
theorem isT_list_list : isT .list .list = true := rfl
theorem isT_list_dict : isT .list .dict = false := rfl
theorem isT_dict_non : isT .dict .non = false := rfl
theorem isT_dict_bool : isT .dict .bool = false := rfl
theorem isT_dict_int : isT .dict .int = false := rfl
theorem isT_dict_str : isT .dict .str = false := rfl
theorem isT_dict_tuple : isT .dict .tuple = false := rfl
theorem isT_dict_list : isT .dict .list = false := rfl
theorem isT_dict_dict : isT .dict .dict = true := rfl
end DL
end
section
set_option maxRecDepth 100000
set_option maxHeartbeats 2000000
/-! DL16: the law's own def, at the end -/
namespace DL
open PySem PySem.Spec L2
section
variable {P : Program} {w : World} {K : PySem.W.Frag} {mg : Str → Option Value} {base : Heap} {k : Nat} {f : Addr} {fd fd' : FuncData} {ps : List Str}
theorem to0 {sp : Sp} (F : FnOk P w K mg base (L2.CX P w) k f fd ps sp) : FnOk P w K mg base L2.CX0 k f fd ps fun vs H Q _ => sp vs H Q fun _ _ _ => False :=
  ⟨fun vs H Q E h => F.len _ _ _ _ h, fun A outer s H args us vs Q E hr he hb hv hs => codeAny_mono (F.run A outer s H args us vs Q _ hr he hb hv hs) fun r s' hq => by
    cases r with
    | error e =>
      obtain ⟨_, _, _, _, _, _, _, _, _, _, _, _, z⟩ := hq
      exact z.elim
    | ok fl => cases fl <;> exact hq⟩
theorem fun_same {x q : Str} {ar : Arguments} {b : List Stmt} {sc : Scope} (F : FunD K x q ar b sc [] [] f fd) (F' : FunD K x q ar b sc [] [] f fd') : fd' = fd := by
  obtain ⟨oc, od, dV, kV, doc, pm, an, cdv, ct, osl, e, lk, _⟩ := F.ex
  obtain ⟨oc', od', dV', kV', doc', pm', an', cdv', ct', osl', e', lk', _⟩ := F'.ex
  rw [lk] at lk'
  injection lk' with h
  injection h with h1 h2 h3 h4
  injection h3 with h5
  exact h5.symm
theorem scr_of {H : Hp} {a : Addr} {ns : List Int} (hO : Only H) (hS : SqL K H a (ns.map V.int)) : StScr K H a (ns.map V.int) := by
  rcases hS with (h | ⟨o, h⟩) | h
  · rcases hO a with e | ⟨o, xs, e⟩
    · rw [h] at e; cases e
    · rw [h] at e; cases e
  · exact .inl ⟨o, h⟩
  · exact .inr h
/-- at the end -/
theorem law_end {x : Str} {st : Stmt} {sp : SpD} {n : Nat} {fa : Addr} (Fn : ∃ f fd, FunD K x x (defArgs st) (defBody st) (defScope st) [] [] f fd ∧ mg x = some (.ref f)) (hfa : mg x = some (.ref fa)) (F : ∀ base : Heap, FD P w K mg base x st ["script"] k sp)
    (hb : ∀ fd, FunD K x x (defArgs st) (defBody st) (defScope st) [] [] fa fd → ∀ (s : Shared) (u : Value), BindsTo s fd ⟨[u], []⟩ [("script", u)])
    (hsp : ∀ l : List Int, l.length ≤ n → sp [.scr l] (fun _ => none) (fun d _ => d = .bl true) fun _ _ => False) :
    ∃ (fd : FuncData) (sp' : Sp), (∀ (s : Shared) (u : Value), BindsTo s fd ⟨[u], []⟩ [("script", u)]) ∧ (∀ (H : Hp) (a : Addr) (ns : List Int), ns.length ≤ n → Only H → SqL K H a (ns.map V.int) → sp' [.ref a] H (fun v _ => v = .bl true) fun _ _ _ => False) ∧
      ∀ base : Heap, FnOk P w K mg base L2.CX0 k fa fd ["script"] sp' := by
  obtain ⟨f, fd, F0, hm⟩ := Fn
  have e : f = fa := by rw [hm] at hfa; cases hfa; rfl
  subst e
  refine ⟨fd, fun vs H Q _ => liftSp K sp vs H Q fun _ _ _ => False, hb fd F0, fun H a ns hl hO hS => ?_, fun base => ?_⟩
  · refine ⟨[.scr ns], fun _ => none, _, _, .cons (.scr (scr_of hO hS)) .nil, fun a c e => (by cases e), fun d M' v H' _ _ r q => ?_, fun er M' cls d H' _ _ _ q => q, hsp ns hl⟩
    subst q
    exact rep_bl r
  · obtain ⟨f', fd', F1, F2, F3, F4⟩ := (F base).ex
    have e : f' = f := by rw [hm] at F3; cases F3; rfl
    subst e
    have e2 := fun_same F0 F2
    subst e2
    exact to0 F1
end
end DL
end
section
set_option maxRecDepth 100000
set_option maxHeartbeats 4000000
namespace K01
open PySem PySem.Spec L2 DL
def top (i : Nat) : Stmt := PySem.Challenge.pw_everyweight_k01_fractions.main.body.getD i (.Pass ⟨0, 0, 0, 0⟩)
/-! is_whole -/
abbrev s_is_whole : Stmt := top 8
abbrev N_is_whole : List Str := ["value"]
abbrev P_is_whole : List Str := ["value"]
theorem sc_is_whole : FnScope N_is_whole P_is_whole (defScope s_is_whole) := ⟨rfl, rfl, rfl, by decide +kernel, rfl, by decide +kernel, by decide +kernel⟩
/-! is_ratio -/
abbrev s_is_ratio : Stmt := top 9
abbrev N_is_ratio : List Str := ["value"]
abbrev P_is_ratio : List Str := ["value"]
theorem sc_is_ratio : FnScope N_is_ratio P_is_ratio (defScope s_is_ratio) := ⟨rfl, rfl, rfl, by decide +kernel, rfl, by decide +kernel, by decide +kernel⟩
/-! lowest -/
abbrev s_lowest : Stmt := top 10
abbrev N_lowest : List Str := ["top", "bottom", "shared"]
abbrev P_lowest : List Str := ["top", "bottom"]
theorem sc_lowest : FnScope N_lowest P_lowest (defScope s_lowest) := ⟨rfl, rfl, rfl, by decide +kernel, rfl, by decide +kernel, by decide +kernel⟩
/-! add -/
abbrev s_add : Stmt := top 11
abbrev N_add : List Str := ["one", "other"]
abbrev P_add : List Str := ["one", "other"]
theorem sc_add : FnScope N_add P_add (defScope s_add) := ⟨rfl, rfl, rfl, by decide +kernel, rfl, by decide +kernel, by decide +kernel⟩
/-! sub -/
abbrev s_sub : Stmt := top 12
abbrev N_sub : List Str := ["one", "other"]
abbrev P_sub : List Str := ["one", "other"]
theorem sc_sub : FnScope N_sub P_sub (defScope s_sub) := ⟨rfl, rfl, rfl, by decide +kernel, rfl, by decide +kernel, by decide +kernel⟩
/-! mul -/
abbrev s_mul : Stmt := top 13
abbrev N_mul : List Str := ["one", "other"]
abbrev P_mul : List Str := ["one", "other"]
theorem sc_mul : FnScope N_mul P_mul (defScope s_mul) := ⟨rfl, rfl, rfl, by decide +kernel, rfl, by decide +kernel, by decide +kernel⟩
/-! div -/
abbrev s_div : Stmt := top 14
abbrev N_div : List Str := ["one", "other"]
abbrev P_div : List Str := ["one", "other"]
theorem sc_div : FnScope N_div P_div (defScope s_div) := ⟨rfl, rfl, rfl, by decide +kernel, rfl, by decide +kernel, by decide +kernel⟩
/-! compared -/
abbrev s_compared : Stmt := top 15
abbrev N_compared : List Str := ["one", "other", "difference"]
abbrev P_compared : List Str := ["one", "other"]
theorem sc_compared : FnScope N_compared P_compared (defScope s_compared) := ⟨rfl, rfl, rfl, by decide +kernel, rfl, by decide +kernel, by decide +kernel⟩
/-! check_fractions -/
abbrev s_check_fractions : Stmt := top 16
abbrev N_check_fractions : List Str := ["one", "other", "value"]
abbrev P_check_fractions : List Str := ["one", "other"]
theorem sc_check_fractions : FnScope N_check_fractions P_check_fractions (defScope s_check_fractions) := ⟨rfl, rfl, rfl, by decide +kernel, rfl, by decide +kernel, by decide +kernel⟩
/-! is_fraction -/
abbrev s_is_fraction : Stmt := top 17
abbrev N_is_fraction : List Str := ["value"]
abbrev P_is_fraction : List Str := ["value"]
theorem sc_is_fraction : FnScope N_is_fraction P_is_fraction (defScope s_is_fraction) := ⟨rfl, rfl, rfl, by decide +kernel, rfl, by decide +kernel, by decide +kernel⟩
/-! fraction -/
abbrev s_fraction : Stmt := top 18
abbrev N_fraction : List Str := ["top", "bottom", "value"]
abbrev P_fraction : List Str := ["top", "bottom"]
theorem sc_fraction : FnScope N_fraction P_fraction (defScope s_fraction) := ⟨rfl, rfl, rfl, by decide +kernel, rfl, by decide +kernel, by decide +kernel⟩
/-! plus -/
abbrev s_plus : Stmt := top 19
abbrev N_plus : List Str := ["one", "other"]
abbrev P_plus : List Str := ["one", "other"]
theorem sc_plus : FnScope N_plus P_plus (defScope s_plus) := ⟨rfl, rfl, rfl, by decide +kernel, rfl, by decide +kernel, by decide +kernel⟩
/-! minus -/
abbrev s_minus : Stmt := top 20
abbrev N_minus : List Str := ["one", "other"]
abbrev P_minus : List Str := ["one", "other"]
theorem sc_minus : FnScope N_minus P_minus (defScope s_minus) := ⟨rfl, rfl, rfl, by decide +kernel, rfl, by decide +kernel, by decide +kernel⟩
/-! times -/
abbrev s_times : Stmt := top 21
abbrev N_times : List Str := ["one", "other"]
abbrev P_times : List Str := ["one", "other"]
theorem sc_times : FnScope N_times P_times (defScope s_times) := ⟨rfl, rfl, rfl, by decide +kernel, rfl, by decide +kernel, by decide +kernel⟩
/-! over -/
abbrev s_over : Stmt := top 22
abbrev N_over : List Str := ["one", "other"]
abbrev P_over : List Str := ["one", "other"]
theorem sc_over : FnScope N_over P_over (defScope s_over) := ⟨rfl, rfl, rfl, by decide +kernel, rfl, by decide +kernel, by decide +kernel⟩
/-! order -/
abbrev s_order : Stmt := top 23
abbrev N_order : List Str := ["one", "other"]
abbrev P_order : List Str := ["one", "other"]
theorem sc_order : FnScope N_order P_order (defScope s_order) := ⟨rfl, rfl, rfl, by decide +kernel, rfl, by decide +kernel, by decide +kernel⟩
/-! _law_cell -/
abbrev s_law_cell : Stmt := top 25
abbrev N_law_cell : List Str := ["script", "k"]
abbrev P_law_cell : List Str := ["script", "k"]
theorem sc_law_cell : FnScope N_law_cell P_law_cell (defScope s_law_cell) := ⟨rfl, rfl, rfl, by decide +kernel, rfl, by decide +kernel, by decide +kernel⟩
/-! _law_box -/
abbrev s_law_box : Stmt := top 26
abbrev N_law_box : List Str := ["great"]
abbrev P_law_box : List Str := ["great"]
theorem sc_law_box : FnScope N_law_box P_law_box (defScope s_law_box) := ⟨rfl, rfl, rfl, by decide +kernel, rfl, by decide +kernel, by decide +kernel⟩
/-! _law_take -/
abbrev s_law_take : Stmt := top 27
abbrev N_law_take : List Str := ["box", "many", "digit", "mixed"]
abbrev P_law_take : List Str := ["box", "many"]
theorem sc_law_take : FnScope N_law_take P_law_take (defScope s_law_take) := ⟨rfl, rfl, rfl, by decide +kernel, rfl, by decide +kernel, by decide +kernel⟩
/-! _law_same -/
abbrev s_law_same : Stmt := top 28
abbrev N_law_same : List Str := ["told", "due", "k", "key"]
abbrev P_law_same : List Str := ["told", "due"]
theorem sc_law_same : FnScope N_law_same P_law_same (defScope s_law_same) := ⟨rfl, rfl, rfl, by decide +kernel, rfl, by decide +kernel, by decide +kernel⟩
/-! _law_very -/
abbrev s_law_very : Stmt := top 29
abbrev N_law_very : List Str := ["told", "value"]
abbrev P_law_very : List Str := ["told", "value"]
theorem sc_law_very : FnScope N_law_very P_law_very (defScope s_law_very) := ⟨rfl, rfl, rfl, by decide +kernel, rfl, by decide +kernel, by decide +kernel⟩
/-! _law_low -/
abbrev s_law_low : Stmt := top 30
abbrev N_law_low : List Str := ["n", "d", "a", "b"]
abbrev P_law_low : List Str := ["n", "d"]
theorem sc_law_low : FnScope N_law_low P_law_low (defScope s_law_low) := ⟨rfl, rfl, rfl, by decide +kernel, rfl, by decide +kernel, by decide +kernel⟩
/-! _law_plus -/
abbrev s_law_plus : Stmt := top 31
abbrev N_law_plus : List Str := ["x", "y"]
abbrev P_law_plus : List Str := ["x", "y"]
theorem sc_law_plus : FnScope N_law_plus P_law_plus (defScope s_law_plus) := ⟨rfl, rfl, rfl, by decide +kernel, rfl, by decide +kernel, by decide +kernel⟩
/-! _law_minus -/
abbrev s_law_minus : Stmt := top 32
abbrev N_law_minus : List Str := ["x", "y"]
abbrev P_law_minus : List Str := ["x", "y"]
theorem sc_law_minus : FnScope N_law_minus P_law_minus (defScope s_law_minus) := ⟨rfl, rfl, rfl, by decide +kernel, rfl, by decide +kernel, by decide +kernel⟩
/-! _law_times -/
abbrev s_law_times : Stmt := top 33
abbrev N_law_times : List Str := ["x", "y"]
abbrev P_law_times : List Str := ["x", "y"]
theorem sc_law_times : FnScope N_law_times P_law_times (defScope s_law_times) := ⟨rfl, rfl, rfl, by decide +kernel, rfl, by decide +kernel, by decide +kernel⟩
/-! _law_over -/
abbrev s_law_over : Stmt := top 34
abbrev N_law_over : List Str := ["x", "y"]
abbrev P_law_over : List Str := ["x", "y"]
theorem sc_law_over : FnScope N_law_over P_law_over (defScope s_law_over) := ⟨rfl, rfl, rfl, by decide +kernel, rfl, by decide +kernel, by decide +kernel⟩
/-! _law_integer -/
abbrev s_law_integer : Stmt := top 35
abbrev N_law_integer : List Str := ["box", "way", "most", "found"]
abbrev P_law_integer : List Str := ["box"]
theorem sc_law_integer : FnScope N_law_integer P_law_integer (defScope s_law_integer) := ⟨rfl, rfl, rfl, by decide +kernel, rfl, by decide +kernel, by decide +kernel⟩
/-! _law_fraction -/
abbrev s_law_fraction : Stmt := top 36
abbrev N_law_fraction : List Str := ["box"]
abbrev P_law_fraction : List Str := ["box"]
theorem sc_law_fraction : FnScope N_law_fraction P_law_fraction (defScope s_law_fraction) := ⟨rfl, rfl, rfl, by decide +kernel, rfl, by decide +kernel, by decide +kernel⟩
/-! _law_beside -/
abbrev s_law_beside : Stmt := top 37
abbrev N_law_beside : List Str := ["box", "x", "way"]
abbrev P_law_beside : List Str := ["box", "x"]
theorem sc_law_beside : FnScope N_law_beside P_law_beside (defScope s_law_beside) := ⟨rfl, rfl, rfl, by decide +kernel, rfl, by decide +kernel, by decide +kernel⟩
/-! _law_strange -/
abbrev s_law_strange : Stmt := top 38
abbrev N_law_strange : List Str := ["x", "at", "n", "d", "menu"]
abbrev P_law_strange : List Str := ["x", "at"]
theorem sc_law_strange : FnScope N_law_strange P_law_strange (defScope s_law_strange) := ⟨rfl, rfl, rfl, by decide +kernel, rfl, by decide +kernel, by decide +kernel⟩
/-! _law_no_integer -/
abbrev s_law_no_integer : Stmt := top 39
abbrev N_law_no_integer : List Str := ["x", "at"]
abbrev P_law_no_integer : List Str := ["x", "at"]
theorem sc_law_no_integer : FnScope N_law_no_integer P_law_no_integer (defScope s_law_no_integer) := ⟨rfl, rfl, rfl, by decide +kernel, rfl, by decide +kernel, by decide +kernel⟩
/-! _law_is_own -/
abbrev s_law_is_own : Stmt := top 40
abbrev N_law_is_own : List Str := ["value", "part"]
abbrev P_law_is_own : List Str := ["value"]
theorem sc_law_is_own : FnScope N_law_is_own P_law_is_own (defScope s_law_is_own) := ⟨rfl, rfl, rfl, by decide +kernel, rfl, by decide +kernel, by decide +kernel⟩
/-! _law_ask -/
abbrev s_law_ask : Stmt := top 41
abbrev N_law_ask : List Str := ["which", "one", "other", "named", "e"]
abbrev P_law_ask : List Str := ["which", "one", "other", "named"]
theorem sc_law_ask : FnScope N_law_ask P_law_ask (defScope s_law_ask) := ⟨rfl, rfl, rfl, by decide +kernel, rfl, by decide +kernel, by decide +kernel⟩
/-! _law_due -/
abbrev s_law_due : Stmt := top 42
abbrev N_law_due : List Str := ["which", "x", "y", "gap"]
abbrev P_law_due : List Str := ["which", "x", "y"]
theorem sc_law_due : FnScope N_law_due P_law_due (defScope s_law_due) := ⟨rfl, rfl, rfl, by decide +kernel, rfl, by decide +kernel, by decide +kernel⟩
/-! _law_judged_right -/
abbrev s_law_judged_right : Stmt := top 43
abbrev N_law_judged_right : List Str := ["box", "x", "named", "values", "value", "turn"]
abbrev P_law_judged_right : List Str := ["box", "x", "named"]
theorem sc_law_judged_right : FnScope N_law_judged_right P_law_judged_right (defScope s_law_judged_right) := ⟨rfl, rfl, rfl, by decide +kernel, rfl, by decide +kernel, by decide +kernel⟩
/-! _law_made_right -/
abbrev s_law_made_right : Stmt := top 44
abbrev N_law_made_right : List Str := ["box", "named", "share", "top", "bottom", "x", "y"]
abbrev P_law_made_right : List Str := ["box", "named"]
theorem sc_law_made_right : FnScope N_law_made_right P_law_made_right (defScope s_law_made_right) := ⟨rfl, rfl, rfl, by decide +kernel, rfl, by decide +kernel, by decide +kernel⟩
/-! _law_chain_right -/
abbrev s_law_chain_right : Stmt := top 45
abbrev N_law_chain_right : List Str := ["box", "x", "y", "named", "first", "turn", "which", "due"]
abbrev P_law_chain_right : List Str := ["box", "x", "y", "named"]
theorem sc_law_chain_right : FnScope N_law_chain_right P_law_chain_right (defScope s_law_chain_right) := ⟨rfl, rfl, rfl, by decide +kernel, rfl, by decide +kernel, by decide +kernel⟩
/-! _law_refused_right -/
abbrev s_law_refused_right : Stmt := top 46
abbrev N_law_refused_right : List Str := ["box", "x", "named", "which", "here", "there", "way", "wrong", "more", "one", "other", "value", "given", "top", "bottom"]
abbrev P_law_refused_right : List Str := ["box", "x", "named"]
theorem sc_law_refused_right : FnScope N_law_refused_right P_law_refused_right (defScope s_law_refused_right) := ⟨rfl, rfl, rfl, by decide +kernel, rfl, by decide +kernel, by decide +kernel⟩
/-! law -/
abbrev s_law : Stmt := top 47
abbrev N_law : List Str := ["script", "k", "box", "named", "x", "y"]
abbrev P_law : List Str := ["script"]
theorem sc_law : FnScope N_law P_law (defScope s_law) := ⟨rfl, rfl, rfl, by decide +kernel, rfl, by decide +kernel, by decide +kernel⟩
/-! what the head tells -/
structure Fs (P : Program) (K : PySem.W.Frag) (mg : Str → Option Value) : Prop where
  g_gcd : mg "gcd" = some (.builtin "math.gcd")
  c_ZERO : mg "ZERO" = some (.ref (He.ga K "ZERO"))
  r_ZERO : ∀ H, Rep K H (.ref (He.ga K "ZERO")) (.tup [(.int 0), (.int 1)])
  e_DividedByZero : ErrNul P K mg "DividedByZero" (He.ga K "DividedByZero")
  e_InvalidFraction : ErrOne P K mg "InvalidFraction" (He.ga K "InvalidFraction")
  e_InvalidInteger : ErrOne P K mg "InvalidInteger" (He.ga K "InvalidInteger")
  f_abs : mg "abs" = none
  f_bool : mg "bool" = none
  f_dict : mg "dict" = none
  f_int : mg "int" = none
  f_isinstance : mg "isinstance" = none
  f_len : mg "len" = none
  f_list : mg "list" = none
  f_max : mg "max" = none
  f_min : mg "min" = none
  f_range : mg "range" = none
  f_str : mg "str" = none
  f_sum : mg "sum" = none
  f_tuple : mg "tuple" = none
  t_DividedByZero : XfC K (He.ga K "DividedByZero") ∧ PySem.W.findIn K (.ref (He.ga K "DividedByZero")) "given" = some none
  x_DividedByZero_DividedByZero : PySem.W.exmOne K (.ref (He.ga K "DividedByZero")) (.ref (He.ga K "DividedByZero")) = some true
  x_DividedByZero_InvalidFraction : PySem.W.exmOne K (.ref (He.ga K "DividedByZero")) (.ref (He.ga K "InvalidFraction")) = some false
  x_DividedByZero_InvalidInteger : PySem.W.exmOne K (.ref (He.ga K "DividedByZero")) (.ref (He.ga K "InvalidInteger")) = some false
  t_InvalidFraction : XfC K (He.ga K "InvalidFraction") ∧ PySem.W.findIn K (.ref (He.ga K "InvalidFraction")) "given" = some none
  x_InvalidFraction_DividedByZero : PySem.W.exmOne K (.ref (He.ga K "InvalidFraction")) (.ref (He.ga K "DividedByZero")) = some false
  x_InvalidFraction_InvalidFraction : PySem.W.exmOne K (.ref (He.ga K "InvalidFraction")) (.ref (He.ga K "InvalidFraction")) = some true
  x_InvalidFraction_InvalidInteger : PySem.W.exmOne K (.ref (He.ga K "InvalidFraction")) (.ref (He.ga K "InvalidInteger")) = some false
  t_InvalidInteger : XfC K (He.ga K "InvalidInteger") ∧ PySem.W.findIn K (.ref (He.ga K "InvalidInteger")) "given" = some none
  x_InvalidInteger_DividedByZero : PySem.W.exmOne K (.ref (He.ga K "InvalidInteger")) (.ref (He.ga K "DividedByZero")) = some false
  x_InvalidInteger_InvalidFraction : PySem.W.exmOne K (.ref (He.ga K "InvalidInteger")) (.ref (He.ga K "InvalidFraction")) = some false
  x_InvalidInteger_InvalidInteger : PySem.W.exmOne K (.ref (He.ga K "InvalidInteger")) (.ref (He.ga K "InvalidInteger")) = some true
  n_is_whole : ∃ f fd, FunD K "is_whole" "is_whole" (defArgs s_is_whole) (defBody s_is_whole) (defScope s_is_whole) [] [] f fd ∧ mg "is_whole" = some (.ref f)
  n_is_ratio : ∃ f fd, FunD K "is_ratio" "is_ratio" (defArgs s_is_ratio) (defBody s_is_ratio) (defScope s_is_ratio) [] [] f fd ∧ mg "is_ratio" = some (.ref f)
  n_lowest : ∃ f fd, FunD K "lowest" "lowest" (defArgs s_lowest) (defBody s_lowest) (defScope s_lowest) [] [] f fd ∧ mg "lowest" = some (.ref f)
  n_add : ∃ f fd, FunD K "add" "add" (defArgs s_add) (defBody s_add) (defScope s_add) [] [] f fd ∧ mg "add" = some (.ref f)
  n_sub : ∃ f fd, FunD K "sub" "sub" (defArgs s_sub) (defBody s_sub) (defScope s_sub) [] [] f fd ∧ mg "sub" = some (.ref f)
  n_mul : ∃ f fd, FunD K "mul" "mul" (defArgs s_mul) (defBody s_mul) (defScope s_mul) [] [] f fd ∧ mg "mul" = some (.ref f)
  n_div : ∃ f fd, FunD K "div" "div" (defArgs s_div) (defBody s_div) (defScope s_div) [] [] f fd ∧ mg "div" = some (.ref f)
  n_compared : ∃ f fd, FunD K "compared" "compared" (defArgs s_compared) (defBody s_compared) (defScope s_compared) [] [] f fd ∧ mg "compared" = some (.ref f)
  n_check_fractions : ∃ f fd, FunD K "check_fractions" "check_fractions" (defArgs s_check_fractions) (defBody s_check_fractions) (defScope s_check_fractions) [] [] f fd ∧ mg "check_fractions" = some (.ref f)
  n_is_fraction : ∃ f fd, FunD K "is_fraction" "is_fraction" (defArgs s_is_fraction) (defBody s_is_fraction) (defScope s_is_fraction) [] [] f fd ∧ mg "is_fraction" = some (.ref f)
  n_fraction : ∃ f fd, FunD K "fraction" "fraction" (defArgs s_fraction) (defBody s_fraction) (defScope s_fraction) [] [] f fd ∧ mg "fraction" = some (.ref f)
  n_plus : ∃ f fd, FunD K "plus" "plus" (defArgs s_plus) (defBody s_plus) (defScope s_plus) [] [] f fd ∧ mg "plus" = some (.ref f)
  n_minus : ∃ f fd, FunD K "minus" "minus" (defArgs s_minus) (defBody s_minus) (defScope s_minus) [] [] f fd ∧ mg "minus" = some (.ref f)
  n_times : ∃ f fd, FunD K "times" "times" (defArgs s_times) (defBody s_times) (defScope s_times) [] [] f fd ∧ mg "times" = some (.ref f)
  n_over : ∃ f fd, FunD K "over" "over" (defArgs s_over) (defBody s_over) (defScope s_over) [] [] f fd ∧ mg "over" = some (.ref f)
  n_order : ∃ f fd, FunD K "order" "order" (defArgs s_order) (defBody s_order) (defScope s_order) [] [] f fd ∧ mg "order" = some (.ref f)
  n_law_cell : ∃ f fd, FunD K "_law_cell" "_law_cell" (defArgs s_law_cell) (defBody s_law_cell) (defScope s_law_cell) [] [] f fd ∧ mg "_law_cell" = some (.ref f)
  n_law_box : ∃ f fd, FunD K "_law_box" "_law_box" (defArgs s_law_box) (defBody s_law_box) (defScope s_law_box) [] [] f fd ∧ mg "_law_box" = some (.ref f)
  n_law_take : ∃ f fd, FunD K "_law_take" "_law_take" (defArgs s_law_take) (defBody s_law_take) (defScope s_law_take) [] [] f fd ∧ mg "_law_take" = some (.ref f)
  n_law_same : ∃ f fd, FunD K "_law_same" "_law_same" (defArgs s_law_same) (defBody s_law_same) (defScope s_law_same) [] [] f fd ∧ mg "_law_same" = some (.ref f)
  n_law_very : ∃ f fd, FunD K "_law_very" "_law_very" (defArgs s_law_very) (defBody s_law_very) (defScope s_law_very) [] [] f fd ∧ mg "_law_very" = some (.ref f)
  n_law_low : ∃ f fd, FunD K "_law_low" "_law_low" (defArgs s_law_low) (defBody s_law_low) (defScope s_law_low) [] [] f fd ∧ mg "_law_low" = some (.ref f)
  n_law_plus : ∃ f fd, FunD K "_law_plus" "_law_plus" (defArgs s_law_plus) (defBody s_law_plus) (defScope s_law_plus) [] [] f fd ∧ mg "_law_plus" = some (.ref f)
  n_law_minus : ∃ f fd, FunD K "_law_minus" "_law_minus" (defArgs s_law_minus) (defBody s_law_minus) (defScope s_law_minus) [] [] f fd ∧ mg "_law_minus" = some (.ref f)
  n_law_times : ∃ f fd, FunD K "_law_times" "_law_times" (defArgs s_law_times) (defBody s_law_times) (defScope s_law_times) [] [] f fd ∧ mg "_law_times" = some (.ref f)
  n_law_over : ∃ f fd, FunD K "_law_over" "_law_over" (defArgs s_law_over) (defBody s_law_over) (defScope s_law_over) [] [] f fd ∧ mg "_law_over" = some (.ref f)
  n_law_integer : ∃ f fd, FunD K "_law_integer" "_law_integer" (defArgs s_law_integer) (defBody s_law_integer) (defScope s_law_integer) [] [] f fd ∧ mg "_law_integer" = some (.ref f)
  n_law_fraction : ∃ f fd, FunD K "_law_fraction" "_law_fraction" (defArgs s_law_fraction) (defBody s_law_fraction) (defScope s_law_fraction) [] [] f fd ∧ mg "_law_fraction" = some (.ref f)
  n_law_beside : ∃ f fd, FunD K "_law_beside" "_law_beside" (defArgs s_law_beside) (defBody s_law_beside) (defScope s_law_beside) [] [] f fd ∧ mg "_law_beside" = some (.ref f)
  n_law_strange : ∃ f fd, FunD K "_law_strange" "_law_strange" (defArgs s_law_strange) (defBody s_law_strange) (defScope s_law_strange) [] [] f fd ∧ mg "_law_strange" = some (.ref f)
  n_law_no_integer : ∃ f fd, FunD K "_law_no_integer" "_law_no_integer" (defArgs s_law_no_integer) (defBody s_law_no_integer) (defScope s_law_no_integer) [] [] f fd ∧ mg "_law_no_integer" = some (.ref f)
  n_law_is_own : ∃ f fd, FunD K "_law_is_own" "_law_is_own" (defArgs s_law_is_own) (defBody s_law_is_own) (defScope s_law_is_own) [] [] f fd ∧ mg "_law_is_own" = some (.ref f)
  n_law_ask : ∃ f fd, FunD K "_law_ask" "_law_ask" (defArgs s_law_ask) (defBody s_law_ask) (defScope s_law_ask) [] [] f fd ∧ mg "_law_ask" = some (.ref f)
  n_law_due : ∃ f fd, FunD K "_law_due" "_law_due" (defArgs s_law_due) (defBody s_law_due) (defScope s_law_due) [] [] f fd ∧ mg "_law_due" = some (.ref f)
  n_law_judged_right : ∃ f fd, FunD K "_law_judged_right" "_law_judged_right" (defArgs s_law_judged_right) (defBody s_law_judged_right) (defScope s_law_judged_right) [] [] f fd ∧ mg "_law_judged_right" = some (.ref f)
  n_law_made_right : ∃ f fd, FunD K "_law_made_right" "_law_made_right" (defArgs s_law_made_right) (defBody s_law_made_right) (defScope s_law_made_right) [] [] f fd ∧ mg "_law_made_right" = some (.ref f)
  n_law_chain_right : ∃ f fd, FunD K "_law_chain_right" "_law_chain_right" (defArgs s_law_chain_right) (defBody s_law_chain_right) (defScope s_law_chain_right) [] [] f fd ∧ mg "_law_chain_right" = some (.ref f)
  n_law_refused_right : ∃ f fd, FunD K "_law_refused_right" "_law_refused_right" (defArgs s_law_refused_right) (defBody s_law_refused_right) (defScope s_law_refused_right) [] [] f fd ∧ mg "_law_refused_right" = some (.ref f)
  n_law : ∃ f fd, FunD K "law" "law" (defArgs s_law) (defBody s_law) (defScope s_law) [] [] f fd ∧ mg "law" = some (.ref f)
section
variable {P : Program} {w : World} {K : PySem.W.Frag} {mg : Str → Option Value} {base : Heap}
def t_is_whole (K : PySem.W.Frag) : TSd :=
 (dRet (dAndV (dIsi .int (dVar 0)) (dNotV (dIsi .bool (dVar 0)))))
theorem d_is_whole (Z : Fs P K mg)  {sp : SpD} (len : ∀ ds M Q E, sp ds M Q E → ds.length = P_is_whole.length) (h : ∀ ds M Q E, sp ds M Q E → t_is_whole K (endsOf Q E) ⟨startD N_is_whole.length ds, M⟩) : FD P w K mg base "is_whole" s_is_whole P_is_whole (0 + 1) sp := by
  obtain ⟨f, fd, F, hm⟩ := Z.n_is_whole
  refine fd_ok F sc_is_whole hm (F.bindsN fun _ _ _ _ _ _ us hl => match us, hl with | [_], _ => rfl) len (fun cdv A outer s H E hr => ?_) h
  have nd := sc_is_whole.nd
  exact (dss_one (dst_ret (de_and (de_isi .int (dv 0) rfl Z.f_isinstance (by decide +kernel) rfl Z.f_int (by decide +kernel)) (de_one (de_not (de_isi .bool (dv 0) rfl Z.f_isinstance (by decide +kernel) rfl Z.f_bool (by decide +kernel)))))))
def t_is_ratio (K : PySem.W.Frag) (sp_is_whole : SpD) : TSd :=
 (dSeq (dIfS (dOr (dNot (dTest (dIsi .tuple (dVar 0)))) (dTest (dOp oNe (dCB cLen (dCons (dVar 0) dNil)) (dC (.int 2))))) (dRet (dC (.bl false))) dNext)
 (dSeq (dIfS (dOr (dNot (dTest (dCall sp_is_whole (dCons (dOp oIx (dVar 0) (dC (.int 0))) dNil)))) (dNot (dTest (dCall sp_is_whole (dCons (dOp oIx (dVar 0) (dC (.int 1))) dNil))))) (dRet (dC (.bl false))) dNext)
 (dRet (dAndV (dOp oGe (dOp oIx (dVar 0) (dC (.int 1))) (dC (.int 1))) (dOp oEq (dCB cGcd (dCons (dOp oIx (dVar 0) (dC (.int 0))) (dCons (dOp oIx (dVar 0) (dC (.int 1))) dNil))) (dC (.int 1)))))))
theorem d_is_ratio (Z : Fs P K mg) {sp_is_whole : SpD} (F_is_whole : FD P w K mg base "is_whole" s_is_whole P_is_whole 1 sp_is_whole) {sp : SpD} (len : ∀ ds M Q E, sp ds M Q E → ds.length = P_is_ratio.length) (h : ∀ ds M Q E, sp ds M Q E → t_is_ratio K sp_is_whole (endsOf Q E) ⟨startD N_is_ratio.length ds, M⟩) : FD P w K mg base "is_ratio" s_is_ratio P_is_ratio (1 + 1) sp := by
  obtain ⟨f, fd, F, hm⟩ := Z.n_is_ratio
  refine fd_ok F sc_is_ratio hm (F.bindsN fun _ _ _ _ _ _ us hl => match us, hl with | [_], _ => rfl) len (fun cdv A outer s H E hr => ?_) h
  have nd := sc_is_ratio.nd
  have tk := takes_of (X := cxOf (L2.CX P w) P w K mg base N_is_ratio "is_ratio" (defScope s_is_ratio) f cdv A outer s H E) rfl rfl rfl rfl
  exact (dss_cons (dst_if (DW.dt (dw_or (dt_not (dt_val (de_isi .tuple (dv 0) rfl Z.f_isinstance (by decide +kernel) rfl Z.f_tuple (by decide +kernel)))) (dw_or1 (dt_cmp (op_neD hr.units) opl_ne (de_callB call_len oplc_len rfl Z.f_len (by decide +kernel) (da_cons (dv 0) da_nil)) de_int (nomark _))))) (dss_one (dst_ret de_bl)) dss_nil)
 (dss_cons (dst_if (DW.dt (dw_or (dt_not (dt_val (de_call tk F_is_whole (hr.mono (by decide)) (da_cons (de_ix ix_seq opl_ix (dv 0) de_int (fun _ _ => rfl)) da_nil)))) (dw_or1 (dt_not (dt_val (de_call tk F_is_whole (hr.mono (by decide)) (da_cons (de_ix ix_seq opl_ix (dv 0) de_int (fun _ _ => rfl)) da_nil))))))) (dss_one (dst_ret de_bl)) dss_nil)
 (dss_one (dst_ret (de_and (de_cmp op_ge opl_cmp (de_ix ix_seq opl_ix (dv 0) de_int (fun _ _ => rfl)) de_int (nomark _)) (de_one (de_cmp (op_eqD hr.units) opl_eq (de_callBf cr_gcd oplc_gcd rfl Z.g_gcd (da_cons (de_ix ix_seq opl_ix (dv 0) de_int (fun _ _ => rfl)) (da_cons (de_ix ix_seq opl_ix (dv 0) de_int (fun _ _ => rfl)) da_nil))) de_int (nomark _))))))))
def t_lowest (K : PySem.W.Frag) : TSd :=
 (dSeq (dAsg (dCB cGcd (dCons (dVar 0) (dCons (dVar 1) dNil))) (hName 2))
 (dSeq (dIfS (dTest (dOp oLt (dVar 1) (dC (.int 0)))) (dAsg (dUn oNeg (dVar 2)) (hName 2)) dNext)
 (dRet (dTup (dCons (dOp oDivI (dVar 0) (dVar 2)) (dCons (dOp oDivI (dVar 1) (dVar 2)) dNil))))))
theorem d_lowest (Z : Fs P K mg)  {sp : SpD} (len : ∀ ds M Q E, sp ds M Q E → ds.length = P_lowest.length) (h : ∀ ds M Q E, sp ds M Q E → t_lowest K (endsOf Q E) ⟨startD N_lowest.length ds, M⟩) : FD P w K mg base "lowest" s_lowest P_lowest (0 + 1) sp := by
  obtain ⟨f, fd, F, hm⟩ := Z.n_lowest
  refine fd_ok F sc_lowest hm (F.bindsN fun _ _ _ _ _ _ us hl => match us, hl with | [_, _], _ => rfl) len (fun cdv A outer s H E hr => ?_) h
  have nd := sc_lowest.nd
  exact (dss_cons (dst_set (i := 2) nd rfl (.inl rfl) (de_callBf cr_gcd oplc_gcd rfl Z.g_gcd (da_cons (dv 0) (da_cons (dv 1) da_nil))))
 (dss_cons (dst_if (dt_cmp op_lt opl_cmp (dv 1) de_int (nomark _)) (dss_one (dst_set (i := 2) nd rfl (.inl rfl) (de_un un_neg opl_neg (dv 2)))) dss_nil)
 (dss_one (dst_ret (de_tup (da_cons (de_op op_fdivZ opl_div (dv 0) (dv 2)) (da_cons (de_op op_fdivZ opl_div (dv 1) (dv 2)) da_nil)))))))
def t_add (K : PySem.W.Frag) (sp_lowest : SpD) : TSd :=
 (dSeq (dIfS (dAnd (dTest (dOp oEq (dOp oIx (dVar 0) (dC (.int 1))) (dC (.int 1)))) (dTest (dOp oEq (dOp oIx (dVar 1) (dC (.int 1))) (dC (.int 1))))) (dRet (dTup (dCons (dOp oAdd (dOp oIx (dVar 0) (dC (.int 0))) (dOp oIx (dVar 1) (dC (.int 0)))) (dCons (dC (.int 1)) dNil)))) dNext)
 (dRet (dCall sp_lowest (dCons (dOp oAdd (dOp oMulI (dOp oIx (dVar 0) (dC (.int 0))) (dOp oIx (dVar 1) (dC (.int 1)))) (dOp oMulI (dOp oIx (dVar 1) (dC (.int 0))) (dOp oIx (dVar 0) (dC (.int 1))))) (dCons (dOp oMulI (dOp oIx (dVar 0) (dC (.int 1))) (dOp oIx (dVar 1) (dC (.int 1)))) dNil)))))
theorem d_add (Z : Fs P K mg) {sp_lowest : SpD} (F_lowest : FD P w K mg base "lowest" s_lowest P_lowest 1 sp_lowest) {sp : SpD} (len : ∀ ds M Q E, sp ds M Q E → ds.length = P_add.length) (h : ∀ ds M Q E, sp ds M Q E → t_add K sp_lowest (endsOf Q E) ⟨startD N_add.length ds, M⟩) : FD P w K mg base "add" s_add P_add (1 + 1) sp := by
  obtain ⟨f, fd, F, hm⟩ := Z.n_add
  refine fd_ok F sc_add hm (F.bindsN fun _ _ _ _ _ _ us hl => match us, hl with | [_, _], _ => rfl) len (fun cdv A outer s H E hr => ?_) h
  have nd := sc_add.nd
  have tk := takes_of (X := cxOf (L2.CX P w) P w K mg base N_add "add" (defScope s_add) f cdv A outer s H E) rfl rfl rfl rfl
  exact (dss_cons (dst_if (DW.dt (dw_and (dt_cmp (op_eqD hr.units) opl_eq (de_ix ix_seq opl_ix (dv 0) de_int (fun _ _ => rfl)) de_int (nomark _)) (dw_and1 (dt_cmp (op_eqD hr.units) opl_eq (de_ix ix_seq opl_ix (dv 1) de_int (fun _ _ => rfl)) de_int (nomark _))))) (dss_one (dst_ret (de_tup (da_cons (de_op op_addA opl_add (de_ix ix_seq opl_ix (dv 0) de_int (fun _ _ => rfl)) (de_ix ix_seq opl_ix (dv 1) de_int (fun _ _ => rfl))) (da_cons de_int da_nil))))) dss_nil)
 (dss_one (dst_ret (de_call tk F_lowest (hr.mono (by decide)) (da_cons (de_op op_addA opl_add (de_op op_mulV opl_mul (de_ix ix_seq opl_ix (dv 0) de_int (fun _ _ => rfl)) (de_ix ix_seq opl_ix (dv 1) de_int (fun _ _ => rfl))) (de_op op_mulV opl_mul (de_ix ix_seq opl_ix (dv 1) de_int (fun _ _ => rfl)) (de_ix ix_seq opl_ix (dv 0) de_int (fun _ _ => rfl)))) (da_cons (de_op op_mulV opl_mul (de_ix ix_seq opl_ix (dv 0) de_int (fun _ _ => rfl)) (de_ix ix_seq opl_ix (dv 1) de_int (fun _ _ => rfl))) da_nil))))))
def t_sub (K : PySem.W.Frag) (sp_add : SpD) : TSd :=
 (dRet (dCall sp_add (dCons (dVar 0) (dCons (dTup (dCons (dUn oNeg (dOp oIx (dVar 1) (dC (.int 0)))) (dCons (dOp oIx (dVar 1) (dC (.int 1))) dNil))) dNil))))
theorem d_sub (Z : Fs P K mg) {sp_add : SpD} (F_add : FD P w K mg base "add" s_add P_add 2 sp_add) {sp : SpD} (len : ∀ ds M Q E, sp ds M Q E → ds.length = P_sub.length) (h : ∀ ds M Q E, sp ds M Q E → t_sub K sp_add (endsOf Q E) ⟨startD N_sub.length ds, M⟩) : FD P w K mg base "sub" s_sub P_sub (2 + 1) sp := by
  obtain ⟨f, fd, F, hm⟩ := Z.n_sub
  refine fd_ok F sc_sub hm (F.bindsN fun _ _ _ _ _ _ us hl => match us, hl with | [_, _], _ => rfl) len (fun cdv A outer s H E hr => ?_) h
  have nd := sc_sub.nd
  have tk := takes_of (X := cxOf (L2.CX P w) P w K mg base N_sub "sub" (defScope s_sub) f cdv A outer s H E) rfl rfl rfl rfl
  exact (dss_one (dst_ret (de_call tk F_add (hr.mono (by decide)) (da_cons (dv 0) (da_cons (de_tup (da_cons (de_un un_neg opl_neg (de_ix ix_seq opl_ix (dv 1) de_int (fun _ _ => rfl))) (da_cons (de_ix ix_seq opl_ix (dv 1) de_int (fun _ _ => rfl)) da_nil))) da_nil)))))
def t_mul (K : PySem.W.Frag) (sp_lowest : SpD) : TSd :=
 (dSeq (dIfS (dOr (dTest (dOp oEq (dOp oIx (dVar 0) (dC (.int 0))) (dC (.int 0)))) (dTest (dOp oEq (dOp oIx (dVar 1) (dC (.int 0))) (dC (.int 0))))) (dRet (dC (.tup [(.int 0), (.int 1)]))) dNext)
 (dRet (dCall sp_lowest (dCons (dOp oMulI (dOp oIx (dVar 0) (dC (.int 0))) (dOp oIx (dVar 1) (dC (.int 0)))) (dCons (dOp oMulI (dOp oIx (dVar 0) (dC (.int 1))) (dOp oIx (dVar 1) (dC (.int 1)))) dNil)))))
theorem d_mul (Z : Fs P K mg) {sp_lowest : SpD} (F_lowest : FD P w K mg base "lowest" s_lowest P_lowest 1 sp_lowest) {sp : SpD} (len : ∀ ds M Q E, sp ds M Q E → ds.length = P_mul.length) (h : ∀ ds M Q E, sp ds M Q E → t_mul K sp_lowest (endsOf Q E) ⟨startD N_mul.length ds, M⟩) : FD P w K mg base "mul" s_mul P_mul (1 + 1) sp := by
  obtain ⟨f, fd, F, hm⟩ := Z.n_mul
  refine fd_ok F sc_mul hm (F.bindsN fun _ _ _ _ _ _ us hl => match us, hl with | [_, _], _ => rfl) len (fun cdv A outer s H E hr => ?_) h
  have nd := sc_mul.nd
  have tk := takes_of (X := cxOf (L2.CX P w) P w K mg base N_mul "mul" (defScope s_mul) f cdv A outer s H E) rfl rfl rfl rfl
  exact (dss_cons (dst_if (DW.dt (dw_or (dt_cmp (op_eqD hr.units) opl_eq (de_ix ix_seq opl_ix (dv 0) de_int (fun _ _ => rfl)) de_int (nomark _)) (dw_or1 (dt_cmp (op_eqD hr.units) opl_eq (de_ix ix_seq opl_ix (dv 1) de_int (fun _ _ => rfl)) de_int (nomark _))))) (dss_one (dst_ret (de_c (pe_glob (v := .ref (He.ga K "ZERO")) rfl Z.c_ZERO rfl) (fun H => Z.r_ZERO H)))) dss_nil)
 (dss_one (dst_ret (de_call tk F_lowest (hr.mono (by decide)) (da_cons (de_op op_mulV opl_mul (de_ix ix_seq opl_ix (dv 0) de_int (fun _ _ => rfl)) (de_ix ix_seq opl_ix (dv 1) de_int (fun _ _ => rfl))) (da_cons (de_op op_mulV opl_mul (de_ix ix_seq opl_ix (dv 0) de_int (fun _ _ => rfl)) (de_ix ix_seq opl_ix (dv 1) de_int (fun _ _ => rfl))) da_nil))))))
def t_div (K : PySem.W.Frag) (sp_lowest : SpD) : TSd :=
 (dRet (dCall sp_lowest (dCons (dOp oMulI (dOp oIx (dVar 0) (dC (.int 0))) (dOp oIx (dVar 1) (dC (.int 1)))) (dCons (dOp oMulI (dOp oIx (dVar 0) (dC (.int 1))) (dOp oIx (dVar 1) (dC (.int 0)))) dNil))))
theorem d_div (Z : Fs P K mg) {sp_lowest : SpD} (F_lowest : FD P w K mg base "lowest" s_lowest P_lowest 1 sp_lowest) {sp : SpD} (len : ∀ ds M Q E, sp ds M Q E → ds.length = P_div.length) (h : ∀ ds M Q E, sp ds M Q E → t_div K sp_lowest (endsOf Q E) ⟨startD N_div.length ds, M⟩) : FD P w K mg base "div" s_div P_div (1 + 1) sp := by
  obtain ⟨f, fd, F, hm⟩ := Z.n_div
  refine fd_ok F sc_div hm (F.bindsN fun _ _ _ _ _ _ us hl => match us, hl with | [_, _], _ => rfl) len (fun cdv A outer s H E hr => ?_) h
  have nd := sc_div.nd
  have tk := takes_of (X := cxOf (L2.CX P w) P w K mg base N_div "div" (defScope s_div) f cdv A outer s H E) rfl rfl rfl rfl
  exact (dss_one (dst_ret (de_call tk F_lowest (hr.mono (by decide)) (da_cons (de_op op_mulV opl_mul (de_ix ix_seq opl_ix (dv 0) de_int (fun _ _ => rfl)) (de_ix ix_seq opl_ix (dv 1) de_int (fun _ _ => rfl))) (da_cons (de_op op_mulV opl_mul (de_ix ix_seq opl_ix (dv 0) de_int (fun _ _ => rfl)) (de_ix ix_seq opl_ix (dv 1) de_int (fun _ _ => rfl))) da_nil)))))
def t_compared (K : PySem.W.Frag) : TSd :=
 (dSeq (dAsg (dOp oSubI (dOp oMulI (dOp oIx (dVar 0) (dC (.int 0))) (dOp oIx (dVar 1) (dC (.int 1)))) (dOp oMulI (dOp oIx (dVar 1) (dC (.int 0))) (dOp oIx (dVar 0) (dC (.int 1))))) (hName 2))
 (dSeq (dIfS (dTest (dOp oEq (dVar 2) (dC (.int 0)))) (dRet (dC (.int 0))) dNext)
 (dRet (dIf (dTest (dOp oGt (dVar 2) (dC (.int 0)))) (dC (.int 1)) (dUn oNeg (dC (.int 1)))))))
theorem d_compared (Z : Fs P K mg)  {sp : SpD} (len : ∀ ds M Q E, sp ds M Q E → ds.length = P_compared.length) (h : ∀ ds M Q E, sp ds M Q E → t_compared K (endsOf Q E) ⟨startD N_compared.length ds, M⟩) : FD P w K mg base "compared" s_compared P_compared (0 + 1) sp := by
  obtain ⟨f, fd, F, hm⟩ := Z.n_compared
  refine fd_ok F sc_compared hm (F.bindsN fun _ _ _ _ _ _ us hl => match us, hl with | [_, _], _ => rfl) len (fun cdv A outer s H E hr => ?_) h
  have nd := sc_compared.nd
  exact (dss_cons (dst_set (i := 2) nd rfl (.inl rfl) (de_op op_sub opl_sub (de_op op_mulV opl_mul (de_ix ix_seq opl_ix (dv 0) de_int (fun _ _ => rfl)) (de_ix ix_seq opl_ix (dv 1) de_int (fun _ _ => rfl))) (de_op op_mulV opl_mul (de_ix ix_seq opl_ix (dv 1) de_int (fun _ _ => rfl)) (de_ix ix_seq opl_ix (dv 0) de_int (fun _ _ => rfl)))))
 (dss_cons (dst_if (dt_cmp (op_eqD hr.units) opl_eq (dv 2) de_int (nomark _)) (dss_one (dst_ret de_int)) dss_nil)
 (dss_one (dst_ret (de_if (dt_cmp op_gt opl_cmp (dv 2) de_int (nomark _)) de_int (de_un un_neg opl_neg de_int))))))
def t_check_fractions (K : PySem.W.Frag) (sp_is_ratio : SpD) : TSd :=
 (dFor (dSeqI (dTup (dCons (dVar 0) (dCons (dVar 1) dNil)))) (hName 2) (dIfS (dNot (dTest (dCall sp_is_ratio (dCons (dVar 2) dNil)))) (dRaise (He.ga K "InvalidFraction") (dVar 2)) dNext))
theorem d_check_fractions (Z : Fs P K mg) {sp_is_ratio : SpD} (F_is_ratio : FD P w K mg base "is_ratio" s_is_ratio P_is_ratio 2 sp_is_ratio) {sp : SpD} (len : ∀ ds M Q E, sp ds M Q E → ds.length = P_check_fractions.length) (h : ∀ ds M Q E, sp ds M Q E → t_check_fractions K sp_is_ratio (endsOf Q E) ⟨startD N_check_fractions.length ds, M⟩) : FD P w K mg base "check_fractions" s_check_fractions P_check_fractions (2 + 1) sp := by
  obtain ⟨f, fd, F, hm⟩ := Z.n_check_fractions
  refine fd_ok F sc_check_fractions hm (F.bindsN fun _ _ _ _ _ _ us hl => match us, hl with | [_, _], _ => rfl) len (fun cdv A outer s H E hr => ?_) h
  have nd := sc_check_fractions.nd
  have tk := takes_of (X := cxOf (L2.CX P w) P w K mg base N_check_fractions "check_fractions" (defScope s_check_fractions) f cdv A outer s H E) rfl rfl rfl rfl
  have po := passes_of (X := cxOf (L2.CX P w) P w K mg base N_check_fractions "check_fractions" (defScope s_check_fractions) f cdv A outer s H E) rfl
  exact (dss_one (dst_for po rfl (di_seq (de_tup (da_cons (dv 0) (da_cons (dv 1) da_nil)))) (dg_name (i := 2) nd rfl (.inl rfl)) (dss_one (dst_if (dt_not (dt_val (de_call tk F_is_ratio (hr.mono (by decide)) (da_cons (dv 2) da_nil)))) (dss_one (dst_raise (k := 0) rfl tk Z.e_InvalidFraction (hr.mono (by decide)) (dv 2))) dss_nil))))
def t_is_fraction (K : PySem.W.Frag) (sp_is_ratio : SpD) : TSd :=
 (dRet (dCall sp_is_ratio (dCons (dVar 0) dNil)))
theorem d_is_fraction (Z : Fs P K mg) {sp_is_ratio : SpD} (F_is_ratio : FD P w K mg base "is_ratio" s_is_ratio P_is_ratio 2 sp_is_ratio) {sp : SpD} (len : ∀ ds M Q E, sp ds M Q E → ds.length = P_is_fraction.length) (h : ∀ ds M Q E, sp ds M Q E → t_is_fraction K sp_is_ratio (endsOf Q E) ⟨startD N_is_fraction.length ds, M⟩) : FD P w K mg base "is_fraction" s_is_fraction P_is_fraction (2 + 1) sp := by
  obtain ⟨f, fd, F, hm⟩ := Z.n_is_fraction
  refine fd_ok F sc_is_fraction hm (F.bindsN fun _ _ _ _ _ _ us hl => match us, hl with | [_], _ => rfl) len (fun cdv A outer s H E hr => ?_) h
  have nd := sc_is_fraction.nd
  have tk := takes_of (X := cxOf (L2.CX P w) P w K mg base N_is_fraction "is_fraction" (defScope s_is_fraction) f cdv A outer s H E) rfl rfl rfl rfl
  exact (dss_one (dst_ret (de_call tk F_is_ratio (hr.mono (by decide)) (da_cons (dv 0) da_nil))))
def t_fraction (K : PySem.W.Frag) (sp_lowest sp_is_whole : SpD) : TSd :=
 (dSeq (dFor (dSeqI (dTup (dCons (dVar 0) (dCons (dVar 1) dNil)))) (hName 2) (dIfS (dNot (dTest (dCall sp_is_whole (dCons (dVar 2) dNil)))) (dRaise (He.ga K "InvalidInteger") (dVar 2)) dNext))
 (dSeq (dIfS (dTest (dOp oEq (dVar 1) (dC (.int 0)))) (dRaise0 (He.ga K "DividedByZero")) dNext)
 (dRet (dCall sp_lowest (dCons (dVar 0) (dCons (dVar 1) dNil))))))
theorem d_fraction (Z : Fs P K mg) {sp_lowest : SpD} (F_lowest : FD P w K mg base "lowest" s_lowest P_lowest 1 sp_lowest) {sp_is_whole : SpD} (F_is_whole : FD P w K mg base "is_whole" s_is_whole P_is_whole 1 sp_is_whole) {sp : SpD} (len : ∀ ds M Q E, sp ds M Q E → ds.length = P_fraction.length) (h : ∀ ds M Q E, sp ds M Q E → t_fraction K sp_lowest sp_is_whole (endsOf Q E) ⟨startD N_fraction.length ds, M⟩) : FD P w K mg base "fraction" s_fraction P_fraction (2 + 1) sp := by
  obtain ⟨f, fd, F, hm⟩ := Z.n_fraction
  refine fd_ok F sc_fraction hm (F.bindsN fun _ _ _ _ _ _ us hl => match us, hl with | [_, _], _ => rfl) len (fun cdv A outer s H E hr => ?_) h
  have nd := sc_fraction.nd
  have tk := takes_of (X := cxOf (L2.CX P w) P w K mg base N_fraction "fraction" (defScope s_fraction) f cdv A outer s H E) rfl rfl rfl rfl
  have po := passes_of (X := cxOf (L2.CX P w) P w K mg base N_fraction "fraction" (defScope s_fraction) f cdv A outer s H E) rfl
  exact (dss_cons (dst_for po rfl (di_seq (de_tup (da_cons (dv 0) (da_cons (dv 1) da_nil)))) (dg_name (i := 2) nd rfl (.inl rfl)) (dss_one (dst_if (dt_not (dt_val (de_call tk F_is_whole (hr.mono (by decide)) (da_cons (dv 2) da_nil)))) (dss_one (dst_raise (k := 0) rfl tk Z.e_InvalidInteger (hr.mono (by decide)) (dv 2))) dss_nil)))
 (dss_cons (dst_if (dt_cmp (op_eqD hr.units) opl_eq (dv 1) de_int (nomark _)) (dss_one (dst_raise0 (k := 0) rfl tk Z.e_DividedByZero (hr.mono (by decide)))) dss_nil)
 (dss_one (dst_ret (de_call tk F_lowest (hr.mono (by decide)) (da_cons (dv 0) (da_cons (dv 1) da_nil)))))))
def t_plus (K : PySem.W.Frag) (sp_add sp_check_fractions : SpD) : TSd :=
 (dSeq (dDrop (dCall sp_check_fractions (dCons (dVar 0) (dCons (dVar 1) dNil))))
 (dRet (dCall sp_add (dCons (dVar 0) (dCons (dVar 1) dNil)))))
theorem d_plus (Z : Fs P K mg) {sp_add : SpD} (F_add : FD P w K mg base "add" s_add P_add 2 sp_add) {sp_check_fractions : SpD} (F_check_fractions : FD P w K mg base "check_fractions" s_check_fractions P_check_fractions 3 sp_check_fractions) {sp : SpD} (len : ∀ ds M Q E, sp ds M Q E → ds.length = P_plus.length) (h : ∀ ds M Q E, sp ds M Q E → t_plus K sp_add sp_check_fractions (endsOf Q E) ⟨startD N_plus.length ds, M⟩) : FD P w K mg base "plus" s_plus P_plus (3 + 1) sp := by
  obtain ⟨f, fd, F, hm⟩ := Z.n_plus
  refine fd_ok F sc_plus hm (F.bindsN fun _ _ _ _ _ _ us hl => match us, hl with | [_, _], _ => rfl) len (fun cdv A outer s H E hr => ?_) h
  have nd := sc_plus.nd
  have tk := takes_of (X := cxOf (L2.CX P w) P w K mg base N_plus "plus" (defScope s_plus) f cdv A outer s H E) rfl rfl rfl rfl
  exact (dss_cons (dst_expr (de_call tk F_check_fractions (hr.mono (by decide)) (da_cons (dv 0) (da_cons (dv 1) da_nil))))
 (dss_one (dst_ret (de_call tk F_add (hr.mono (by decide)) (da_cons (dv 0) (da_cons (dv 1) da_nil))))))
def t_minus (K : PySem.W.Frag) (sp_sub sp_check_fractions : SpD) : TSd :=
 (dSeq (dDrop (dCall sp_check_fractions (dCons (dVar 0) (dCons (dVar 1) dNil))))
 (dRet (dCall sp_sub (dCons (dVar 0) (dCons (dVar 1) dNil)))))
theorem d_minus (Z : Fs P K mg) {sp_sub : SpD} (F_sub : FD P w K mg base "sub" s_sub P_sub 3 sp_sub) {sp_check_fractions : SpD} (F_check_fractions : FD P w K mg base "check_fractions" s_check_fractions P_check_fractions 3 sp_check_fractions) {sp : SpD} (len : ∀ ds M Q E, sp ds M Q E → ds.length = P_minus.length) (h : ∀ ds M Q E, sp ds M Q E → t_minus K sp_sub sp_check_fractions (endsOf Q E) ⟨startD N_minus.length ds, M⟩) : FD P w K mg base "minus" s_minus P_minus (3 + 1) sp := by
  obtain ⟨f, fd, F, hm⟩ := Z.n_minus
  refine fd_ok F sc_minus hm (F.bindsN fun _ _ _ _ _ _ us hl => match us, hl with | [_, _], _ => rfl) len (fun cdv A outer s H E hr => ?_) h
  have nd := sc_minus.nd
  have tk := takes_of (X := cxOf (L2.CX P w) P w K mg base N_minus "minus" (defScope s_minus) f cdv A outer s H E) rfl rfl rfl rfl
  exact (dss_cons (dst_expr (de_call tk F_check_fractions (hr.mono (by decide)) (da_cons (dv 0) (da_cons (dv 1) da_nil))))
 (dss_one (dst_ret (de_call tk F_sub (hr.mono (by decide)) (da_cons (dv 0) (da_cons (dv 1) da_nil))))))
def t_times (K : PySem.W.Frag) (sp_mul sp_check_fractions : SpD) : TSd :=
 (dSeq (dDrop (dCall sp_check_fractions (dCons (dVar 0) (dCons (dVar 1) dNil))))
 (dRet (dCall sp_mul (dCons (dVar 0) (dCons (dVar 1) dNil)))))
theorem d_times (Z : Fs P K mg) {sp_mul : SpD} (F_mul : FD P w K mg base "mul" s_mul P_mul 2 sp_mul) {sp_check_fractions : SpD} (F_check_fractions : FD P w K mg base "check_fractions" s_check_fractions P_check_fractions 3 sp_check_fractions) {sp : SpD} (len : ∀ ds M Q E, sp ds M Q E → ds.length = P_times.length) (h : ∀ ds M Q E, sp ds M Q E → t_times K sp_mul sp_check_fractions (endsOf Q E) ⟨startD N_times.length ds, M⟩) : FD P w K mg base "times" s_times P_times (3 + 1) sp := by
  obtain ⟨f, fd, F, hm⟩ := Z.n_times
  refine fd_ok F sc_times hm (F.bindsN fun _ _ _ _ _ _ us hl => match us, hl with | [_, _], _ => rfl) len (fun cdv A outer s H E hr => ?_) h
  have nd := sc_times.nd
  have tk := takes_of (X := cxOf (L2.CX P w) P w K mg base N_times "times" (defScope s_times) f cdv A outer s H E) rfl rfl rfl rfl
  exact (dss_cons (dst_expr (de_call tk F_check_fractions (hr.mono (by decide)) (da_cons (dv 0) (da_cons (dv 1) da_nil))))
 (dss_one (dst_ret (de_call tk F_mul (hr.mono (by decide)) (da_cons (dv 0) (da_cons (dv 1) da_nil))))))
def t_over (K : PySem.W.Frag) (sp_div sp_check_fractions : SpD) : TSd :=
 (dSeq (dDrop (dCall sp_check_fractions (dCons (dVar 0) (dCons (dVar 1) dNil))))
 (dSeq (dIfS (dTest (dOp oEq (dOp oIx (dVar 1) (dC (.int 0))) (dC (.int 0)))) (dRaise0 (He.ga K "DividedByZero")) dNext)
 (dRet (dCall sp_div (dCons (dVar 0) (dCons (dVar 1) dNil))))))
theorem d_over (Z : Fs P K mg) {sp_div : SpD} (F_div : FD P w K mg base "div" s_div P_div 2 sp_div) {sp_check_fractions : SpD} (F_check_fractions : FD P w K mg base "check_fractions" s_check_fractions P_check_fractions 3 sp_check_fractions) {sp : SpD} (len : ∀ ds M Q E, sp ds M Q E → ds.length = P_over.length) (h : ∀ ds M Q E, sp ds M Q E → t_over K sp_div sp_check_fractions (endsOf Q E) ⟨startD N_over.length ds, M⟩) : FD P w K mg base "over" s_over P_over (3 + 1) sp := by
  obtain ⟨f, fd, F, hm⟩ := Z.n_over
  refine fd_ok F sc_over hm (F.bindsN fun _ _ _ _ _ _ us hl => match us, hl with | [_, _], _ => rfl) len (fun cdv A outer s H E hr => ?_) h
  have nd := sc_over.nd
  have tk := takes_of (X := cxOf (L2.CX P w) P w K mg base N_over "over" (defScope s_over) f cdv A outer s H E) rfl rfl rfl rfl
  exact (dss_cons (dst_expr (de_call tk F_check_fractions (hr.mono (by decide)) (da_cons (dv 0) (da_cons (dv 1) da_nil))))
 (dss_cons (dst_if (dt_cmp (op_eqD hr.units) opl_eq (de_ix ix_seq opl_ix (dv 1) de_int (fun _ _ => rfl)) de_int (nomark _)) (dss_one (dst_raise0 (k := 0) rfl tk Z.e_DividedByZero (hr.mono (by decide)))) dss_nil)
 (dss_one (dst_ret (de_call tk F_div (hr.mono (by decide)) (da_cons (dv 0) (da_cons (dv 1) da_nil)))))))
def t_order (K : PySem.W.Frag) (sp_compared sp_check_fractions : SpD) : TSd :=
 (dSeq (dDrop (dCall sp_check_fractions (dCons (dVar 0) (dCons (dVar 1) dNil))))
 (dRet (dCall sp_compared (dCons (dVar 0) (dCons (dVar 1) dNil)))))
theorem d_order (Z : Fs P K mg) {sp_compared : SpD} (F_compared : FD P w K mg base "compared" s_compared P_compared 1 sp_compared) {sp_check_fractions : SpD} (F_check_fractions : FD P w K mg base "check_fractions" s_check_fractions P_check_fractions 3 sp_check_fractions) {sp : SpD} (len : ∀ ds M Q E, sp ds M Q E → ds.length = P_order.length) (h : ∀ ds M Q E, sp ds M Q E → t_order K sp_compared sp_check_fractions (endsOf Q E) ⟨startD N_order.length ds, M⟩) : FD P w K mg base "order" s_order P_order (3 + 1) sp := by
  obtain ⟨f, fd, F, hm⟩ := Z.n_order
  refine fd_ok F sc_order hm (F.bindsN fun _ _ _ _ _ _ us hl => match us, hl with | [_, _], _ => rfl) len (fun cdv A outer s H E hr => ?_) h
  have nd := sc_order.nd
  have tk := takes_of (X := cxOf (L2.CX P w) P w K mg base N_order "order" (defScope s_order) f cdv A outer s H E) rfl rfl rfl rfl
  exact (dss_cons (dst_expr (de_call tk F_check_fractions (hr.mono (by decide)) (da_cons (dv 0) (da_cons (dv 1) da_nil))))
 (dss_one (dst_ret (de_call tk F_compared (hr.mono (by decide)) (da_cons (dv 0) (da_cons (dv 1) da_nil))))))
def t_law_cell (K : PySem.W.Frag) : TSd :=
 (dRet (dIf (dTest (dOp oLt (dVar 1) (dCB cLen (dCons (dVar 0) dNil)))) (dOp oIx (dVar 0) (dVar 1)) (dOp oAdd (dOp oMulI (dC (.int 7393)) (dVar 1)) (dOp oModI (dCB cInt (dCons (dCB cSum (dCons (dSl oSlL (dVar 0) dNoPart (dPart (dC (.int 1)))) dNil)) dNil)) (dC (.int 1000033))))))
theorem d_law_cell (Z : Fs P K mg)  {sp : SpD} (len : ∀ ds M Q E, sp ds M Q E → ds.length = P_law_cell.length) (h : ∀ ds M Q E, sp ds M Q E → t_law_cell K (endsOf Q E) ⟨startD N_law_cell.length ds, M⟩) : FD P w K mg base "_law_cell" s_law_cell P_law_cell (0 + 1) sp := by
  obtain ⟨f, fd, F, hm⟩ := Z.n_law_cell
  refine fd_ok F sc_law_cell hm (F.bindsN fun _ _ _ _ _ _ us hl => match us, hl with | [_, _], _ => rfl) len (fun cdv A outer s H E hr => ?_) h
  have nd := sc_law_cell.nd
  exact (dss_one (dst_ret (de_if (dt_cmp op_lt opl_cmp (dv 1) (de_callB call_len oplc_len rfl Z.f_len (by decide +kernel) (da_cons (dv 0) da_nil)) (nomark _)) (de_ix ix_seq opl_ix (dv 0) (dv 1) (fun _ _ => rfl)) (de_op op_addA opl_add (de_op op_mulV opl_mul de_int (dv 1)) (de_op op_modN opl_mod (de_callTy call_int1 oplc_int rfl Z.f_int (by decide +kernel) (da_cons (de_callB (cr_sum rfl) oplc_sum rfl Z.f_sum (by decide +kernel) (da_cons (de_slL (dv 0) do_none (do_some de_int)) da_nil)) da_nil)) de_int)))))
def t_law_box (K : PySem.W.Frag) : TSd :=
 (dRet (dLstM (dCons (dCB cAbs (dCons (dVar 0) dNil)) (dCons (dOp oGe (dCB cAbs (dCons (dVar 0) dNil)) (dOp oPowI (dC (.int 10)) (dC (.int 18)))) (dCons (dOp oModI (dCB cInt (dCons (dCB cAbs (dCons (dVar 0) dNil)) dNil)) (dC (.int 2147483629))) (dCons (dC (.int 0)) dNil))))))
theorem d_law_box (Z : Fs P K mg)  {sp : SpD} (len : ∀ ds M Q E, sp ds M Q E → ds.length = P_law_box.length) (h : ∀ ds M Q E, sp ds M Q E → t_law_box K (endsOf Q E) ⟨startD N_law_box.length ds, M⟩) : FD P w K mg base "_law_box" s_law_box P_law_box (0 + 1) sp := by
  obtain ⟨f, fd, F, hm⟩ := Z.n_law_box
  refine fd_ok F sc_law_box hm (F.bindsN fun _ _ _ _ _ _ us hl => match us, hl with | [_], _ => rfl) len (fun cdv A outer s H E hr => ?_) h
  have nd := sc_law_box.nd
  exact (dss_one (dst_ret (de_lstM (da_cons (de_callB call_abs oplc_abs rfl Z.f_abs (by decide +kernel) (da_cons (dv 0) da_nil)) (da_cons (de_cmp op_ge opl_cmp (de_callB call_abs oplc_abs rfl Z.f_abs (by decide +kernel) (da_cons (dv 0) da_nil)) (de_op op_pow opl_pow de_int de_int) (nomark _)) (da_cons (de_op op_modN opl_mod (de_callTy call_int1 oplc_int rfl Z.f_int (by decide +kernel) (da_cons (de_callB call_abs oplc_abs rfl Z.f_abs (by decide +kernel) (da_cons (dv 0) da_nil)) da_nil)) de_int) (da_cons de_int da_nil)))))))
def t_law_take (K : PySem.W.Frag) : TSd :=
 (dSeq (dIfS (dAnd (dTest (dOp oIx (dVar 0) (dC (.int 1)))) (dTest (dOp oGt (dOp oIx (dVar 0) (dC (.int 0))) (dC (.int 0))))) (dSeq (dAsg (dOp oModI (dCB cInt (dCons (dOp oIx (dVar 0) (dC (.int 0))) dNil)) (dVar 1)) (hName 2))
 (dSeq (dAsg (dOp oDivI (dCB cInt (dCons (dOp oIx (dVar 0) (dC (.int 0))) dNil)) (dVar 1)) (hSubL (dVar 0) (dC (.int 0))))
 (dRet (dVar 2)))) dNext)
 (dSeq (dAsg (dOp oAdd (dOp oIx (dVar 0) (dC (.int 3))) (dC (.int 1))) (hSubL (dVar 0) (dC (.int 3))))
 (dSeq (dAsg (dOp oModI (dCB cInt (dCons (dOp oPowI (dOp oAdd (dOp oAdd (dOp oIx (dVar 0) (dC (.int 2))) (dOp oMulI (dC (.int 15487033)) (dOp oIx (dVar 0) (dC (.int 3))))) (dC (.int 179424731))) (dC (.int 5))) dNil)) (dC (.int 2147483647))) (hName 3))
 (dRet (dOp oModI (dCB cInt (dCons (dOp oDivI (dOp oModI (dCB cInt (dCons (dOp oPowI (dOp oAdd (dOp oMulI (dVar 3) (dC (.int 48299))) (dOp oMulI (dC (.int 104759)) (dOp oIx (dVar 0) (dC (.int 3))))) (dC (.int 3))) dNil)) (dC (.int 2147483587))) (dC (.int 64))) dNil)) (dVar 1))))))
theorem d_law_take (Z : Fs P K mg)  {sp : SpD} (len : ∀ ds M Q E, sp ds M Q E → ds.length = P_law_take.length) (h : ∀ ds M Q E, sp ds M Q E → t_law_take K (endsOf Q E) ⟨startD N_law_take.length ds, M⟩) : FD P w K mg base "_law_take" s_law_take P_law_take (0 + 1) sp := by
  obtain ⟨f, fd, F, hm⟩ := Z.n_law_take
  refine fd_ok F sc_law_take hm (F.bindsN fun _ _ _ _ _ _ us hl => match us, hl with | [_, _], _ => rfl) len (fun cdv A outer s H E hr => ?_) h
  have nd := sc_law_take.nd
  exact (dss_cons (dst_if (DW.dt (dw_and (dt_val (de_ix ix_seq opl_ix (dv 0) de_int (fun _ _ => rfl))) (dw_and1 (dt_cmp op_gt opl_cmp (de_ix ix_seq opl_ix (dv 0) de_int (fun _ _ => rfl)) de_int (nomark _))))) (dss_cons (dst_set (i := 2) nd rfl (.inl rfl) (de_op op_modN opl_mod (de_callTy call_int1 oplc_int rfl Z.f_int (by decide +kernel) (da_cons (de_ix ix_seq opl_ix (dv 0) de_int (fun _ _ => rfl)) da_nil)) (dv 1)))
 (dss_cons (dst_asg (de_op op_fdivZ opl_div (de_callTy call_int1 oplc_int rfl Z.f_int (by decide +kernel) (da_cons (de_ix ix_seq opl_ix (dv 0) de_int (fun _ _ => rfl)) da_nil)) (dv 1)) (dg_subL (dv 0) de_int))
 (dss_one (dst_ret (dv 2))))) dss_nil)
 (dss_cons (dst_asg (de_op op_addA opl_add (de_ix ix_seq opl_ix (dv 0) de_int (fun _ _ => rfl)) de_int) (dg_subL (dv 0) de_int))
 (dss_cons (dst_set (i := 3) nd rfl (.inl rfl) (de_op op_modN opl_mod (de_callTy call_int1 oplc_int rfl Z.f_int (by decide +kernel) (da_cons (de_op op_pow opl_pow (de_op op_addA opl_add (de_op op_addA opl_add (de_ix ix_seq opl_ix (dv 0) de_int (fun _ _ => rfl)) (de_op op_mulV opl_mul de_int (de_ix ix_seq opl_ix (dv 0) de_int (fun _ _ => rfl)))) de_int) de_int) da_nil)) de_int))
 (dss_one (dst_ret (de_op op_modN opl_mod (de_callTy call_int1 oplc_int rfl Z.f_int (by decide +kernel) (da_cons (de_op op_fdivZ opl_div (de_op op_modN opl_mod (de_callTy call_int1 oplc_int rfl Z.f_int (by decide +kernel) (da_cons (de_op op_pow opl_pow (de_op op_addA opl_add (de_op op_mulV opl_mul (dv 3) de_int) (de_op op_mulV opl_mul de_int (de_ix ix_seq opl_ix (dv 0) de_int (fun _ _ => rfl)))) de_int) da_nil)) de_int) de_int) da_nil)) (dv 1)))))))
def t_law_same (K : PySem.W.Frag) (sp_law_same : SpD) : TSd :=
 (dSeq (dIfS (dTest (dOp oIsN (dVar 1) (dC .non))) (dRet (dOp oIsN (dVar 0) (dC .non))) dNext)
 (dSeq (dIfS (dTest (dIsi .bool (dVar 1))) (dRet (dAndV (dIsi .bool (dVar 0)) (dOp oEq (dOp oIsB (dVar 0) (dC (.bl true))) (dOp oIsB (dVar 1) (dC (.bl true)))))) dNext)
 (dSeq (dIfS (dTest (dIsi .int (dVar 1))) (dRet (dAndV (dIsi .int (dVar 0)) (dAndV (dNotV (dIsi .bool (dVar 0))) (dOp oEq (dOp oSubI (dCB cInt (dCons (dVar 0) dNil)) (dVar 1)) (dC (.int 0)))))) dNext)
 (dSeq (dIfS (dTest (dIsi .str (dVar 1))) (dRet (dAndV (dIsi .str (dVar 0)) (dAndV (dOp oEq (dCB cLen (dCons (dVar 0) dNil)) (dCB cLen (dCons (dVar 1) dNil))) (dOp oEq (dLc (dRange1 (dCons (dCB cLen (dCons (dVar 1) dNil)) dNil)) (.one 2) (dTest (dOp oNe (dSl oSl (dVar 0) (dPart (dVar 2)) (dPart (dOp oAdd (dVar 2) (dC (.int 1))))) (dOp oIx (dVar 1) (dVar 2)))) (dVar 2) [2]) (dLst dNil))))) dNext)
 (dSeq (dIfS (dTest (dIsi .dict (dVar 1))) (dRet (dAndV (dIsi .dict (dVar 0)) (dAndV (dOp oEq (dCB cLenK (dCons (dVar 0) dNil)) (dCB cLenK (dCons (dVar 1) dNil))) (dOp oEq (dLockD 0 1 (dLc (dKeysI (dVar 1)) (.one 3) (dOr (dTest (dOp (oInK true) (dVar 3) (dVar 0))) (dNot (dTest (dCall sp_law_same (dCons (dOp oDget (dVar 0) (dVar 3)) (dCons (dOp oDget (dVar 1) (dVar 3)) dNil)))))) (dVar 3) [3])) (dLst dNil))))) dNext)
 (dSeq (dIfS (dOr (dNot (dTest (dIsi2 .list .tuple (dVar 1)))) (dNot (dTest (dIsi2 .list .tuple (dVar 0))))) (dRet (dC (.bl false))) dNext)
 (dSeq (dIfS (dOr (dTest (dOp oNe (dIsi .list (dVar 0)) (dIsi .list (dVar 1)))) (dTest (dOp oNe (dCB cLen (dCons (dVar 0) dNil)) (dCB cLen (dCons (dVar 1) dNil))))) (dRet (dC (.bl false))) dNext)
 (dRet (dOp oEq (dLc (dRange1 (dCons (dCB cLen (dCons (dVar 1) dNil)) dNil)) (.one 2) (dNot (dTest (dCall sp_law_same (dCons (dOp oIx (dVar 0) (dVar 2)) (dCons (dOp oIx (dVar 1) (dVar 2)) dNil))))) (dVar 2) [2]) (dLst dNil))))))))))
theorem d_law_same (Z : Fs P K mg) {n : Nat} {sp_law_same : SpD} (F_law_same : FD P w K mg base "_law_same" s_law_same P_law_same n sp_law_same) {sp : SpD} (len : ∀ ds M Q E, sp ds M Q E → ds.length = P_law_same.length) (h : ∀ ds M Q E, sp ds M Q E → t_law_same K sp_law_same (endsOf Q E) ⟨startD N_law_same.length ds, M⟩) : FD P w K mg base "_law_same" s_law_same P_law_same (n + 1) sp := by
  obtain ⟨f, fd, F, hm⟩ := Z.n_law_same
  refine fd_ok F sc_law_same hm (F.bindsN fun _ _ _ _ _ _ us hl => match us, hl with | [_, _], _ => rfl) len (fun cdv A outer s H E hr => ?_) h
  have nd := sc_law_same.nd
  have hu : (cxOf (L2.CX P w) P w K mg base N_law_same "_law_same" (defScope s_law_same) f cdv A outer s H E).A.units + 1 < cLine := Nat.lt_of_le_of_lt (Nat.add_le_add_left (by decide) _) hr.units
  exact (dss_cons (dst_if (dt_cmp op_isN opl_isN (dv 1) de_non (nomark _)) (dss_one (dst_ret (de_cmp op_isN opl_isN (dv 0) de_non (nomark _)))) dss_nil)
 (dss_cons (dst_if (dt_val (de_isi .bool (dv 1) rfl Z.f_isinstance (by decide +kernel) rfl Z.f_bool (by decide +kernel))) (dss_one (dst_ret (de_and (de_isi .bool (dv 0) rfl Z.f_isinstance (by decide +kernel) rfl Z.f_bool (by decide +kernel)) (de_one (de_cmp (op_eqD hr.units) opl_eq (de_cmp op_isBl opl_isB (dv 0) de_bl (nomark _)) (de_cmp op_isBl opl_isB (dv 1) de_bl (nomark _)) (nomark _)))))) dss_nil)
 (dss_cons (dst_if (dt_val (de_isi .int (dv 1) rfl Z.f_isinstance (by decide +kernel) rfl Z.f_int (by decide +kernel))) (dss_one (dst_ret (de_and (de_isi .int (dv 0) rfl Z.f_isinstance (by decide +kernel) rfl Z.f_int (by decide +kernel)) (de_and (de_not (de_isi .bool (dv 0) rfl Z.f_isinstance (by decide +kernel) rfl Z.f_bool (by decide +kernel))) (de_one (de_cmp (op_eqD hr.units) opl_eq (de_op op_sub opl_sub (de_callTy call_int1 oplc_int rfl Z.f_int (by decide +kernel) (da_cons (dv 0) da_nil)) (dv 1)) de_int (nomark _))))))) dss_nil)
 (dss_cons (dst_if (dt_val (de_isi .str (dv 1) rfl Z.f_isinstance (by decide +kernel) rfl Z.f_str (by decide +kernel))) (dss_one (dst_ret (de_and (de_isi .str (dv 0) rfl Z.f_isinstance (by decide +kernel) rfl Z.f_str (by decide +kernel)) (de_and (de_cmp (op_eqD hr.units) opl_eq (de_callB call_len oplc_len rfl Z.f_len (by decide +kernel) (da_cons (dv 0) da_nil)) (de_callB call_len oplc_len rfl Z.f_len (by decide +kernel) (da_cons (dv 1) da_nil)) (nomark _)) (de_one (de_cmp (op_eqD hr.units) opl_eq (de_lc (own := [("k", 2)]) (g := (.one 2)) rfl nd (di_range1 rfl Z.f_range (da_cons (de_callB call_len oplc_len rfl Z.f_len (by decide +kernel) (da_cons (dv 1) da_nil)) da_nil)) (blkOk_by (own := [("k", 2)]) (N := N_law_same) (sc := defScope s_law_same) (by decide +kernel)) (fun _ _ _ _ _ => (pg_name (i := 2) nd rfl (by first | exact .inl rfl | exact .inr rfl))) (fun _ _ _ _ _ => (dts_one (dt_cmp (op_neD hr.units) opl_ne (de_sl (dv 0) (do_some (dv 2)) (do_some (de_op op_addA opl_add (dv 2) de_int))) (de_ix ix_seq opl_ix (dv 1) (dv 2) (fun _ _ => rfl)) (nomark _)))) (fun _ _ _ _ _ => (dv 2)) (by decide)) (de_lst da_nil) (nomark _))))))) dss_nil)
 (dss_cons (dst_if (dt_val (de_isi .dict (dv 1) rfl Z.f_isinstance (by decide +kernel) rfl Z.f_dict (by decide +kernel))) (dss_one (dst_ret (de_and (de_isi .dict (dv 0) rfl Z.f_isinstance (by decide +kernel) rfl Z.f_dict (by decide +kernel)) (de_and (de_cmp (op_eqD hr.units) opl_eq (de_callB call_lenK oplc_lenK rfl Z.f_len (by decide +kernel) (da_cons (dv 0) da_nil)) (de_callB call_lenK oplc_lenK rfl Z.f_len (by decide +kernel) (da_cons (dv 1) da_nil)) (nomark _)) (de_one (de_cmp (op_eqD hr.units) opl_eq (de_lockD 0 1 (de_lc (own := [("key", 3)]) (g := (.one 3)) rfl nd (di_keys (dv 1)) (blkOk_by (own := [("key", 3)]) (N := N_law_same) (sc := defScope s_law_same) (by decide +kernel)) (fun _ _ _ _ _ => (pg_name (i := 3) nd rfl (by first | exact .inl rfl | exact .inr rfl))) (fun _ _ _ _ _ => (dts_one (DW.dt (dw_or (dt_cmp (op_notInK hu) opl_notInK (dv 3) (dv 0) (by with_unfolding_all rfl)) (dw_or1 (dt_not (dt_val (de_call takes0 F_law_same (hr.mono (by omega)) (da_cons (de_dget hu (dv 0) (dv 3) (fun _ _ => rfl)) (da_cons (de_dget hu (dv 1) (dv 3) (fun _ _ => rfl)) da_nil)))))))))) (fun _ _ _ _ _ => (dv 3)) (by decide))) (de_lst da_nil) (nomark _))))))) dss_nil)
 (dss_cons (dst_if (DW.dt (dw_or (dt_not (dt_val (de_isi2 .list .tuple (dv 1) rfl Z.f_isinstance (by decide +kernel) rfl Z.f_list (by decide +kernel) rfl Z.f_tuple (by decide +kernel)))) (dw_or1 (dt_not (dt_val (de_isi2 .list .tuple (dv 0) rfl Z.f_isinstance (by decide +kernel) rfl Z.f_list (by decide +kernel) rfl Z.f_tuple (by decide +kernel))))))) (dss_one (dst_ret de_bl)) dss_nil)
 (dss_cons (dst_if (DW.dt (dw_or (dt_cmp (op_neD hr.units) opl_ne (de_isi .list (dv 0) rfl Z.f_isinstance (by decide +kernel) rfl Z.f_list (by decide +kernel)) (de_isi .list (dv 1) rfl Z.f_isinstance (by decide +kernel) rfl Z.f_list (by decide +kernel)) (nomark _)) (dw_or1 (dt_cmp (op_neD hr.units) opl_ne (de_callB call_len oplc_len rfl Z.f_len (by decide +kernel) (da_cons (dv 0) da_nil)) (de_callB call_len oplc_len rfl Z.f_len (by decide +kernel) (da_cons (dv 1) da_nil)) (nomark _))))) (dss_one (dst_ret de_bl)) dss_nil)
 (dss_one (dst_ret (de_cmp (op_eqD hr.units) opl_eq (de_lc (own := [("k", 2)]) (g := (.one 2)) rfl nd (di_range1 rfl Z.f_range (da_cons (de_callB call_len oplc_len rfl Z.f_len (by decide +kernel) (da_cons (dv 1) da_nil)) da_nil)) (blkOk_by (own := [("k", 2)]) (N := N_law_same) (sc := defScope s_law_same) (by decide +kernel)) (fun _ _ _ _ _ => (pg_name (i := 2) nd rfl (by first | exact .inl rfl | exact .inr rfl))) (fun _ _ _ _ _ => (dts_one (dt_not (dt_val (de_call takes0 F_law_same (hr.mono (by omega)) (da_cons (de_ix ix_seq opl_ix (dv 0) (dv 2) (fun _ _ => rfl)) (da_cons (de_ix ix_seq opl_ix (dv 1) (dv 2) (fun _ _ => rfl)) da_nil))))))) (fun _ _ _ _ _ => (dv 2)) (by decide)) (de_lst da_nil) (nomark _)))))))))))
def t_law_very (K : PySem.W.Frag) (sp_law_same : SpD) : TSd :=
 (dSeq (dIfS (dNot (dTest (dCall sp_law_same (dCons (dVar 0) (dCons (dVar 1) dNil))))) (dRet (dC (.bl false))) dNext)
 (dSeq (dIfS (dTest (dIsi .list (dVar 1))) (dDrop (dBM mAppend (dVar 1) (dCons (dC (.str "more")) dNil))) dNext)
 (dSeq (dIfS (dTest (dIsi .dict (dVar 1))) (dPutK (dVar 1) (dC (.str "more")) (dC (.int 1))) dNext)
 (dRet (dCall sp_law_same (dCons (dVar 0) (dCons (dVar 1) dNil)))))))
theorem d_law_very (Z : Fs P K mg) {sp_law_same : SpD} (F_law_same : FD P w K mg base "_law_same" s_law_same P_law_same 12 sp_law_same) {sp : SpD} (len : ∀ ds M Q E, sp ds M Q E → ds.length = P_law_very.length) (h : ∀ ds M Q E, sp ds M Q E → t_law_very K sp_law_same (endsOf Q E) ⟨startD N_law_very.length ds, M⟩) : FD P w K mg base "_law_very" s_law_very P_law_very (12 + 1) sp := by
  obtain ⟨f, fd, F, hm⟩ := Z.n_law_very
  refine fd_ok F sc_law_very hm (F.bindsN fun _ _ _ _ _ _ us hl => match us, hl with | [_, _], _ => rfl) len (fun cdv A outer s H E hr => ?_) h
  have nd := sc_law_very.nd
  have tk := takes_of (X := cxOf (L2.CX P w) P w K mg base N_law_very "_law_very" (defScope s_law_very) f cdv A outer s H E) rfl rfl rfl rfl
  have hu : (cxOf (L2.CX P w) P w K mg base N_law_very "_law_very" (defScope s_law_very) f cdv A outer s H E).A.units + 1 < cLine := Nat.lt_of_le_of_lt (Nat.add_le_add_left (by decide) _) hr.units
  exact (dss_cons (dst_if (dt_not (dt_val (de_call tk F_law_same (hr.mono (by omega)) (da_cons (dv 0) (da_cons (dv 1) da_nil))))) (dss_one (dst_ret de_bl)) dss_nil)
 (dss_cons (dst_if (dt_val (de_isi .list (dv 1) rfl Z.f_isinstance (by decide +kernel) rfl Z.f_list (by decide +kernel))) (dss_one (dst_expr (de_bm PySem.F.plainAttrs_list PySem.F.slot_list_append PySem.F.type_list_append mt_append oplm_append (dv 1) (da_cons de_str da_nil)))) dss_nil)
 (dss_cons (dst_if (dt_val (de_isi .dict (dv 1) rfl Z.f_isinstance (by decide +kernel) rfl Z.f_dict (by decide +kernel))) (dss_one (dst_dput hu (dv 1) de_str de_int)) dss_nil)
 (dss_one (dst_ret (de_call tk F_law_same (hr.mono (by omega)) (da_cons (dv 0) (da_cons (dv 1) da_nil))))))))
def t_law_low (K : PySem.W.Frag) : TSd :=
 (dSeq (dPar 2 3 (dCons (dCB cAbs (dCons (dVar 0) dNil)) (dCons (dCB cAbs (dCons (dVar 1) dNil)) dNil)))
 (dSeq (dWhile (dTest (dOp oNe (dVar 3) (dC (.int 0)))) (dPar 2 3 (dCons (dVar 3) (dCons (dOp oModI (dVar 2) (dVar 3)) dNil))))
 (dRet (dIf (dTest (dOp oGt (dVar 1) (dC (.int 0)))) (dTup (dCons (dOp oDivI (dVar 0) (dVar 2)) (dCons (dOp oDivI (dVar 1) (dVar 2)) dNil))) (dTup (dCons (dOp oDivI (dUn oNeg (dVar 0)) (dVar 2)) (dCons (dOp oDivI (dUn oNeg (dVar 1)) (dVar 2)) dNil)))))))
theorem d_law_low (Z : Fs P K mg)  {sp : SpD} (len : ∀ ds M Q E, sp ds M Q E → ds.length = P_law_low.length) (h : ∀ ds M Q E, sp ds M Q E → t_law_low K (endsOf Q E) ⟨startD N_law_low.length ds, M⟩) : FD P w K mg base "_law_low" s_law_low P_law_low (0 + 1) sp := by
  obtain ⟨f, fd, F, hm⟩ := Z.n_law_low
  refine fd_ok F sc_law_low hm (F.bindsN fun _ _ _ _ _ _ us hl => match us, hl with | [_, _], _ => rfl) len (fun cdv A outer s H E hr => ?_) h
  have nd := sc_law_low.nd
  have po := passes_of (X := cxOf (L2.CX P w) P w K mg base N_law_low "_law_low" (defScope s_law_low) f cdv A outer s H E) rfl
  exact (dss_cons (dst_par (i := 2) (j := 3) rfl nd rfl rfl (by decide) rfl rfl (da_cons (de_callB call_abs oplc_abs rfl Z.f_abs (by decide +kernel) (da_cons (dv 0) da_nil)) (da_cons (de_callB call_abs oplc_abs rfl Z.f_abs (by decide +kernel) (da_cons (dv 1) da_nil)) da_nil)) (by rfl))
 (dss_cons (dst_while po (dt_cmp (op_neD hr.units) opl_ne (dv 3) de_int (nomark _)) (dss_one (dst_par (i := 2) (j := 3) rfl nd rfl rfl (by decide) rfl rfl (da_cons (dv 3) (da_cons (de_op op_modN opl_mod (dv 2) (dv 3)) da_nil)) (by rfl))))
 (dss_one (dst_ret (de_if (dt_cmp op_gt opl_cmp (dv 1) de_int (nomark _)) (de_tup (da_cons (de_op op_fdivZ opl_div (dv 0) (dv 2)) (da_cons (de_op op_fdivZ opl_div (dv 1) (dv 2)) da_nil))) (de_tup (da_cons (de_op op_fdivZ opl_div (de_un un_neg opl_neg (dv 0)) (dv 2)) (da_cons (de_op op_fdivZ opl_div (de_un un_neg opl_neg (dv 1)) (dv 2)) da_nil))))))))
def t_law_plus (K : PySem.W.Frag) (sp_law_low : SpD) : TSd :=
 (dRet (dCall sp_law_low (dCons (dOp oAdd (dOp oMulI (dOp oIx (dVar 0) (dC (.int 0))) (dOp oIx (dVar 1) (dC (.int 1)))) (dOp oMulI (dOp oIx (dVar 1) (dC (.int 0))) (dOp oIx (dVar 0) (dC (.int 1))))) (dCons (dOp oMulI (dOp oIx (dVar 0) (dC (.int 1))) (dOp oIx (dVar 1) (dC (.int 1)))) dNil))))
theorem d_law_plus (Z : Fs P K mg) {sp_law_low : SpD} (F_law_low : FD P w K mg base "_law_low" s_law_low P_law_low 1 sp_law_low) {sp : SpD} (len : ∀ ds M Q E, sp ds M Q E → ds.length = P_law_plus.length) (h : ∀ ds M Q E, sp ds M Q E → t_law_plus K sp_law_low (endsOf Q E) ⟨startD N_law_plus.length ds, M⟩) : FD P w K mg base "_law_plus" s_law_plus P_law_plus (1 + 1) sp := by
  obtain ⟨f, fd, F, hm⟩ := Z.n_law_plus
  refine fd_ok F sc_law_plus hm (F.bindsN fun _ _ _ _ _ _ us hl => match us, hl with | [_, _], _ => rfl) len (fun cdv A outer s H E hr => ?_) h
  have nd := sc_law_plus.nd
  have tk := takes_of (X := cxOf (L2.CX P w) P w K mg base N_law_plus "_law_plus" (defScope s_law_plus) f cdv A outer s H E) rfl rfl rfl rfl
  exact (dss_one (dst_ret (de_call tk F_law_low (hr.mono (by decide)) (da_cons (de_op op_addA opl_add (de_op op_mulV opl_mul (de_ix ix_seq opl_ix (dv 0) de_int (fun _ _ => rfl)) (de_ix ix_seq opl_ix (dv 1) de_int (fun _ _ => rfl))) (de_op op_mulV opl_mul (de_ix ix_seq opl_ix (dv 1) de_int (fun _ _ => rfl)) (de_ix ix_seq opl_ix (dv 0) de_int (fun _ _ => rfl)))) (da_cons (de_op op_mulV opl_mul (de_ix ix_seq opl_ix (dv 0) de_int (fun _ _ => rfl)) (de_ix ix_seq opl_ix (dv 1) de_int (fun _ _ => rfl))) da_nil)))))
def t_law_minus (K : PySem.W.Frag) (sp_law_low : SpD) : TSd :=
 (dRet (dCall sp_law_low (dCons (dOp oSubI (dOp oMulI (dOp oIx (dVar 0) (dC (.int 0))) (dOp oIx (dVar 1) (dC (.int 1)))) (dOp oMulI (dOp oIx (dVar 1) (dC (.int 0))) (dOp oIx (dVar 0) (dC (.int 1))))) (dCons (dOp oMulI (dOp oIx (dVar 0) (dC (.int 1))) (dOp oIx (dVar 1) (dC (.int 1)))) dNil))))
theorem d_law_minus (Z : Fs P K mg) {sp_law_low : SpD} (F_law_low : FD P w K mg base "_law_low" s_law_low P_law_low 1 sp_law_low) {sp : SpD} (len : ∀ ds M Q E, sp ds M Q E → ds.length = P_law_minus.length) (h : ∀ ds M Q E, sp ds M Q E → t_law_minus K sp_law_low (endsOf Q E) ⟨startD N_law_minus.length ds, M⟩) : FD P w K mg base "_law_minus" s_law_minus P_law_minus (1 + 1) sp := by
  obtain ⟨f, fd, F, hm⟩ := Z.n_law_minus
  refine fd_ok F sc_law_minus hm (F.bindsN fun _ _ _ _ _ _ us hl => match us, hl with | [_, _], _ => rfl) len (fun cdv A outer s H E hr => ?_) h
  have nd := sc_law_minus.nd
  have tk := takes_of (X := cxOf (L2.CX P w) P w K mg base N_law_minus "_law_minus" (defScope s_law_minus) f cdv A outer s H E) rfl rfl rfl rfl
  exact (dss_one (dst_ret (de_call tk F_law_low (hr.mono (by decide)) (da_cons (de_op op_sub opl_sub (de_op op_mulV opl_mul (de_ix ix_seq opl_ix (dv 0) de_int (fun _ _ => rfl)) (de_ix ix_seq opl_ix (dv 1) de_int (fun _ _ => rfl))) (de_op op_mulV opl_mul (de_ix ix_seq opl_ix (dv 1) de_int (fun _ _ => rfl)) (de_ix ix_seq opl_ix (dv 0) de_int (fun _ _ => rfl)))) (da_cons (de_op op_mulV opl_mul (de_ix ix_seq opl_ix (dv 0) de_int (fun _ _ => rfl)) (de_ix ix_seq opl_ix (dv 1) de_int (fun _ _ => rfl))) da_nil)))))
def t_law_times (K : PySem.W.Frag) (sp_law_low : SpD) : TSd :=
 (dRet (dCall sp_law_low (dCons (dOp oMulI (dOp oIx (dVar 0) (dC (.int 0))) (dOp oIx (dVar 1) (dC (.int 0)))) (dCons (dOp oMulI (dOp oIx (dVar 0) (dC (.int 1))) (dOp oIx (dVar 1) (dC (.int 1)))) dNil))))
theorem d_law_times (Z : Fs P K mg) {sp_law_low : SpD} (F_law_low : FD P w K mg base "_law_low" s_law_low P_law_low 1 sp_law_low) {sp : SpD} (len : ∀ ds M Q E, sp ds M Q E → ds.length = P_law_times.length) (h : ∀ ds M Q E, sp ds M Q E → t_law_times K sp_law_low (endsOf Q E) ⟨startD N_law_times.length ds, M⟩) : FD P w K mg base "_law_times" s_law_times P_law_times (1 + 1) sp := by
  obtain ⟨f, fd, F, hm⟩ := Z.n_law_times
  refine fd_ok F sc_law_times hm (F.bindsN fun _ _ _ _ _ _ us hl => match us, hl with | [_, _], _ => rfl) len (fun cdv A outer s H E hr => ?_) h
  have nd := sc_law_times.nd
  have tk := takes_of (X := cxOf (L2.CX P w) P w K mg base N_law_times "_law_times" (defScope s_law_times) f cdv A outer s H E) rfl rfl rfl rfl
  exact (dss_one (dst_ret (de_call tk F_law_low (hr.mono (by decide)) (da_cons (de_op op_mulV opl_mul (de_ix ix_seq opl_ix (dv 0) de_int (fun _ _ => rfl)) (de_ix ix_seq opl_ix (dv 1) de_int (fun _ _ => rfl))) (da_cons (de_op op_mulV opl_mul (de_ix ix_seq opl_ix (dv 0) de_int (fun _ _ => rfl)) (de_ix ix_seq opl_ix (dv 1) de_int (fun _ _ => rfl))) da_nil)))))
def t_law_over (K : PySem.W.Frag) (sp_law_low : SpD) : TSd :=
 (dRet (dCall sp_law_low (dCons (dOp oMulI (dOp oIx (dVar 0) (dC (.int 0))) (dOp oIx (dVar 1) (dC (.int 1)))) (dCons (dOp oMulI (dOp oIx (dVar 0) (dC (.int 1))) (dOp oIx (dVar 1) (dC (.int 0)))) dNil))))
theorem d_law_over (Z : Fs P K mg) {sp_law_low : SpD} (F_law_low : FD P w K mg base "_law_low" s_law_low P_law_low 1 sp_law_low) {sp : SpD} (len : ∀ ds M Q E, sp ds M Q E → ds.length = P_law_over.length) (h : ∀ ds M Q E, sp ds M Q E → t_law_over K sp_law_low (endsOf Q E) ⟨startD N_law_over.length ds, M⟩) : FD P w K mg base "_law_over" s_law_over P_law_over (1 + 1) sp := by
  obtain ⟨f, fd, F, hm⟩ := Z.n_law_over
  refine fd_ok F sc_law_over hm (F.bindsN fun _ _ _ _ _ _ us hl => match us, hl with | [_, _], _ => rfl) len (fun cdv A outer s H E hr => ?_) h
  have nd := sc_law_over.nd
  have tk := takes_of (X := cxOf (L2.CX P w) P w K mg base N_law_over "_law_over" (defScope s_law_over) f cdv A outer s H E) rfl rfl rfl rfl
  exact (dss_one (dst_ret (de_call tk F_law_low (hr.mono (by decide)) (da_cons (de_op op_mulV opl_mul (de_ix ix_seq opl_ix (dv 0) de_int (fun _ _ => rfl)) (de_ix ix_seq opl_ix (dv 1) de_int (fun _ _ => rfl))) (da_cons (de_op op_mulV opl_mul (de_ix ix_seq opl_ix (dv 0) de_int (fun _ _ => rfl)) (de_ix ix_seq opl_ix (dv 1) de_int (fun _ _ => rfl))) da_nil)))))
def t_law_integer (K : PySem.W.Frag) (sp_law_take : SpD) : TSd :=
 (dSeq (dAsg (dCall sp_law_take (dCons (dVar 0) (dCons (dC (.int 4)) dNil))) (hName 1))
 (dSeq (dAsg (dOp oIx (dLst (dCons (dC (.int 3)) (dCons (dC (.int 40)) (dCons (dOp oPowI (dC (.int 10)) (dC (.int 6))) (dCons (dOp oSubI (dOp oPowI (dC (.int 10)) (dC (.int 12))) (dC (.int 1))) dNil))))) (dVar 1)) (hName 2))
 (dSeq (dAsg (dCall sp_law_take (dCons (dVar 0) (dCons (dOp oAdd (dVar 2) (dC (.int 1))) dNil))) (hName 3))
 (dSeq (dIfS (dAnd (dTest (dOp oGt (dVar 2) (dOp oPowI (dC (.int 10)) (dC (.int 6))))) (dTest (dOp oEq (dCall sp_law_take (dCons (dVar 0) (dCons (dC (.int 2)) dNil))) (dC (.int 0))))) (dAsg (dOp oSubI (dVar 2) (dCall sp_law_take (dCons (dVar 0) (dCons (dC (.int 9)) dNil)))) (hName 3)) dNext)
 (dRet (dIf (dTest (dOp oEq (dCall sp_law_take (dCons (dVar 0) (dCons (dC (.int 2)) dNil))) (dC (.int 0)))) (dUn oNeg (dVar 3)) (dVar 3)))))))
theorem d_law_integer (Z : Fs P K mg) {sp_law_take : SpD} (F_law_take : FD P w K mg base "_law_take" s_law_take P_law_take 1 sp_law_take) {sp : SpD} (len : ∀ ds M Q E, sp ds M Q E → ds.length = P_law_integer.length) (h : ∀ ds M Q E, sp ds M Q E → t_law_integer K sp_law_take (endsOf Q E) ⟨startD N_law_integer.length ds, M⟩) : FD P w K mg base "_law_integer" s_law_integer P_law_integer (1 + 1) sp := by
  obtain ⟨f, fd, F, hm⟩ := Z.n_law_integer
  refine fd_ok F sc_law_integer hm (F.bindsN fun _ _ _ _ _ _ us hl => match us, hl with | [_], _ => rfl) len (fun cdv A outer s H E hr => ?_) h
  have nd := sc_law_integer.nd
  have tk := takes_of (X := cxOf (L2.CX P w) P w K mg base N_law_integer "_law_integer" (defScope s_law_integer) f cdv A outer s H E) rfl rfl rfl rfl
  exact (dss_cons (dst_set (i := 1) nd rfl (.inl rfl) (de_call tk F_law_take (hr.mono (by decide)) (da_cons (dv 0) (da_cons de_int da_nil))))
 (dss_cons (dst_set (i := 2) nd rfl (.inl rfl) (de_ix ix_seq opl_ix (de_lst (da_cons de_int (da_cons de_int (da_cons (de_op op_pow opl_pow de_int de_int) (da_cons (de_op op_sub opl_sub (de_op op_pow opl_pow de_int de_int) de_int) da_nil))))) (dv 1) (fun _ _ => rfl)))
 (dss_cons (dst_set (i := 3) nd rfl (.inl rfl) (de_call tk F_law_take (hr.mono (by decide)) (da_cons (dv 0) (da_cons (de_op op_addA opl_add (dv 2) de_int) da_nil))))
 (dss_cons (dst_if (DW.dt (dw_and (dt_cmp op_gt opl_cmp (dv 2) (de_op op_pow opl_pow de_int de_int) (nomark _)) (dw_and1 (dt_cmp (op_eqD hr.units) opl_eq (de_call tk F_law_take (hr.mono (by decide)) (da_cons (dv 0) (da_cons de_int da_nil))) de_int (nomark _))))) (dss_one (dst_set (i := 3) nd rfl (.inl rfl) (de_op op_sub opl_sub (dv 2) (de_call tk F_law_take (hr.mono (by decide)) (da_cons (dv 0) (da_cons de_int da_nil)))))) dss_nil)
 (dss_one (dst_ret (de_if (dt_cmp (op_eqD hr.units) opl_eq (de_call tk F_law_take (hr.mono (by decide)) (da_cons (dv 0) (da_cons de_int da_nil))) de_int (nomark _)) (de_un un_neg opl_neg (dv 3)) (dv 3))))))))
def t_law_fraction (K : PySem.W.Frag) (sp_law_low sp_law_integer : SpD) : TSd :=
 (dRet (dCall sp_law_low (dCons (dCall sp_law_integer (dCons (dVar 0) dNil)) (dCons (dCB cMax2 (dCons (dC (.int 1)) (dCons (dCB cAbs (dCons (dCall sp_law_integer (dCons (dVar 0) dNil)) dNil)) dNil))) dNil))))
theorem d_law_fraction (Z : Fs P K mg) {sp_law_low : SpD} (F_law_low : FD P w K mg base "_law_low" s_law_low P_law_low 1 sp_law_low) {sp_law_integer : SpD} (F_law_integer : FD P w K mg base "_law_integer" s_law_integer P_law_integer 2 sp_law_integer) {sp : SpD} (len : ∀ ds M Q E, sp ds M Q E → ds.length = P_law_fraction.length) (h : ∀ ds M Q E, sp ds M Q E → t_law_fraction K sp_law_low sp_law_integer (endsOf Q E) ⟨startD N_law_fraction.length ds, M⟩) : FD P w K mg base "_law_fraction" s_law_fraction P_law_fraction (2 + 1) sp := by
  obtain ⟨f, fd, F, hm⟩ := Z.n_law_fraction
  refine fd_ok F sc_law_fraction hm (F.bindsN fun _ _ _ _ _ _ us hl => match us, hl with | [_], _ => rfl) len (fun cdv A outer s H E hr => ?_) h
  have nd := sc_law_fraction.nd
  have tk := takes_of (X := cxOf (L2.CX P w) P w K mg base N_law_fraction "_law_fraction" (defScope s_law_fraction) f cdv A outer s H E) rfl rfl rfl rfl
  exact (dss_one (dst_ret (de_call tk F_law_low (hr.mono (by decide)) (da_cons (de_call tk F_law_integer (hr.mono (by decide)) (da_cons (dv 0) da_nil)) (da_cons (de_callB (call_max2 rfl) oplc_max2 rfl Z.f_max (by decide +kernel) (da_cons de_int (da_cons (de_callB call_abs oplc_abs rfl Z.f_abs (by decide +kernel) (da_cons (de_call tk F_law_integer (hr.mono (by decide)) (da_cons (dv 0) da_nil)) da_nil)) da_nil))) da_nil)))))
def t_law_beside (K : PySem.W.Frag) (sp_law_take sp_law_fraction sp_law_low : SpD) : TSd :=
 (dSeq (dAsg (dCall sp_law_take (dCons (dVar 0) (dCons (dC (.int 6)) dNil))) (hName 2))
 (dSeq (dIfS (dTest (dOp oEq (dVar 2) (dC (.int 0)))) (dRet (dVar 1)) dNext)
 (dSeq (dIfS (dTest (dOp oEq (dVar 2) (dC (.int 1)))) (dRet (dTup (dCons (dUn oNeg (dOp oIx (dVar 1) (dC (.int 0)))) (dCons (dOp oIx (dVar 1) (dC (.int 1))) dNil)))) dNext)
 (dSeq (dIfS (dAnd (dTest (dOp oEq (dVar 2) (dC (.int 2)))) (dTest (dOp oNe (dOp oIx (dVar 1) (dC (.int 0))) (dC (.int 0))))) (dRet (dCall sp_law_low (dCons (dOp oIx (dVar 1) (dC (.int 1))) (dCons (dOp oIx (dVar 1) (dC (.int 0))) dNil)))) dNext)
 (dSeq (dIfS (dAnd (dTest (dOp oEq (dVar 2) (dC (.int 3)))) (dTest (dOp oLt (dCB cAbs (dCons (dOp oIx (dVar 1) (dC (.int 0))) dNil)) (dOp oPowI (dC (.int 10)) (dC (.int 11)))))) (dRet (dCall sp_law_low (dCons (dOp oAdd (dOp oIx (dVar 1) (dC (.int 0))) (dOp oIx (dLst (dCons (dUn oNeg (dC (.int 1))) (dCons (dC (.int 1)) dNil))) (dCall sp_law_take (dCons (dVar 0) (dCons (dC (.int 2)) dNil))))) (dCons (dOp oIx (dVar 1) (dC (.int 1))) dNil)))) dNext)
 (dRet (dIf (dAnd (dTest (dOp oEq (dVar 2) (dC (.int 4)))) (dTest (dOp oEq (dCall sp_law_take (dCons (dVar 0) (dCons (dC (.int 2)) dNil))) (dC (.int 0))))) (dTup (dCons (dC (.int 0)) (dCons (dC (.int 1)) dNil))) (dCall sp_law_fraction (dCons (dVar 0) dNil)))))))))
theorem d_law_beside (Z : Fs P K mg) {sp_law_take : SpD} (F_law_take : FD P w K mg base "_law_take" s_law_take P_law_take 1 sp_law_take) {sp_law_fraction : SpD} (F_law_fraction : FD P w K mg base "_law_fraction" s_law_fraction P_law_fraction 3 sp_law_fraction) {sp_law_low : SpD} (F_law_low : FD P w K mg base "_law_low" s_law_low P_law_low 1 sp_law_low) {sp : SpD} (len : ∀ ds M Q E, sp ds M Q E → ds.length = P_law_beside.length) (h : ∀ ds M Q E, sp ds M Q E → t_law_beside K sp_law_take sp_law_fraction sp_law_low (endsOf Q E) ⟨startD N_law_beside.length ds, M⟩) : FD P w K mg base "_law_beside" s_law_beside P_law_beside (3 + 1) sp := by
  obtain ⟨f, fd, F, hm⟩ := Z.n_law_beside
  refine fd_ok F sc_law_beside hm (F.bindsN fun _ _ _ _ _ _ us hl => match us, hl with | [_, _], _ => rfl) len (fun cdv A outer s H E hr => ?_) h
  have nd := sc_law_beside.nd
  have tk := takes_of (X := cxOf (L2.CX P w) P w K mg base N_law_beside "_law_beside" (defScope s_law_beside) f cdv A outer s H E) rfl rfl rfl rfl
  exact (dss_cons (dst_set (i := 2) nd rfl (.inl rfl) (de_call tk F_law_take (hr.mono (by decide)) (da_cons (dv 0) (da_cons de_int da_nil))))
 (dss_cons (dst_if (dt_cmp (op_eqD hr.units) opl_eq (dv 2) de_int (nomark _)) (dss_one (dst_ret (dv 1))) dss_nil)
 (dss_cons (dst_if (dt_cmp (op_eqD hr.units) opl_eq (dv 2) de_int (nomark _)) (dss_one (dst_ret (de_tup (da_cons (de_un un_neg opl_neg (de_ix ix_seq opl_ix (dv 1) de_int (fun _ _ => rfl))) (da_cons (de_ix ix_seq opl_ix (dv 1) de_int (fun _ _ => rfl)) da_nil))))) dss_nil)
 (dss_cons (dst_if (DW.dt (dw_and (dt_cmp (op_eqD hr.units) opl_eq (dv 2) de_int (nomark _)) (dw_and1 (dt_cmp (op_neD hr.units) opl_ne (de_ix ix_seq opl_ix (dv 1) de_int (fun _ _ => rfl)) de_int (nomark _))))) (dss_one (dst_ret (de_call tk F_law_low (hr.mono (by decide)) (da_cons (de_ix ix_seq opl_ix (dv 1) de_int (fun _ _ => rfl)) (da_cons (de_ix ix_seq opl_ix (dv 1) de_int (fun _ _ => rfl)) da_nil))))) dss_nil)
 (dss_cons (dst_if (DW.dt (dw_and (dt_cmp (op_eqD hr.units) opl_eq (dv 2) de_int (nomark _)) (dw_and1 (dt_cmp op_lt opl_cmp (de_callB call_abs oplc_abs rfl Z.f_abs (by decide +kernel) (da_cons (de_ix ix_seq opl_ix (dv 1) de_int (fun _ _ => rfl)) da_nil)) (de_op op_pow opl_pow de_int de_int) (nomark _))))) (dss_one (dst_ret (de_call tk F_law_low (hr.mono (by decide)) (da_cons (de_op op_addA opl_add (de_ix ix_seq opl_ix (dv 1) de_int (fun _ _ => rfl)) (de_ix ix_seq opl_ix (de_lst (da_cons (de_un un_neg opl_neg de_int) (da_cons de_int da_nil))) (de_call tk F_law_take (hr.mono (by decide)) (da_cons (dv 0) (da_cons de_int da_nil))) (fun _ _ => rfl))) (da_cons (de_ix ix_seq opl_ix (dv 1) de_int (fun _ _ => rfl)) da_nil))))) dss_nil)
 (dss_one (dst_ret (de_if (DW.dt (dw_and (dt_cmp (op_eqD hr.units) opl_eq (dv 2) de_int (nomark _)) (dw_and1 (dt_cmp (op_eqD hr.units) opl_eq (de_call tk F_law_take (hr.mono (by decide)) (da_cons (dv 0) (da_cons de_int da_nil))) de_int (nomark _))))) (de_tup (da_cons de_int (da_cons de_int da_nil))) (de_call tk F_law_fraction (hr.mono (by decide)) (da_cons (dv 0) da_nil))))))))))
def t_law_strange (K : PySem.W.Frag) : TSd :=
 (dSeq (dAsg (dVar 0) (hTup 2 (hCons (hName 2) (hCons (hName 3) hNil))))
 (dSeq (dAsg (dLst (dCons (dLstM (dCons (dVar 2) (dCons (dVar 3) dNil))) (dCons (dTup (dCons (dVar 2) (dCons (dUn oNeg (dVar 3)) dNil))) (dCons (dTup (dCons (dOp oMulI (dC (.int 2)) (dVar 2)) (dCons (dOp oMulI (dC (.int 2)) (dVar 3)) dNil))) (dCons (dTup (dCons (dVar 2) (dCons (dC (.int 0)) dNil))) (dCons (dTup (dCons (dVar 2) dNil)) (dCons (dTup (dCons (dVar 2) (dCons (dVar 3) (dCons (dC (.int 1)) dNil)))) (dCons (dTup (dCons (dC (.bl true)) (dCons (dOp oAdd (dVar 3) (dC (.int 2))) dNil))) (dCons (dTup (dCons (dOp oAdd (dOp oAdd (dVar 2) (dVar 2)) (dC (.int 1))) (dCons (dC (.bl true)) dNil))) (dCons (dTup (dCons (dC (.bl false)) (dCons (dC (.int 1)) dNil))) (dCons (dTup (dCons (dC (.int 0)) (dCons (dC (.int 2)) dNil))) (dCons (dVar 2) (dCons (dC .non) (dCons (dC (.str "1/2")) dNil)))))))))))))) (hName 4))
 (dRet (dOp oIx (dOp oAdd (dVar 4) (dLst (dCons (dTup (dCons (dCB cStr (dCons (dOp oModI (dCB cInt (dCons (dVar 3) dNil)) (dC (.int 1000))) dNil)) (dCons (dVar 3) dNil))) (dCons (dTup (dCons (dTup (dCons (dVar 2) (dCons (dVar 3) dNil))) dNil)) (dCons (dLstM (dCons (dTup (dCons (dVar 2) (dCons (dVar 3) dNil))) dNil)) (dCons (dDctM1 "n" (dVar 2)) (dCons (dTup dNil) (dCons (dLstM dNil) (dCons (dTup (dCons (dC .non) (dCons (dC (.int 1)) dNil))) (dCons (dTup (dCons (dTup (dCons (dC (.int 1)) (dCons (dC (.int 1)) dNil))) (dCons (dC (.int 1)) dNil))) (dCons (dC (.bl true)) (dCons dDctM0 dNil)))))))))))) (dVar 1)))))
theorem d_law_strange (Z : Fs P K mg)  {sp : SpD} (len : ∀ ds M Q E, sp ds M Q E → ds.length = P_law_strange.length) (h : ∀ ds M Q E, sp ds M Q E → t_law_strange K (endsOf Q E) ⟨startD N_law_strange.length ds, M⟩) : FD P w K mg base "_law_strange" s_law_strange P_law_strange (0 + 1) sp := by
  obtain ⟨f, fd, F, hm⟩ := Z.n_law_strange
  refine fd_ok F sc_law_strange hm (F.bindsN fun _ _ _ _ _ _ us hl => match us, hl with | [_, _], _ => rfl) len (fun cdv A outer s H E hr => ?_) h
  have nd := sc_law_strange.nd
  exact (dss_cons (dst_asg (dv 0) (dg_tup rfl (dgs_cons (dg_name (i := 2) nd rfl (.inl rfl)) (dgs_cons (dg_name (i := 3) nd rfl (.inl rfl)) dgs_nil))))
 (dss_cons (dst_set (i := 4) nd rfl (.inl rfl) (de_lst (da_cons (de_lstM (da_cons (dv 2) (da_cons (dv 3) da_nil))) (da_cons (de_tup (da_cons (dv 2) (da_cons (de_un un_neg opl_neg (dv 3)) da_nil))) (da_cons (de_tup (da_cons (de_op op_mulV opl_mul de_int (dv 2)) (da_cons (de_op op_mulV opl_mul de_int (dv 3)) da_nil))) (da_cons (de_tup (da_cons (dv 2) (da_cons de_int da_nil))) (da_cons (de_tup (da_cons (dv 2) da_nil)) (da_cons (de_tup (da_cons (dv 2) (da_cons (dv 3) (da_cons de_int da_nil)))) (da_cons (de_tup (da_cons de_bl (da_cons (de_op op_addA opl_add (dv 3) de_int) da_nil))) (da_cons (de_tup (da_cons (de_op op_addA opl_add (de_op op_addA opl_add (dv 2) (dv 2)) de_int) (da_cons de_bl da_nil))) (da_cons (de_tup (da_cons de_bl (da_cons de_int da_nil))) (da_cons (de_tup (da_cons de_int (da_cons de_int da_nil))) (da_cons (dv 2) (da_cons de_non (da_cons de_str da_nil)))))))))))))))
 (dss_one (dst_ret (de_ix ix_seq opl_ix (de_op op_addA opl_add (dv 4) (de_lst (da_cons (de_tup (da_cons (de_callTy call_str_int oplc_str rfl Z.f_str (by decide +kernel) (da_cons (de_op op_modN opl_mod (de_callTy call_int1 oplc_int rfl Z.f_int (by decide +kernel) (da_cons (dv 3) da_nil)) de_int) da_nil)) (da_cons (dv 3) da_nil))) (da_cons (de_tup (da_cons (de_tup (da_cons (dv 2) (da_cons (dv 3) da_nil))) da_nil)) (da_cons (de_lstM (da_cons (de_tup (da_cons (dv 2) (da_cons (dv 3) da_nil))) da_nil)) (da_cons (de_dctM1 (dv 2)) (da_cons (de_tup da_nil) (da_cons (de_lstM da_nil) (da_cons (de_tup (da_cons de_non (da_cons de_int da_nil))) (da_cons (de_tup (da_cons (de_tup (da_cons de_int (da_cons de_int da_nil))) (da_cons de_int da_nil))) (da_cons de_bl (da_cons (de_dctM0) da_nil)))))))))))) (dv 1) (fun _ _ => rfl))))))
def t_law_no_integer (K : PySem.W.Frag) : TSd :=
 (dRet (dOp oIx (dLst (dCons (dC (.bl true)) (dCons (dC (.bl false)) (dCons (dC .non) (dCons (dVar 0) (dCons (dC (.str "3")) (dCons (dLstM (dCons (dOp oIx (dVar 0) (dC (.int 0))) dNil)) (dCons (dTup dNil) (dCons dDctM0 (dCons (dLstM dNil) (dCons (dDctM1 "top" (dC (.int 1))) (dCons (dC (.str "")) (dCons (dTup (dCons (dC (.int 1)) dNil)) dNil))))))))))))) (dVar 1)))
theorem d_law_no_integer (Z : Fs P K mg)  {sp : SpD} (len : ∀ ds M Q E, sp ds M Q E → ds.length = P_law_no_integer.length) (h : ∀ ds M Q E, sp ds M Q E → t_law_no_integer K (endsOf Q E) ⟨startD N_law_no_integer.length ds, M⟩) : FD P w K mg base "_law_no_integer" s_law_no_integer P_law_no_integer (0 + 1) sp := by
  obtain ⟨f, fd, F, hm⟩ := Z.n_law_no_integer
  refine fd_ok F sc_law_no_integer hm (F.bindsN fun _ _ _ _ _ _ us hl => match us, hl with | [_, _], _ => rfl) len (fun cdv A outer s H E hr => ?_) h
  have nd := sc_law_no_integer.nd
  exact (dss_one (dst_ret (de_ix ix_seq opl_ix (de_lst (da_cons de_bl (da_cons de_bl (da_cons de_non (da_cons (dv 0) (da_cons de_str (da_cons (de_lstM (da_cons (de_ix ix_seq opl_ix (dv 0) de_int (fun _ _ => rfl)) da_nil)) (da_cons (de_tup da_nil) (da_cons (de_dctM0) (da_cons (de_lstM da_nil) (da_cons (de_dctM1 de_int) (da_cons de_str (da_cons (de_tup (da_cons de_int da_nil)) da_nil))))))))))))) (dv 1) (fun _ _ => rfl))))
def t_law_is_own (K : PySem.W.Frag) (sp_law_same sp_law_low : SpD) : TSd :=
 (dSeq (dIfS (dOr (dNot (dTest (dIsi .tuple (dVar 0)))) (dOr (dTest (dOp oNe (dCB cLen (dCons (dVar 0) dNil)) (dC (.int 2)))) (dTest (dOp oNe (dLc (dSeqI (dVar 0)) (.one 1) (dOr (dNot (dTest (dIsi .int (dVar 1)))) (dTest (dIsi .bool (dVar 1)))) (dC (.int 1)) [1]) (dLst dNil))))) (dRet (dC (.bl false))) dNext)
 (dRet (dAndV (dOp oGt (dOp oIx (dVar 0) (dC (.int 1))) (dC (.int 0))) (dCall sp_law_same (dCons (dVar 0) (dCons (dCall sp_law_low (dCons (dOp oIx (dVar 0) (dC (.int 0))) (dCons (dOp oIx (dVar 0) (dC (.int 1))) dNil))) dNil))))))
theorem d_law_is_own (Z : Fs P K mg) {sp_law_same : SpD} (F_law_same : FD P w K mg base "_law_same" s_law_same P_law_same 12 sp_law_same) {sp_law_low : SpD} (F_law_low : FD P w K mg base "_law_low" s_law_low P_law_low 1 sp_law_low) {sp : SpD} (len : ∀ ds M Q E, sp ds M Q E → ds.length = P_law_is_own.length) (h : ∀ ds M Q E, sp ds M Q E → t_law_is_own K sp_law_same sp_law_low (endsOf Q E) ⟨startD N_law_is_own.length ds, M⟩) : FD P w K mg base "_law_is_own" s_law_is_own P_law_is_own (12 + 1) sp := by
  obtain ⟨f, fd, F, hm⟩ := Z.n_law_is_own
  refine fd_ok F sc_law_is_own hm (F.bindsN fun _ _ _ _ _ _ us hl => match us, hl with | [_], _ => rfl) len (fun cdv A outer s H E hr => ?_) h
  have nd := sc_law_is_own.nd
  have tk := takes_of (X := cxOf (L2.CX P w) P w K mg base N_law_is_own "_law_is_own" (defScope s_law_is_own) f cdv A outer s H E) rfl rfl rfl rfl
  exact (dss_cons (dst_if (DW.dt (dw_or (dt_not (dt_val (de_isi .tuple (dv 0) rfl Z.f_isinstance (by decide +kernel) rfl Z.f_tuple (by decide +kernel)))) (dw_or (dt_cmp (op_neD hr.units) opl_ne (de_callB call_len oplc_len rfl Z.f_len (by decide +kernel) (da_cons (dv 0) da_nil)) de_int (nomark _)) (dw_or1 (dt_cmp (op_neD hr.units) opl_ne (de_lc (own := [("part", 1)]) (g := (.one 1)) rfl nd (di_seq (dv 0)) (blkOk_by (own := [("part", 1)]) (N := N_law_is_own) (sc := defScope s_law_is_own) (by decide +kernel)) (fun _ _ _ _ _ => (pg_name (i := 1) nd rfl (by first | exact .inl rfl | exact .inr rfl))) (fun _ _ _ _ _ => (dts_one (DW.dt (dw_or (dt_not (dt_val (de_isi .int (dv 1) rfl Z.f_isinstance (by decide +kernel) rfl Z.f_int (by decide +kernel)))) (dw_or1 (dt_val (de_isi .bool (dv 1) rfl Z.f_isinstance (by decide +kernel) rfl Z.f_bool (by decide +kernel)))))))) (fun _ _ _ _ _ => de_int) (by decide)) (de_lst da_nil) (nomark _)))))) (dss_one (dst_ret de_bl)) dss_nil)
 (dss_one (dst_ret (de_and (de_cmp op_gt opl_cmp (de_ix ix_seq opl_ix (dv 0) de_int (fun _ _ => rfl)) de_int (nomark _)) (de_one (de_call tk F_law_same (hr.mono (by omega)) (da_cons (dv 0) (da_cons (de_call tk F_law_low (hr.mono (by decide)) (da_cons (de_ix ix_seq opl_ix (dv 0) de_int (fun _ _ => rfl)) (da_cons (de_ix ix_seq opl_ix (dv 0) de_int (fun _ _ => rfl)) da_nil))) da_nil))))))))
def t_law_ask (K : PySem.W.Frag) (sp_order sp_over sp_times sp_minus sp_plus sp_fraction : SpD) : TSd :=
 (dTry K (dSeq (dIfS (dTest (dOp oEq (dVar 0) (dC (.str "fraction")))) (dRet (dLst (dCons (dC (.str "told")) (dCons (dIf (dTest (dVar 3)) (dCall sp_fraction (dCons (dVar 1) (dCons (dVar 2) dNil))) (dCallK sp_fraction [1, 0] (dCons (dVar 2) (dCons (dVar 1) dNil)))) dNil)))) dNext)
 (dSeq (dIfS (dTest (dOp oEq (dVar 0) (dC (.str "plus")))) (dRet (dLst (dCons (dC (.str "told")) (dCons (dIf (dTest (dVar 3)) (dCall sp_plus (dCons (dVar 1) (dCons (dVar 2) dNil))) (dCallK sp_plus [1, 0] (dCons (dVar 2) (dCons (dVar 1) dNil)))) dNil)))) dNext)
 (dSeq (dIfS (dTest (dOp oEq (dVar 0) (dC (.str "minus")))) (dRet (dLst (dCons (dC (.str "told")) (dCons (dIf (dTest (dVar 3)) (dCall sp_minus (dCons (dVar 1) (dCons (dVar 2) dNil))) (dCallK sp_minus [1, 0] (dCons (dVar 2) (dCons (dVar 1) dNil)))) dNil)))) dNext)
 (dSeq (dIfS (dTest (dOp oEq (dVar 0) (dC (.str "times")))) (dRet (dLst (dCons (dC (.str "told")) (dCons (dIf (dTest (dVar 3)) (dCall sp_times (dCons (dVar 1) (dCons (dVar 2) dNil))) (dCallK sp_times [1, 0] (dCons (dVar 2) (dCons (dVar 1) dNil)))) dNil)))) dNext)
 (dSeq (dIfS (dTest (dOp oEq (dVar 0) (dC (.str "over")))) (dRet (dLst (dCons (dC (.str "told")) (dCons (dIf (dTest (dVar 3)) (dCall sp_over (dCons (dVar 1) (dCons (dVar 2) dNil))) (dCallK sp_over [1, 0] (dCons (dVar 2) (dCons (dVar 1) dNil)))) dNil)))) dNext)
 (dRet (dLst (dCons (dC (.str "told")) (dCons (dIf (dTest (dVar 3)) (dCall sp_order (dCons (dVar 1) (dCons (dVar 2) dNil))) (dCallK sp_order [1, 0] (dCons (dVar 2) (dCons (dVar 1) dNil)))) dNil))))))))) (⟨He.ga K "InvalidInteger", some 4, fun C a dd => (dRet (dLst (dCons (dC (.str "integer")) (dCons (dXf K C a dd "given" (dVar 4)) dNil))))⟩ :: (⟨He.ga K "InvalidFraction", some 4, fun C a dd => (dRet (dLst (dCons (dC (.str "invalid")) (dCons (dXf K C a dd "given" (dVar 4)) dNil))))⟩ :: (⟨He.ga K "DividedByZero", none, fun C a dd => (dRet (dLst (dCons (dC (.str "zero")) dNil)))⟩ :: []))))
theorem d_law_ask (Z : Fs P K mg) {sp_order : SpD} (F_order : FD P w K mg base "order" s_order P_order 4 sp_order) {sp_over : SpD} (F_over : FD P w K mg base "over" s_over P_over 4 sp_over) {sp_times : SpD} (F_times : FD P w K mg base "times" s_times P_times 4 sp_times) {sp_minus : SpD} (F_minus : FD P w K mg base "minus" s_minus P_minus 4 sp_minus) {sp_plus : SpD} (F_plus : FD P w K mg base "plus" s_plus P_plus 4 sp_plus) {sp_fraction : SpD} (F_fraction : FD P w K mg base "fraction" s_fraction P_fraction 3 sp_fraction) {sp : SpD} (len : ∀ ds M Q E, sp ds M Q E → ds.length = P_law_ask.length) (h : ∀ ds M Q E, sp ds M Q E → t_law_ask K sp_order sp_over sp_times sp_minus sp_plus sp_fraction (endsOf Q E) ⟨startD N_law_ask.length ds, M⟩) : FD P w K mg base "_law_ask" s_law_ask P_law_ask (4 + 1) sp := by
  obtain ⟨f, fd, F, hm⟩ := Z.n_law_ask
  refine fd_ok F sc_law_ask hm (F.bindsN fun _ _ _ _ _ _ us hl => match us, hl with | [_, _, _, _], _ => rfl) len (fun cdv A outer s H E hr => ?_) h
  have nd := sc_law_ask.nd
  have tk := takes_of (X := cxOf (L2.CX P w) P w K mg base N_law_ask "_law_ask" (defScope s_law_ask) f cdv A outer s H E) rfl rfl rfl rfl
  have po := passes_of (X := cxOf (L2.CX P w) P w K mg base N_law_ask "_law_ask" (defScope s_law_ask) f cdv A outer s H E) rfl
  exact (dss_one (dst_try rfl rfl tk (fun _ _ _ tk po => (dss_cons (dst_if (dt_cmp (op_eqD hr.units) opl_eq (dv 0) de_str (nomark _)) (dss_one (dst_ret (de_lst (da_cons de_str (da_cons (de_if (dt_val (dv 3)) (de_call tk F_fraction (hr.mono (by decide)) (da_cons (dv 1) (da_cons (dv 2) da_nil))) (de_callKw (ks := [("bottom" : Str), ("top" : Str)]) [1, 0] tk F_fraction (hr.mono (by decide)) (dk_cons (dv 2) (dk_cons (dv 1) dk_nil)) (fun _ _ _ _ _ _ ws hl => match ws, hl with | [_, _], _ => rfl))) da_nil))))) dss_nil)
 (dss_cons (dst_if (dt_cmp (op_eqD hr.units) opl_eq (dv 0) de_str (nomark _)) (dss_one (dst_ret (de_lst (da_cons de_str (da_cons (de_if (dt_val (dv 3)) (de_call tk F_plus (hr.mono (by decide)) (da_cons (dv 1) (da_cons (dv 2) da_nil))) (de_callKw (ks := [("other" : Str), ("one" : Str)]) [1, 0] tk F_plus (hr.mono (by decide)) (dk_cons (dv 2) (dk_cons (dv 1) dk_nil)) (fun _ _ _ _ _ _ ws hl => match ws, hl with | [_, _], _ => rfl))) da_nil))))) dss_nil)
 (dss_cons (dst_if (dt_cmp (op_eqD hr.units) opl_eq (dv 0) de_str (nomark _)) (dss_one (dst_ret (de_lst (da_cons de_str (da_cons (de_if (dt_val (dv 3)) (de_call tk F_minus (hr.mono (by decide)) (da_cons (dv 1) (da_cons (dv 2) da_nil))) (de_callKw (ks := [("other" : Str), ("one" : Str)]) [1, 0] tk F_minus (hr.mono (by decide)) (dk_cons (dv 2) (dk_cons (dv 1) dk_nil)) (fun _ _ _ _ _ _ ws hl => match ws, hl with | [_, _], _ => rfl))) da_nil))))) dss_nil)
 (dss_cons (dst_if (dt_cmp (op_eqD hr.units) opl_eq (dv 0) de_str (nomark _)) (dss_one (dst_ret (de_lst (da_cons de_str (da_cons (de_if (dt_val (dv 3)) (de_call tk F_times (hr.mono (by decide)) (da_cons (dv 1) (da_cons (dv 2) da_nil))) (de_callKw (ks := [("other" : Str), ("one" : Str)]) [1, 0] tk F_times (hr.mono (by decide)) (dk_cons (dv 2) (dk_cons (dv 1) dk_nil)) (fun _ _ _ _ _ _ ws hl => match ws, hl with | [_, _], _ => rfl))) da_nil))))) dss_nil)
 (dss_cons (dst_if (dt_cmp (op_eqD hr.units) opl_eq (dv 0) de_str (nomark _)) (dss_one (dst_ret (de_lst (da_cons de_str (da_cons (de_if (dt_val (dv 3)) (de_call tk F_over (hr.mono (by decide)) (da_cons (dv 1) (da_cons (dv 2) da_nil))) (de_callKw (ks := [("other" : Str), ("one" : Str)]) [1, 0] tk F_over (hr.mono (by decide)) (dk_cons (dv 2) (dk_cons (dv 1) dk_nil)) (fun _ _ _ _ _ _ ws hl => match ws, hl with | [_, _], _ => rfl))) da_nil))))) dss_nil)
 (dss_one (dst_ret (de_lst (da_cons de_str (da_cons (de_if (dt_val (dv 3)) (de_call tk F_order (hr.mono (by decide)) (da_cons (dv 1) (da_cons (dv 2) da_nil))) (de_callKw (ks := [("other" : Str), ("one" : Str)]) [1, 0] tk F_order (hr.mono (by decide)) (dk_cons (dv 2) (dk_cons (dv 1) dk_nil)) (fun _ _ _ _ _ _ ws hl => match ws, hl with | [_, _], _ => rfl))) da_nil))))))))))) (hd_as (i := 4) rfl Z.e_InvalidInteger.gl nd rfl rfl (fun C a dd oe pn hz hf => (dss_one (dst_ret (de_lst (da_cons de_str (da_cons (de_xf hz hf (dv 4)) da_nil)))))) (hd_as (i := 4) rfl Z.e_InvalidFraction.gl nd rfl rfl (fun C a dd oe pn hz hf => (dss_one (dst_ret (de_lst (da_cons de_str (da_cons (de_xf hz hf (dv 4)) da_nil)))))) (hd_bare rfl Z.e_DividedByZero.gl (fun C a dd oe pn hz hf => (dss_one (dst_ret (de_lst (da_cons de_str da_nil))))) hd_nil)))))
def t_law_due (K : PySem.W.Frag) (sp_law_times sp_law_over sp_law_minus sp_law_plus sp_law_low : SpD) : TSd :=
 (dSeq (dIfS (dAnd (dTest (dOp oIn (dVar 0) (dTup (dCons (dC (.str "fraction")) (dCons (dC (.str "over")) dNil))))) (dOr (dTest (dOp oEq (dVar 2) (dC (.int 0)))) (dTest (dOp oEq (dVar 2) (dTup (dCons (dC (.int 0)) (dCons (dC (.int 1)) dNil))))))) (dRet (dLst (dCons (dC (.str "zero")) dNil))) dNext)
 (dSeq (dIfS (dTest (dOp oEq (dVar 0) (dC (.str "fraction")))) (dRet (dLst (dCons (dC (.str "told")) (dCons (dCall sp_law_low (dCons (dVar 1) (dCons (dVar 2) dNil))) dNil)))) dNext)
 (dSeq (dIfS (dTest (dOp oEq (dVar 0) (dC (.str "order")))) (dSeq (dAsg (dOp oSubI (dOp oMulI (dOp oIx (dVar 1) (dC (.int 0))) (dOp oIx (dVar 2) (dC (.int 1)))) (dOp oMulI (dOp oIx (dVar 2) (dC (.int 0))) (dOp oIx (dVar 1) (dC (.int 1))))) (hName 3))
 (dRet (dLst (dCons (dC (.str "told")) (dCons (dOp oSubB (dOp oGt (dVar 3) (dC (.int 0))) (dOp oLt (dVar 3) (dC (.int 0)))) dNil))))) dNext)
 (dSeq (dIfS (dTest (dOp oEq (dVar 0) (dC (.str "plus")))) (dRet (dLst (dCons (dC (.str "told")) (dCons (dCall sp_law_plus (dCons (dVar 1) (dCons (dVar 2) dNil))) dNil)))) dNext)
 (dSeq (dIfS (dTest (dOp oEq (dVar 0) (dC (.str "minus")))) (dRet (dLst (dCons (dC (.str "told")) (dCons (dCall sp_law_minus (dCons (dVar 1) (dCons (dVar 2) dNil))) dNil)))) dNext)
 (dRet (dLst (dCons (dC (.str "told")) (dCons (dIf (dTest (dOp oEq (dVar 0) (dC (.str "times")))) (dCall sp_law_times (dCons (dVar 1) (dCons (dVar 2) dNil))) (dCall sp_law_over (dCons (dVar 1) (dCons (dVar 2) dNil)))) dNil)))))))))
theorem d_law_due (Z : Fs P K mg) {sp_law_times : SpD} (F_law_times : FD P w K mg base "_law_times" s_law_times P_law_times 2 sp_law_times) {sp_law_over : SpD} (F_law_over : FD P w K mg base "_law_over" s_law_over P_law_over 2 sp_law_over) {sp_law_minus : SpD} (F_law_minus : FD P w K mg base "_law_minus" s_law_minus P_law_minus 2 sp_law_minus) {sp_law_plus : SpD} (F_law_plus : FD P w K mg base "_law_plus" s_law_plus P_law_plus 2 sp_law_plus) {sp_law_low : SpD} (F_law_low : FD P w K mg base "_law_low" s_law_low P_law_low 1 sp_law_low) {sp : SpD} (len : ∀ ds M Q E, sp ds M Q E → ds.length = P_law_due.length) (h : ∀ ds M Q E, sp ds M Q E → t_law_due K sp_law_times sp_law_over sp_law_minus sp_law_plus sp_law_low (endsOf Q E) ⟨startD N_law_due.length ds, M⟩) : FD P w K mg base "_law_due" s_law_due P_law_due (2 + 1) sp := by
  obtain ⟨f, fd, F, hm⟩ := Z.n_law_due
  refine fd_ok F sc_law_due hm (F.bindsN fun _ _ _ _ _ _ us hl => match us, hl with | [_, _, _], _ => rfl) len (fun cdv A outer s H E hr => ?_) h
  have nd := sc_law_due.nd
  have tk := takes_of (X := cxOf (L2.CX P w) P w K mg base N_law_due "_law_due" (defScope s_law_due) f cdv A outer s H E) rfl rfl rfl rfl
  exact (dss_cons (dst_if (DW.dt (dw_and (dt_cmp op_in_seq opl_in (dv 0) (de_tup (da_cons de_str (da_cons de_str da_nil))) (by with_unfolding_all rfl)) (dw_and1 (DW.dt (dw_or (dt_cmp (op_eqD hr.units) opl_eq (dv 2) de_int (nomark _)) (dw_or1 (dt_cmp (op_eqD hr.units) opl_eq (dv 2) (de_tup (da_cons de_int (da_cons de_int da_nil))) (nomark _)))))))) (dss_one (dst_ret (de_lst (da_cons de_str da_nil)))) dss_nil)
 (dss_cons (dst_if (dt_cmp (op_eqD hr.units) opl_eq (dv 0) de_str (nomark _)) (dss_one (dst_ret (de_lst (da_cons de_str (da_cons (de_call tk F_law_low (hr.mono (by decide)) (da_cons (dv 1) (da_cons (dv 2) da_nil))) da_nil))))) dss_nil)
 (dss_cons (dst_if (dt_cmp (op_eqD hr.units) opl_eq (dv 0) de_str (nomark _)) (dss_cons (dst_set (i := 3) nd rfl (.inl rfl) (de_op op_sub opl_sub (de_op op_mulV opl_mul (de_ix ix_seq opl_ix (dv 1) de_int (fun _ _ => rfl)) (de_ix ix_seq opl_ix (dv 2) de_int (fun _ _ => rfl))) (de_op op_mulV opl_mul (de_ix ix_seq opl_ix (dv 2) de_int (fun _ _ => rfl)) (de_ix ix_seq opl_ix (dv 1) de_int (fun _ _ => rfl)))))
 (dss_one (dst_ret (de_lst (da_cons de_str (da_cons (de_op op_subB opl_subB (de_cmp op_gt opl_cmp (dv 3) de_int (nomark _)) (de_cmp op_lt opl_cmp (dv 3) de_int (nomark _))) da_nil)))))) dss_nil)
 (dss_cons (dst_if (dt_cmp (op_eqD hr.units) opl_eq (dv 0) de_str (nomark _)) (dss_one (dst_ret (de_lst (da_cons de_str (da_cons (de_call tk F_law_plus (hr.mono (by decide)) (da_cons (dv 1) (da_cons (dv 2) da_nil))) da_nil))))) dss_nil)
 (dss_cons (dst_if (dt_cmp (op_eqD hr.units) opl_eq (dv 0) de_str (nomark _)) (dss_one (dst_ret (de_lst (da_cons de_str (da_cons (de_call tk F_law_minus (hr.mono (by decide)) (da_cons (dv 1) (da_cons (dv 2) da_nil))) da_nil))))) dss_nil)
 (dss_one (dst_ret (de_lst (da_cons de_str (da_cons (de_if (dt_cmp (op_eqD hr.units) opl_eq (dv 0) de_str (nomark _)) (de_call tk F_law_times (hr.mono (by decide)) (da_cons (dv 1) (da_cons (dv 2) da_nil))) (de_call tk F_law_over (hr.mono (by decide)) (da_cons (dv 1) (da_cons (dv 2) da_nil)))) da_nil))))))))))
def t_law_judged_right (K : PySem.W.Frag) (sp_law_same sp_law_is_own sp_is_fraction sp_law_strange sp_law_take : SpD) : TSd :=
 (dSeq (dAsg (dOp oAdd (dLst (dCons (dVar 1) (dCons (dTup (dCons (dC (.int 0)) (dCons (dC (.int 1)) dNil))) (dCons (dTup (dCons (dUn oNeg (dOp oIx (dVar 1) (dC (.int 0)))) (dCons (dOp oIx (dVar 1) (dC (.int 1))) dNil))) dNil)))) (dLc (dRange1 (dCons (dC (.int 6)) dNil)) (.one 5) dYes (dCall sp_law_strange (dCons (dVar 1) (dCons (dCall sp_law_take (dCons (dVar 0) (dCons (dC (.int 23)) dNil))) dNil))) [5])) (hName 3))
 (dSeq (dFor (dSeqI (dVar 3)) (hName 4) (dSeq (dIfS (dNot (dTest (dCall sp_law_same (dCons (dIf (dTest (dVar 2)) (dCall sp_is_fraction (dCons (dVar 4) dNil)) (dCallK sp_is_fraction [0] (dCons (dVar 4) dNil))) (dCons (dCall sp_law_is_own (dCons (dVar 4) dNil)) dNil))))) (dRet (dC (.bl false))) dNext)
 (dAsg (dNotV (dVar 2)) (hName 2))))
 (dRet (dC (.bl true)))))
theorem d_law_judged_right (Z : Fs P K mg) {sp_law_same : SpD} (F_law_same : FD P w K mg base "_law_same" s_law_same P_law_same 12 sp_law_same) {sp_law_is_own : SpD} (F_law_is_own : FD P w K mg base "_law_is_own" s_law_is_own P_law_is_own 13 sp_law_is_own) {sp_is_fraction : SpD} (F_is_fraction : FD P w K mg base "is_fraction" s_is_fraction P_is_fraction 3 sp_is_fraction) {sp_law_strange : SpD} (F_law_strange : FD P w K mg base "_law_strange" s_law_strange P_law_strange 1 sp_law_strange) {sp_law_take : SpD} (F_law_take : FD P w K mg base "_law_take" s_law_take P_law_take 1 sp_law_take) {sp : SpD} (len : ∀ ds M Q E, sp ds M Q E → ds.length = P_law_judged_right.length) (h : ∀ ds M Q E, sp ds M Q E → t_law_judged_right K sp_law_same sp_law_is_own sp_is_fraction sp_law_strange sp_law_take (endsOf Q E) ⟨startD N_law_judged_right.length ds, M⟩) : FD P w K mg base "_law_judged_right" s_law_judged_right P_law_judged_right (13 + 1) sp := by
  obtain ⟨f, fd, F, hm⟩ := Z.n_law_judged_right
  refine fd_ok F sc_law_judged_right hm (F.bindsN fun _ _ _ _ _ _ us hl => match us, hl with | [_, _, _], _ => rfl) len (fun cdv A outer s H E hr => ?_) h
  have nd := sc_law_judged_right.nd
  have tk := takes_of (X := cxOf (L2.CX P w) P w K mg base N_law_judged_right "_law_judged_right" (defScope s_law_judged_right) f cdv A outer s H E) rfl rfl rfl rfl
  have po := passes_of (X := cxOf (L2.CX P w) P w K mg base N_law_judged_right "_law_judged_right" (defScope s_law_judged_right) f cdv A outer s H E) rfl
  exact (dss_cons (dst_set (i := 3) nd rfl (.inl rfl) (de_op op_addA opl_add (de_lst (da_cons (dv 1) (da_cons (de_tup (da_cons de_int (da_cons de_int da_nil))) (da_cons (de_tup (da_cons (de_un un_neg opl_neg (de_ix ix_seq opl_ix (dv 1) de_int (fun _ _ => rfl))) (da_cons (de_ix ix_seq opl_ix (dv 1) de_int (fun _ _ => rfl)) da_nil))) da_nil)))) (de_lc (own := [("turn", 5)]) (g := (.one 5)) rfl nd (di_range1 rfl Z.f_range (da_cons de_int da_nil)) (blkOk_by (own := [("turn", 5)]) (N := N_law_judged_right) (sc := defScope s_law_judged_right) (by decide +kernel)) (fun _ _ _ _ _ => (pg_name (i := 5) nd rfl (by first | exact .inl rfl | exact .inr rfl))) (fun _ _ _ _ _ => dts_nil) (fun _ _ _ _ _ => (de_call takes0 F_law_strange (hr.mono (by decide)) (da_cons (dv 1) (da_cons (de_call takes0 F_law_take (hr.mono (by decide)) (da_cons (dv 0) (da_cons de_int da_nil))) da_nil)))) (by decide))))
 (dss_cons (dst_for po rfl (di_seq (dv 3)) (dg_name (i := 4) nd rfl (.inl rfl)) (dss_cons (dst_if (dt_not (dt_val (de_call tk F_law_same (hr.mono (by omega)) (da_cons (de_if (dt_val (dv 2)) (de_call tk F_is_fraction (hr.mono (by decide)) (da_cons (dv 4) da_nil)) (de_callKw (ks := [("value" : Str)]) [0] tk F_is_fraction (hr.mono (by decide)) (dk_cons (dv 4) dk_nil) (fun _ _ _ _ _ _ ws hl => match ws, hl with | [_], _ => rfl))) (da_cons (de_call tk F_law_is_own (hr.mono (by decide)) (da_cons (dv 4) da_nil)) da_nil))))) (dss_one (dst_ret de_bl)) dss_nil)
 (dss_one (dst_set (i := 2) nd rfl (.inl rfl) (de_not (dv 2))))))
 (dss_one (dst_ret de_bl))))
def t_law_made_right (K : PySem.W.Frag) (sp_law_same sp_law_due sp_law_ask sp_law_take sp_law_integer : SpD) : TSd :=
 (dSeq (dAsg (dOp oIx (dLst (dCons (dC (.int 1)) (dCons (dOp oAdd (dC (.int 1)) (dCall sp_law_take (dCons (dVar 0) (dCons (dC (.int 9)) dNil)))) (dCons (dOp oAdd (dC (.int 1)) (dCall sp_law_take (dCons (dVar 0) (dCons (dC (.int 1000)) dNil)))) dNil)))) (dCall sp_law_take (dCons (dVar 0) (dCons (dC (.int 3)) dNil)))) (hName 2))
 (dSeq (dPar 3 4 (dCons (dOp oMulI (dOp oDivI (dCB cAbs (dCons (dCall sp_law_integer (dCons (dVar 0) dNil)) dNil)) (dVar 2)) (dVar 2)) (dCons (dOp oMulI (dOp oDivI (dCB cAbs (dCons (dCall sp_law_integer (dCons (dVar 0) dNil)) dNil)) (dVar 2)) (dVar 2)) dNil)))
 (dSeq (dPar 3 4 (dCons (dOp oMulI (dOp oIx (dLst (dCons (dUn oNeg (dC (.int 1))) (dCons (dC (.int 1)) dNil))) (dCall sp_law_take (dCons (dVar 0) (dCons (dC (.int 2)) dNil)))) (dVar 3)) (dCons (dOp oMulI (dOp oIx (dLst (dCons (dUn oNeg (dC (.int 1))) (dCons (dC (.int 1)) dNil))) (dCall sp_law_take (dCons (dVar 0) (dCons (dC (.int 2)) dNil)))) (dVar 4)) dNil)))
 (dSeq (dFor (dSeqI (dLst (dCons (dTup (dCons (dVar 3) (dCons (dVar 4) dNil))) (dCons (dTup (dCons (dVar 4) (dCons (dVar 3) dNil))) (dCons (dTup (dCons (dVar 3) (dCons (dUn oNeg (dVar 3)) dNil))) (dCons (dTup (dCons (dC (.int 0)) (dCons (dVar 4) dNil))) (dCons (dTup (dCons (dVar 3) (dCons (dC (.int 0)) dNil))) (dCons (dTup (dCons (dVar 3) (dCons (dC (.int 1)) dNil))) dNil)))))))) (hTup 2 (hCons (hName 5) (hCons (hName 6) hNil))) (dSeq (dIfS (dNot (dTest (dCall sp_law_same (dCons (dCall sp_law_ask (dCons (dC (.str "fraction")) (dCons (dVar 5) (dCons (dVar 6) (dCons (dVar 1) dNil))))) (dCons (dCall sp_law_due (dCons (dC (.str "fraction")) (dCons (dVar 5) (dCons (dVar 6) dNil)))) dNil))))) (dRet (dC (.bl false))) dNext)
 (dAsg (dNotV (dVar 1)) (hName 1))))
 (dRet (dC (.bl true)))))))
theorem d_law_made_right (Z : Fs P K mg) {sp_law_same : SpD} (F_law_same : FD P w K mg base "_law_same" s_law_same P_law_same 12 sp_law_same) {sp_law_due : SpD} (F_law_due : FD P w K mg base "_law_due" s_law_due P_law_due 3 sp_law_due) {sp_law_ask : SpD} (F_law_ask : FD P w K mg base "_law_ask" s_law_ask P_law_ask 5 sp_law_ask) {sp_law_take : SpD} (F_law_take : FD P w K mg base "_law_take" s_law_take P_law_take 1 sp_law_take) {sp_law_integer : SpD} (F_law_integer : FD P w K mg base "_law_integer" s_law_integer P_law_integer 2 sp_law_integer) {sp : SpD} (len : ∀ ds M Q E, sp ds M Q E → ds.length = P_law_made_right.length) (h : ∀ ds M Q E, sp ds M Q E → t_law_made_right K sp_law_same sp_law_due sp_law_ask sp_law_take sp_law_integer (endsOf Q E) ⟨startD N_law_made_right.length ds, M⟩) : FD P w K mg base "_law_made_right" s_law_made_right P_law_made_right (12 + 1) sp := by
  obtain ⟨f, fd, F, hm⟩ := Z.n_law_made_right
  refine fd_ok F sc_law_made_right hm (F.bindsN fun _ _ _ _ _ _ us hl => match us, hl with | [_, _], _ => rfl) len (fun cdv A outer s H E hr => ?_) h
  have nd := sc_law_made_right.nd
  have tk := takes_of (X := cxOf (L2.CX P w) P w K mg base N_law_made_right "_law_made_right" (defScope s_law_made_right) f cdv A outer s H E) rfl rfl rfl rfl
  have po := passes_of (X := cxOf (L2.CX P w) P w K mg base N_law_made_right "_law_made_right" (defScope s_law_made_right) f cdv A outer s H E) rfl
  exact (dss_cons (dst_set (i := 2) nd rfl (.inl rfl) (de_ix ix_seq opl_ix (de_lst (da_cons de_int (da_cons (de_op op_addA opl_add de_int (de_call tk F_law_take (hr.mono (by decide)) (da_cons (dv 0) (da_cons de_int da_nil)))) (da_cons (de_op op_addA opl_add de_int (de_call tk F_law_take (hr.mono (by decide)) (da_cons (dv 0) (da_cons de_int da_nil)))) da_nil)))) (de_call tk F_law_take (hr.mono (by decide)) (da_cons (dv 0) (da_cons de_int da_nil))) (fun _ _ => rfl)))
 (dss_cons (dst_par (i := 3) (j := 4) rfl nd rfl rfl (by decide) rfl rfl (da_cons (de_op op_mulV opl_mul (de_op op_fdivZ opl_div (de_callB call_abs oplc_abs rfl Z.f_abs (by decide +kernel) (da_cons (de_call tk F_law_integer (hr.mono (by decide)) (da_cons (dv 0) da_nil)) da_nil)) (dv 2)) (dv 2)) (da_cons (de_op op_mulV opl_mul (de_op op_fdivZ opl_div (de_callB call_abs oplc_abs rfl Z.f_abs (by decide +kernel) (da_cons (de_call tk F_law_integer (hr.mono (by decide)) (da_cons (dv 0) da_nil)) da_nil)) (dv 2)) (dv 2)) da_nil)) (by rfl))
 (dss_cons (dst_par (i := 3) (j := 4) rfl nd rfl rfl (by decide) rfl rfl (da_cons (de_op op_mulV opl_mul (de_ix ix_seq opl_ix (de_lst (da_cons (de_un un_neg opl_neg de_int) (da_cons de_int da_nil))) (de_call tk F_law_take (hr.mono (by decide)) (da_cons (dv 0) (da_cons de_int da_nil))) (fun _ _ => rfl)) (dv 3)) (da_cons (de_op op_mulV opl_mul (de_ix ix_seq opl_ix (de_lst (da_cons (de_un un_neg opl_neg de_int) (da_cons de_int da_nil))) (de_call tk F_law_take (hr.mono (by decide)) (da_cons (dv 0) (da_cons de_int da_nil))) (fun _ _ => rfl)) (dv 4)) da_nil)) (by rfl))
 (dss_cons (dst_for po rfl (di_seq (de_lst (da_cons (de_tup (da_cons (dv 3) (da_cons (dv 4) da_nil))) (da_cons (de_tup (da_cons (dv 4) (da_cons (dv 3) da_nil))) (da_cons (de_tup (da_cons (dv 3) (da_cons (de_un un_neg opl_neg (dv 3)) da_nil))) (da_cons (de_tup (da_cons de_int (da_cons (dv 4) da_nil))) (da_cons (de_tup (da_cons (dv 3) (da_cons de_int da_nil))) (da_cons (de_tup (da_cons (dv 3) (da_cons de_int da_nil))) da_nil)))))))) (dg_tup rfl (dgs_cons (dg_name (i := 5) nd rfl (.inl rfl)) (dgs_cons (dg_name (i := 6) nd rfl (.inl rfl)) dgs_nil))) (dss_cons (dst_if (dt_not (dt_val (de_call tk F_law_same (hr.mono (by omega)) (da_cons (de_call tk F_law_ask (hr.mono (by decide)) (da_cons de_str (da_cons (dv 5) (da_cons (dv 6) (da_cons (dv 1) da_nil))))) (da_cons (de_call tk F_law_due (hr.mono (by decide)) (da_cons de_str (da_cons (dv 5) (da_cons (dv 6) da_nil)))) da_nil))))) (dss_one (dst_ret de_bl)) dss_nil)
 (dss_one (dst_set (i := 1) nd rfl (.inl rfl) (de_not (dv 1))))))
 (dss_one (dst_ret de_bl))))))
def t_law_chain_right (K : PySem.W.Frag) (sp_law_same sp_law_due sp_law_ask sp_law_take sp_law_beside : SpD) : TSd :=
 (dSeq (dAsg (dVar 1) (hName 4))
 (dSeq (dFor (dRange1 (dCons (dC (.int 6)) dNil)) (hName 5) (dSeq (dAsg (dOp oIx (dLst (dCons (dC (.str "plus")) (dCons (dC (.str "minus")) (dCons (dC (.str "times")) (dCons (dC (.str "over")) (dCons (dC (.str "order")) dNil)))))) (dIf (dTest (dOp oGt (dVar 5) (dC (.int 0)))) (dCall sp_law_take (dCons (dVar 0) (dCons (dC (.int 5)) dNil))) (dC (.int 3)))) (hName 6))
 (dSeq (dAsg (dCall sp_law_due (dCons (dVar 6) (dCons (dVar 1) (dCons (dVar 2) dNil)))) (hName 7))
 (dSeq (dIfS (dNot (dTest (dCall sp_law_same (dCons (dCall sp_law_ask (dCons (dVar 6) (dCons (dVar 1) (dCons (dVar 2) (dCons (dVar 3) dNil))))) (dCons (dVar 7) dNil))))) (dRet (dC (.bl false))) dNext)
 (dSeq (dIfS (dAnd (dTest (dOp oEq (dOp oIx (dVar 7) (dC (.int 0))) (dC (.str "told")))) (dTest (dOp oNe (dVar 6) (dC (.str "order"))))) (dAsg (dIf (dTest (dOp oEq (dCall sp_law_take (dCons (dVar 0) (dCons (dC (.int 2)) dNil))) (dC (.int 0)))) (dTup (dCons (dOp oIx (dVar 7) (dC (.int 1))) (dCons (dCall sp_law_beside (dCons (dVar 0) (dCons (dVar 4) dNil))) dNil))) (dTup (dCons (dVar 2) (dCons (dOp oIx (dVar 7) (dC (.int 1))) dNil)))) (hTup 2 (hCons (hName 1) (hCons (hName 2) hNil)))) dNext)
 (dAsg (dNotV (dVar 3)) (hName 3)))))))
 (dSeq (dFor (dSeqI (dLst (dCons (dC (.str "plus")) (dCons (dC (.str "minus")) (dCons (dC (.str "times")) (dCons (dC (.str "over")) (dCons (dC (.str "order")) dNil))))))) (hName 6) (dIfS (dNot (dTest (dCall sp_law_same (dCons (dCall sp_law_ask (dCons (dVar 6) (dCons (dVar 1) (dCons (dVar 2) (dCons (dVar 3) dNil))))) (dCons (dCall sp_law_due (dCons (dVar 6) (dCons (dVar 1) (dCons (dVar 2) dNil)))) dNil))))) (dRet (dC (.bl false))) dNext))
 (dRet (dC (.bl true))))))
theorem d_law_chain_right (Z : Fs P K mg) {sp_law_same : SpD} (F_law_same : FD P w K mg base "_law_same" s_law_same P_law_same 12 sp_law_same) {sp_law_due : SpD} (F_law_due : FD P w K mg base "_law_due" s_law_due P_law_due 3 sp_law_due) {sp_law_ask : SpD} (F_law_ask : FD P w K mg base "_law_ask" s_law_ask P_law_ask 5 sp_law_ask) {sp_law_take : SpD} (F_law_take : FD P w K mg base "_law_take" s_law_take P_law_take 1 sp_law_take) {sp_law_beside : SpD} (F_law_beside : FD P w K mg base "_law_beside" s_law_beside P_law_beside 4 sp_law_beside) {sp : SpD} (len : ∀ ds M Q E, sp ds M Q E → ds.length = P_law_chain_right.length) (h : ∀ ds M Q E, sp ds M Q E → t_law_chain_right K sp_law_same sp_law_due sp_law_ask sp_law_take sp_law_beside (endsOf Q E) ⟨startD N_law_chain_right.length ds, M⟩) : FD P w K mg base "_law_chain_right" s_law_chain_right P_law_chain_right (12 + 1) sp := by
  obtain ⟨f, fd, F, hm⟩ := Z.n_law_chain_right
  refine fd_ok F sc_law_chain_right hm (F.bindsN fun _ _ _ _ _ _ us hl => match us, hl with | [_, _, _, _], _ => rfl) len (fun cdv A outer s H E hr => ?_) h
  have nd := sc_law_chain_right.nd
  have tk := takes_of (X := cxOf (L2.CX P w) P w K mg base N_law_chain_right "_law_chain_right" (defScope s_law_chain_right) f cdv A outer s H E) rfl rfl rfl rfl
  have po := passes_of (X := cxOf (L2.CX P w) P w K mg base N_law_chain_right "_law_chain_right" (defScope s_law_chain_right) f cdv A outer s H E) rfl
  exact (dss_cons (dst_set (i := 4) nd rfl (.inl rfl) (dv 1))
 (dss_cons (dst_for po rfl (di_range1 rfl Z.f_range (da_cons de_int da_nil)) (dg_name (i := 5) nd rfl (.inl rfl)) (dss_cons (dst_set (i := 6) nd rfl (.inl rfl) (de_ix ix_seq opl_ix (de_lst (da_cons de_str (da_cons de_str (da_cons de_str (da_cons de_str (da_cons de_str da_nil)))))) (de_if (dt_cmp op_gt opl_cmp (dv 5) de_int (nomark _)) (de_call tk F_law_take (hr.mono (by decide)) (da_cons (dv 0) (da_cons de_int da_nil))) de_int) (fun _ _ => rfl)))
 (dss_cons (dst_set (i := 7) nd rfl (.inl rfl) (de_call tk F_law_due (hr.mono (by decide)) (da_cons (dv 6) (da_cons (dv 1) (da_cons (dv 2) da_nil)))))
 (dss_cons (dst_if (dt_not (dt_val (de_call tk F_law_same (hr.mono (by omega)) (da_cons (de_call tk F_law_ask (hr.mono (by decide)) (da_cons (dv 6) (da_cons (dv 1) (da_cons (dv 2) (da_cons (dv 3) da_nil))))) (da_cons (dv 7) da_nil))))) (dss_one (dst_ret de_bl)) dss_nil)
 (dss_cons (dst_if (DW.dt (dw_and (dt_cmp (op_eqD hr.units) opl_eq (de_ix ix_seq opl_ix (dv 7) de_int (fun _ _ => rfl)) de_str (nomark _)) (dw_and1 (dt_cmp (op_neD hr.units) opl_ne (dv 6) de_str (nomark _))))) (dss_one (dst_asg (de_if (dt_cmp (op_eqD hr.units) opl_eq (de_call tk F_law_take (hr.mono (by decide)) (da_cons (dv 0) (da_cons de_int da_nil))) de_int (nomark _)) (de_tup (da_cons (de_ix ix_seq opl_ix (dv 7) de_int (fun _ _ => rfl)) (da_cons (de_call tk F_law_beside (hr.mono (by decide)) (da_cons (dv 0) (da_cons (dv 4) da_nil))) da_nil))) (de_tup (da_cons (dv 2) (da_cons (de_ix ix_seq opl_ix (dv 7) de_int (fun _ _ => rfl)) da_nil)))) (dg_tup rfl (dgs_cons (dg_name (i := 1) nd rfl (.inl rfl)) (dgs_cons (dg_name (i := 2) nd rfl (.inl rfl)) dgs_nil))))) dss_nil)
 (dss_one (dst_set (i := 3) nd rfl (.inl rfl) (de_not (dv 3)))))))))
 (dss_cons (dst_for po rfl (di_seq (de_lst (da_cons de_str (da_cons de_str (da_cons de_str (da_cons de_str (da_cons de_str da_nil))))))) (dg_name (i := 6) nd rfl (.inl rfl)) (dss_one (dst_if (dt_not (dt_val (de_call tk F_law_same (hr.mono (by omega)) (da_cons (de_call tk F_law_ask (hr.mono (by decide)) (da_cons (dv 6) (da_cons (dv 1) (da_cons (dv 2) (da_cons (dv 3) da_nil))))) (da_cons (de_call tk F_law_due (hr.mono (by decide)) (da_cons (dv 6) (da_cons (dv 1) (da_cons (dv 2) da_nil)))) da_nil))))) (dss_one (dst_ret de_bl)) dss_nil)))
 (dss_one (dst_ret de_bl)))))
def t_law_refused_right (K : PySem.W.Frag) (sp_law_very sp_law_ask sp_law_no_integer sp_law_take sp_law_strange : SpD) : TSd :=
 (dSeq (dFor (dSeqI (dLst (dCons (dC (.str "plus")) (dCons (dC (.str "minus")) (dCons (dC (.str "times")) (dCons (dC (.str "over")) (dCons (dC (.str "order")) dNil))))))) (hName 3) (dSeq (dPar 4 5 (dCons (dCall sp_law_take (dCons (dVar 0) (dCons (dC (.int 23)) dNil))) (dCons (dCall sp_law_take (dCons (dVar 0) (dCons (dC (.int 23)) dNil))) dNil)))
 (dFor (dRange1 (dCons (dC (.int 4)) dNil)) (hName 6) (dSeq (dPar 7 8 (dCons (dCall sp_law_strange (dCons (dVar 1) (dCons (dVar 4) dNil))) (dCons (dCall sp_law_strange (dCons (dVar 1) (dCons (dVar 5) dNil))) dNil)))
 (dSeq (dAsg (dOp oIx (dLst (dCons (dTup (dCons (dVar 7) (dCons (dVar 1) (dCons (dVar 7) dNil)))) (dCons (dTup (dCons (dVar 1) (dCons (dVar 8) (dCons (dVar 8) dNil)))) (dCons (dTup (dCons (dVar 7) (dCons (dVar 8) (dCons (dVar 7) dNil)))) (dCons (dTup (dCons (dVar 7) (dCons (dTup (dCons (dC (.int 0)) (dCons (dC (.int 1)) dNil))) (dCons (dVar 7) dNil)))) dNil))))) (dVar 6)) (hTup 3 (hCons (hName 9) (hCons (hName 10) (hCons (hName 11) hNil)))))
 (dSeq (dAsg (dCall sp_law_ask (dCons (dVar 3) (dCons (dVar 9) (dCons (dVar 10) (dCons (dVar 2) dNil))))) (hName 12))
 (dSeq (dIfS (dOr (dTest (dOp oNe (dOp oIx (dVar 12) (dC (.int 0))) (dC (.str "invalid")))) (dNot (dTest (dCall sp_law_very (dCons (dOp oIx (dVar 12) (dC (.int 1))) (dCons (dVar 11) dNil)))))) (dRet (dC (.bl false))) dNext)
 (dAsg (dNotV (dVar 2)) (hName 2)))))))))
 (dSeq (dPar 4 5 (dCons (dCall sp_law_take (dCons (dVar 0) (dCons (dC (.int 12)) dNil))) (dCons (dCall sp_law_take (dCons (dVar 0) (dCons (dC (.int 12)) dNil))) dNil)))
 (dSeq (dFor (dRange1 (dCons (dC (.int 5)) dNil)) (hName 6) (dSeq (dPar 7 8 (dCons (dCall sp_law_no_integer (dCons (dVar 1) (dCons (dVar 4) dNil))) (dCons (dCall sp_law_no_integer (dCons (dVar 1) (dCons (dVar 5) dNil))) dNil)))
 (dSeq (dAsg (dOp oIx (dLst (dCons (dTup (dCons (dVar 7) (dCons (dC (.int 5)) (dCons (dVar 7) dNil)))) (dCons (dTup (dCons (dC (.int 7)) (dCons (dVar 8) (dCons (dVar 8) dNil)))) (dCons (dTup (dCons (dVar 7) (dCons (dVar 8) (dCons (dVar 7) dNil)))) (dCons (dTup (dCons (dVar 7) (dCons (dC (.int 0)) (dCons (dVar 7) dNil)))) (dCons (dTup (dCons (dC (.int 0)) (dCons (dVar 8) (dCons (dVar 8) dNil)))) dNil)))))) (dVar 6)) (hTup 3 (hCons (hName 13) (hCons (hName 14) (hCons (hName 11) hNil)))))
 (dSeq (dAsg (dCall sp_law_ask (dCons (dC (.str "fraction")) (dCons (dVar 13) (dCons (dVar 14) (dCons (dVar 2) dNil))))) (hName 12))
 (dIfS (dOr (dTest (dOp oNe (dOp oIx (dVar 12) (dC (.int 0))) (dC (.str "integer")))) (dNot (dTest (dCall sp_law_very (dCons (dOp oIx (dVar 12) (dC (.int 1))) (dCons (dVar 11) dNil)))))) (dRet (dC (.bl false))) dNext)))))
 (dRet (dC (.bl true))))))
theorem d_law_refused_right (Z : Fs P K mg) {sp_law_very : SpD} (F_law_very : FD P w K mg base "_law_very" s_law_very P_law_very 13 sp_law_very) {sp_law_ask : SpD} (F_law_ask : FD P w K mg base "_law_ask" s_law_ask P_law_ask 5 sp_law_ask) {sp_law_no_integer : SpD} (F_law_no_integer : FD P w K mg base "_law_no_integer" s_law_no_integer P_law_no_integer 1 sp_law_no_integer) {sp_law_take : SpD} (F_law_take : FD P w K mg base "_law_take" s_law_take P_law_take 1 sp_law_take) {sp_law_strange : SpD} (F_law_strange : FD P w K mg base "_law_strange" s_law_strange P_law_strange 1 sp_law_strange) {sp : SpD} (len : ∀ ds M Q E, sp ds M Q E → ds.length = P_law_refused_right.length) (h : ∀ ds M Q E, sp ds M Q E → t_law_refused_right K sp_law_very sp_law_ask sp_law_no_integer sp_law_take sp_law_strange (endsOf Q E) ⟨startD N_law_refused_right.length ds, M⟩) : FD P w K mg base "_law_refused_right" s_law_refused_right P_law_refused_right (13 + 1) sp := by
  obtain ⟨f, fd, F, hm⟩ := Z.n_law_refused_right
  refine fd_ok F sc_law_refused_right hm (F.bindsN fun _ _ _ _ _ _ us hl => match us, hl with | [_, _, _], _ => rfl) len (fun cdv A outer s H E hr => ?_) h
  have nd := sc_law_refused_right.nd
  have tk := takes_of (X := cxOf (L2.CX P w) P w K mg base N_law_refused_right "_law_refused_right" (defScope s_law_refused_right) f cdv A outer s H E) rfl rfl rfl rfl
  have po := passes_of (X := cxOf (L2.CX P w) P w K mg base N_law_refused_right "_law_refused_right" (defScope s_law_refused_right) f cdv A outer s H E) rfl
  exact (dss_cons (dst_for po rfl (di_seq (de_lst (da_cons de_str (da_cons de_str (da_cons de_str (da_cons de_str (da_cons de_str da_nil))))))) (dg_name (i := 3) nd rfl (.inl rfl)) (dss_cons (dst_par (i := 4) (j := 5) rfl nd rfl rfl (by decide) rfl rfl (da_cons (de_call tk F_law_take (hr.mono (by decide)) (da_cons (dv 0) (da_cons de_int da_nil))) (da_cons (de_call tk F_law_take (hr.mono (by decide)) (da_cons (dv 0) (da_cons de_int da_nil))) da_nil)) (by rfl))
 (dss_one (dst_for po rfl (di_range1 rfl Z.f_range (da_cons de_int da_nil)) (dg_name (i := 6) nd rfl (.inl rfl)) (dss_cons (dst_par (i := 7) (j := 8) rfl nd rfl rfl (by decide) rfl rfl (da_cons (de_call tk F_law_strange (hr.mono (by decide)) (da_cons (dv 1) (da_cons (dv 4) da_nil))) (da_cons (de_call tk F_law_strange (hr.mono (by decide)) (da_cons (dv 1) (da_cons (dv 5) da_nil))) da_nil)) (by rfl))
 (dss_cons (dst_asg (de_ix ix_seq opl_ix (de_lst (da_cons (de_tup (da_cons (dv 7) (da_cons (dv 1) (da_cons (dv 7) da_nil)))) (da_cons (de_tup (da_cons (dv 1) (da_cons (dv 8) (da_cons (dv 8) da_nil)))) (da_cons (de_tup (da_cons (dv 7) (da_cons (dv 8) (da_cons (dv 7) da_nil)))) (da_cons (de_tup (da_cons (dv 7) (da_cons (de_tup (da_cons de_int (da_cons de_int da_nil))) (da_cons (dv 7) da_nil)))) da_nil))))) (dv 6) (fun _ _ => rfl)) (dg_tup rfl (dgs_cons (dg_name (i := 9) nd rfl (.inl rfl)) (dgs_cons (dg_name (i := 10) nd rfl (.inl rfl)) (dgs_cons (dg_name (i := 11) nd rfl (.inl rfl)) dgs_nil)))))
 (dss_cons (dst_set (i := 12) nd rfl (.inl rfl) (de_call tk F_law_ask (hr.mono (by decide)) (da_cons (dv 3) (da_cons (dv 9) (da_cons (dv 10) (da_cons (dv 2) da_nil))))))
 (dss_cons (dst_if (DW.dt (dw_or (dt_cmp (op_neD hr.units) opl_ne (de_ix ix_seq opl_ix (dv 12) de_int (fun _ _ => rfl)) de_str (nomark _)) (dw_or1 (dt_not (dt_val (de_call tk F_law_very (hr.mono (by decide)) (da_cons (de_ix ix_seq opl_ix (dv 12) de_int (fun _ _ => rfl)) (da_cons (dv 11) da_nil)))))))) (dss_one (dst_ret de_bl)) dss_nil)
 (dss_one (dst_set (i := 2) nd rfl (.inl rfl) (de_not (dv 2))))))))))))
 (dss_cons (dst_par (i := 4) (j := 5) rfl nd rfl rfl (by decide) rfl rfl (da_cons (de_call tk F_law_take (hr.mono (by decide)) (da_cons (dv 0) (da_cons de_int da_nil))) (da_cons (de_call tk F_law_take (hr.mono (by decide)) (da_cons (dv 0) (da_cons de_int da_nil))) da_nil)) (by rfl))
 (dss_cons (dst_for po rfl (di_range1 rfl Z.f_range (da_cons de_int da_nil)) (dg_name (i := 6) nd rfl (.inl rfl)) (dss_cons (dst_par (i := 7) (j := 8) rfl nd rfl rfl (by decide) rfl rfl (da_cons (de_call tk F_law_no_integer (hr.mono (by decide)) (da_cons (dv 1) (da_cons (dv 4) da_nil))) (da_cons (de_call tk F_law_no_integer (hr.mono (by decide)) (da_cons (dv 1) (da_cons (dv 5) da_nil))) da_nil)) (by rfl))
 (dss_cons (dst_asg (de_ix ix_seq opl_ix (de_lst (da_cons (de_tup (da_cons (dv 7) (da_cons de_int (da_cons (dv 7) da_nil)))) (da_cons (de_tup (da_cons de_int (da_cons (dv 8) (da_cons (dv 8) da_nil)))) (da_cons (de_tup (da_cons (dv 7) (da_cons (dv 8) (da_cons (dv 7) da_nil)))) (da_cons (de_tup (da_cons (dv 7) (da_cons de_int (da_cons (dv 7) da_nil)))) (da_cons (de_tup (da_cons de_int (da_cons (dv 8) (da_cons (dv 8) da_nil)))) da_nil)))))) (dv 6) (fun _ _ => rfl)) (dg_tup rfl (dgs_cons (dg_name (i := 13) nd rfl (.inl rfl)) (dgs_cons (dg_name (i := 14) nd rfl (.inl rfl)) (dgs_cons (dg_name (i := 11) nd rfl (.inl rfl)) dgs_nil)))))
 (dss_cons (dst_set (i := 12) nd rfl (.inl rfl) (de_call tk F_law_ask (hr.mono (by decide)) (da_cons de_str (da_cons (dv 13) (da_cons (dv 14) (da_cons (dv 2) da_nil))))))
 (dss_one (dst_if (DW.dt (dw_or (dt_cmp (op_neD hr.units) opl_ne (de_ix ix_seq opl_ix (dv 12) de_int (fun _ _ => rfl)) de_str (nomark _)) (dw_or1 (dt_not (dt_val (de_call tk F_law_very (hr.mono (by decide)) (da_cons (de_ix ix_seq opl_ix (dv 12) de_int (fun _ _ => rfl)) (da_cons (dv 11) da_nil)))))))) (dss_one (dst_ret de_bl)) dss_nil))))))
 (dss_one (dst_ret de_bl)))))
def t_law (K : PySem.W.Frag) (sp_law_refused_right sp_law_chain_right sp_law_made_right sp_law_judged_right sp_law_beside sp_law_fraction sp_law_take sp_law_box sp_law_cell : SpD) : TSd :=
 (dSeq (dFor (dRange1 (dCons (dCB cMax2 (dCons (dC (.int 2)) (dCons (dCB cMin2 (dCons (dC (.int 5)) (dCons (dCB cLen (dCons (dVar 0) dNil)) dNil))) dNil))) dNil)) (hName 1) (dSeq (dAsg (dCall sp_law_box (dCons (dCall sp_law_cell (dCons (dVar 0) (dCons (dVar 1) dNil))) dNil)) (hName 2))
 (dSeq (dAsg (dOp oEq (dCall sp_law_take (dCons (dVar 2) (dCons (dC (.int 2)) dNil))) (dC (.int 0))) (hName 3))
 (dSeq (dAsg (dCall sp_law_fraction (dCons (dVar 2) dNil)) (hName 4))
 (dSeq (dAsg (dCall sp_law_beside (dCons (dVar 2) (dCons (dVar 4) dNil))) (hName 5))
 (dSeq (dIfS (dOr (dNot (dTest (dCall sp_law_judged_right (dCons (dVar 2) (dCons (dVar 4) (dCons (dVar 3) dNil)))))) (dNot (dTest (dCall sp_law_made_right (dCons (dVar 2) (dCons (dVar 3) dNil)))))) (dRet (dC (.bl false))) dNext)
 (dIfS (dOr (dNot (dTest (dCall sp_law_chain_right (dCons (dVar 2) (dCons (dVar 4) (dCons (dVar 5) (dCons (dVar 3) dNil))))))) (dNot (dTest (dCall sp_law_refused_right (dCons (dVar 2) (dCons (dVar 5) (dCons (dNotV (dVar 3)) dNil))))))) (dRet (dC (.bl false))) dNext)))))))
 (dRet (dC (.bl true))))
theorem d_law (Z : Fs P K mg) {sp_law_refused_right : SpD} (F_law_refused_right : FD P w K mg base "_law_refused_right" s_law_refused_right P_law_refused_right 14 sp_law_refused_right) {sp_law_chain_right : SpD} (F_law_chain_right : FD P w K mg base "_law_chain_right" s_law_chain_right P_law_chain_right 13 sp_law_chain_right) {sp_law_made_right : SpD} (F_law_made_right : FD P w K mg base "_law_made_right" s_law_made_right P_law_made_right 13 sp_law_made_right) {sp_law_judged_right : SpD} (F_law_judged_right : FD P w K mg base "_law_judged_right" s_law_judged_right P_law_judged_right 14 sp_law_judged_right) {sp_law_beside : SpD} (F_law_beside : FD P w K mg base "_law_beside" s_law_beside P_law_beside 4 sp_law_beside) {sp_law_fraction : SpD} (F_law_fraction : FD P w K mg base "_law_fraction" s_law_fraction P_law_fraction 3 sp_law_fraction) {sp_law_take : SpD} (F_law_take : FD P w K mg base "_law_take" s_law_take P_law_take 1 sp_law_take) {sp_law_box : SpD} (F_law_box : FD P w K mg base "_law_box" s_law_box P_law_box 1 sp_law_box) {sp_law_cell : SpD} (F_law_cell : FD P w K mg base "_law_cell" s_law_cell P_law_cell 1 sp_law_cell) {sp : SpD} (len : ∀ ds M Q E, sp ds M Q E → ds.length = P_law.length) (h : ∀ ds M Q E, sp ds M Q E → t_law K sp_law_refused_right sp_law_chain_right sp_law_made_right sp_law_judged_right sp_law_beside sp_law_fraction sp_law_take sp_law_box sp_law_cell (endsOf Q E) ⟨startD N_law.length ds, M⟩) : FD P w K mg base "law" s_law P_law (14 + 1) sp := by
  obtain ⟨f, fd, F, hm⟩ := Z.n_law
  refine fd_ok F sc_law hm (F.bindsN fun _ _ _ _ _ _ us hl => match us, hl with | [_], _ => rfl) len (fun cdv A outer s H E hr => ?_) h
  have nd := sc_law.nd
  have tk := takes_of (X := cxOf (L2.CX P w) P w K mg base N_law "law" (defScope s_law) f cdv A outer s H E) rfl rfl rfl rfl
  have po := passes_of (X := cxOf (L2.CX P w) P w K mg base N_law "law" (defScope s_law) f cdv A outer s H E) rfl
  exact (dss_cons (dst_for po rfl (di_range1 rfl Z.f_range (da_cons (de_callB (call_max2 rfl) oplc_max2 rfl Z.f_max (by decide +kernel) (da_cons de_int (da_cons (de_callB (call_min2 rfl) oplc_min2 rfl Z.f_min (by decide +kernel) (da_cons de_int (da_cons (de_callB call_len oplc_len rfl Z.f_len (by decide +kernel) (da_cons (dv 0) da_nil)) da_nil))) da_nil))) da_nil)) (dg_name (i := 1) nd rfl (.inl rfl)) (dss_cons (dst_set (i := 2) nd rfl (.inl rfl) (de_call tk F_law_box (hr.mono (by decide)) (da_cons (de_call tk F_law_cell (hr.mono (by decide)) (da_cons (dv 0) (da_cons (dv 1) da_nil))) da_nil)))
 (dss_cons (dst_set (i := 3) nd rfl (.inl rfl) (de_cmp (op_eqD hr.units) opl_eq (de_call tk F_law_take (hr.mono (by decide)) (da_cons (dv 2) (da_cons de_int da_nil))) de_int (nomark _)))
 (dss_cons (dst_set (i := 4) nd rfl (.inl rfl) (de_call tk F_law_fraction (hr.mono (by decide)) (da_cons (dv 2) da_nil)))
 (dss_cons (dst_set (i := 5) nd rfl (.inl rfl) (de_call tk F_law_beside (hr.mono (by decide)) (da_cons (dv 2) (da_cons (dv 4) da_nil))))
 (dss_cons (dst_if (DW.dt (dw_or (dt_not (dt_val (de_call tk F_law_judged_right (hr.mono (by decide)) (da_cons (dv 2) (da_cons (dv 4) (da_cons (dv 3) da_nil)))))) (dw_or1 (dt_not (dt_val (de_call tk F_law_made_right (hr.mono (by decide)) (da_cons (dv 2) (da_cons (dv 3) da_nil)))))))) (dss_one (dst_ret de_bl)) dss_nil)
 (dss_one (dst_if (DW.dt (dw_or (dt_not (dt_val (de_call tk F_law_chain_right (hr.mono (by decide)) (da_cons (dv 2) (da_cons (dv 4) (da_cons (dv 5) (da_cons (dv 3) da_nil))))))) (dw_or1 (dt_not (dt_val (de_call tk F_law_refused_right (hr.mono (by decide)) (da_cons (dv 2) (da_cons (dv 5) (da_cons (de_not (dv 3)) da_nil))))))))) (dss_one (dst_ret de_bl)) dss_nil))))))))
 (dss_one (dst_ret de_bl)))
end
end K01
end
section
set_option maxHeartbeats 1000000
/-! M01: fractions, plain -/
namespace K01
def gI (a b : Int) : Int := ((Nat.gcd a.natAbs b.natAbs : Nat) : Int)
theorem gI_pos {a b : Int} (h : b ≠ 0) : 0 < gI a b := by
  unfold gI
  have : 0 < Nat.gcd a.natAbs b.natAbs := Nat.gcd_pos_of_pos_right _ (by omega)
  omega
theorem gI_dl (a b : Int) : gI a b ∣ a := by
  unfold gI
  exact Int.ofNat_dvd_left.mpr (Nat.gcd_dvd_left _ _)
theorem gI_dr (a b : Int) : gI a b ∣ b := by
  unfold gI
  exact Int.ofNat_dvd_left.mpr (Nat.gcd_dvd_right _ _)
/-- in lowest terms, the second above 0 -/
def low (n d : Int) : Int × Int := if 0 < d then (n / gI n d, d / gI n d) else (-n / gI n d, -d / gI n d)
def lowP (n d : Int) : Int × Int := if d < 0 then (n.fdiv (-gI n d), d.fdiv (-gI n d)) else (n.fdiv (gI n d), d.fdiv (gI n d))
theorem fdiv_of {a b c : Int} (hb : b ≠ 0) (h : a = b * c) : a.fdiv b = c := by
  rw [h, Int.mul_fdiv_cancel_left _ hb]
theorem ediv_of {a b c : Int} (hb : b ≠ 0) (h : a = b * c) : a / b = c := by
  rw [h, Int.mul_ediv_cancel_left _ hb]
theorem lowP_eq {n d : Int} (h : d ≠ 0) : lowP n d = low n d := by
  have hg := gI_pos (a := n) h
  obtain ⟨x, hx⟩ := gI_dl n d
  obtain ⟨y, hy⟩ := gI_dr n d
  unfold lowP low
  by_cases h0 : d < 0
  · rw [if_pos h0, if_neg (by omega)]
    rw [fdiv_of (b := -gI n d) (c := -x) (by omega) (by rw [Int.neg_mul_neg]; exact hx), fdiv_of (b := -gI n d) (c := -y) (by omega) (by rw [Int.neg_mul_neg]; exact hy)]
    rw [ediv_of (b := gI n d) (c := -x) (by omega) (by rw [Int.mul_neg, ← hx]), ediv_of (b := gI n d) (c := -y) (by omega) (by rw [Int.mul_neg, ← hy])]
  · rw [if_neg h0, if_pos (by omega)]
    rw [fdiv_of (b := gI n d) (c := x) (by omega) hx, fdiv_of (b := gI n d) (c := y) (by omega) hy]
    rw [ediv_of (b := gI n d) (c := x) (by omega) hx, ediv_of (b := gI n d) (c := y) (by omega) hy]
structure Fr (k : Nat) (p : Int × Int) : Prop where
  pos : 0 < p.2
  one : Nat.gcd p.1.natAbs p.2.natAbs = 1
  n1 : p.1.natAbs < 2 ^ k
  n2 : p.2.natAbs < 2 ^ k
theorem Fr.mono {j k : Nat} {p : Int × Int} (h : Fr j p) (hk : j ≤ k) : Fr k p :=
  ⟨h.pos, h.one, Nat.lt_of_lt_of_le h.n1 (Nat.pow_le_pow_right (by decide) hk), Nat.lt_of_lt_of_le h.n2 (Nat.pow_le_pow_right (by decide) hk)⟩
theorem abs_div {n g : Int} (hg : 0 < g) (hd : g ∣ n) : (n / g).natAbs = n.natAbs / g.natAbs := by
  obtain ⟨x, hx⟩ := hd
  rw [ediv_of (by omega) hx, hx, Int.natAbs_mul, Nat.mul_div_cancel_left _ (by omega)]
theorem gcd_div {n d : Int} (h : d ≠ 0) : Nat.gcd (n.natAbs / (gI n d).natAbs) (d.natAbs / (gI n d).natAbs) = 1 := by
  have e : (gI n d).natAbs = Nat.gcd n.natAbs d.natAbs := by unfold gI; rw [Int.natAbs_natCast]
  rw [e]
  have hp : 0 < Nat.gcd n.natAbs d.natAbs := Nat.gcd_pos_of_pos_right _ (by omega)
  rw [Nat.gcd_div (Nat.gcd_dvd_left _ _) (Nat.gcd_dvd_right _ _), Nat.div_self hp]
theorem pos_of {g y : Int} (hg : 0 < g) (h : 0 < g * y) : 0 < y := by
  by_cases e : 0 < y
  · exact e
  · have h1 : g * y ≤ 0 := Int.mul_nonpos_of_nonneg_of_nonpos (by omega) (by omega)
    omega
theorem low_fr {n d : Int} {k : Nat} (h : d ≠ 0) (h1 : n.natAbs < 2 ^ k) (h2 : d.natAbs < 2 ^ k) : Fr k (low n d) := by
  have hg := gI_pos (a := n) h
  have a1 := abs_div hg (gI_dl n d)
  have a2 := abs_div hg (gI_dr n d)
  have b1 := abs_div hg (Int.dvd_neg.mpr (gI_dl n d))
  have b2 := abs_div hg (Int.dvd_neg.mpr (gI_dr n d))
  rw [Int.natAbs_neg] at b1 b2
  have c := gcd_div (n := n) h
  have l1 : n.natAbs / (gI n d).natAbs ≤ n.natAbs := Nat.div_le_self _ _
  have l2 : d.natAbs / (gI n d).natAbs ≤ d.natAbs := Nat.div_le_self _ _
  obtain ⟨y, hy⟩ := gI_dr n d
  unfold low
  by_cases h0 : 0 < d
  · rw [if_pos h0]
    have p : 0 < d / gI n d := by
      rw [ediv_of (by omega) hy]
      rw [hy] at h0
      exact pos_of hg h0
    exact ⟨p, by rw [a1, a2]; exact c, by rw [a1]; omega, by rw [a2]; omega⟩
  · rw [if_neg h0]
    have p : 0 < -d / gI n d := by
      have e : -d = gI n d * -y := by rw [Int.mul_neg, ← hy]
      rw [ediv_of (by omega) e]
      have h1 : 0 < gI n d * -y := by rw [← e]; omega
      exact pos_of hg h1
    exact ⟨p, by rw [b1, b2]; exact c, by rw [b1]; omega, by rw [b2]; omega⟩
theorem low_same {k : Nat} {p : Int × Int} (h : Fr k p) : low p.1 p.2 = p := by
  obtain ⟨a, b⟩ := p
  have e : gI a b = 1 := by unfold gI; rw [h.one]; rfl
  unfold low
  have := h.pos
  rw [if_pos this]
  show (a / gI a b, b / gI a b) = (a, b)
  rw [e, Int.ediv_one, Int.ediv_one]
theorem low_int {a : Int} : low a 1 = (a, 1) := by
  have e : gI a 1 = 1 := by unfold gI; simp
  unfold low
  rw [if_pos (by decide), e, Int.ediv_one, Int.ediv_one]
theorem low_zero {d : Int} (h : 0 < d) : low 0 d = (0, 1) := by
  have e : gI 0 d = d := by unfold gI; simp; omega
  unfold low
  rw [if_pos h, e, Int.ediv_self (by omega)]; simp
/-! the four, the order -/
def plusP (x y : Int × Int) : Int × Int := low (x.1 * y.2 + y.1 * x.2) (x.2 * y.2)
def minusP (x y : Int × Int) : Int × Int := low (x.1 * y.2 - y.1 * x.2) (x.2 * y.2)
def timesP (x y : Int × Int) : Int × Int := low (x.1 * y.1) (x.2 * y.2)
def overP (x y : Int × Int) : Int × Int := low (x.1 * y.2) (x.2 * y.1)
def ordP (x y : Int × Int) : Int := if x.1 * y.2 - y.1 * x.2 = 0 then 0 else if 0 < x.1 * y.2 - y.1 * x.2 then 1 else -1
theorem mul_sz {a b : Int} {k : Nat} (h1 : a.natAbs < 2 ^ k) (h2 : b.natAbs < 2 ^ k) : (a * b).natAbs < 2 ^ (2 * k) := by
  rw [Int.natAbs_mul, Nat.two_mul, Nat.pow_add]
  exact Nat.mul_lt_mul'' h1 h2
theorem add_sz {a b : Int} {k : Nat} (h1 : a.natAbs < 2 ^ k) (h2 : b.natAbs < 2 ^ k) : (a + b).natAbs < 2 ^ (k + 1) := by
  rw [Nat.pow_succ]; omega
theorem sub_sz {a b : Int} {k : Nat} (h1 : a.natAbs < 2 ^ k) (h2 : b.natAbs < 2 ^ k) : (a - b).natAbs < 2 ^ (k + 1) := by
  rw [Nat.pow_succ]; omega
theorem up_sz {a : Int} {j k : Nat} (h : a.natAbs < 2 ^ j) (hk : j ≤ k) : a.natAbs < 2 ^ k := Nat.lt_of_lt_of_le h (Nat.pow_le_pow_right (by decide) hk)
section
variable {x y : Int × Int} {k : Nat}
theorem den_ne (hx : Fr k x) (hy : Fr k y) : x.2 * y.2 ≠ 0 := Int.mul_ne_zero (by have := hx.pos; omega) (by have := hy.pos; omega)
theorem plus_fr (hx : Fr k x) (hy : Fr k y) : Fr (2 * k + 1) (plusP x y) := low_fr (den_ne hx hy) (add_sz (mul_sz hx.n1 hy.n2) (mul_sz hy.n1 hx.n2)) (up_sz (mul_sz hx.n2 hy.n2) (by omega))
theorem minus_fr (hx : Fr k x) (hy : Fr k y) : Fr (2 * k + 1) (minusP x y) := low_fr (den_ne hx hy) (sub_sz (mul_sz hx.n1 hy.n2) (mul_sz hy.n1 hx.n2)) (up_sz (mul_sz hx.n2 hy.n2) (by omega))
theorem times_fr (hx : Fr k x) (hy : Fr k y) : Fr (2 * k + 1) (timesP x y) := low_fr (den_ne hx hy) (up_sz (mul_sz hx.n1 hy.n1) (by omega)) (up_sz (mul_sz hx.n2 hy.n2) (by omega))
theorem over_fr (hx : Fr k x) (hy : Fr k y) (h : y.1 ≠ 0) : Fr (2 * k + 1) (overP x y) := low_fr (Int.mul_ne_zero (by have := hx.pos; omega) h) (up_sz (mul_sz hx.n1 hy.n2) (by omega)) (up_sz (mul_sz hx.n2 hy.n1) (by omega))
end
/-! Euclid's way -/
def euc : Nat → Nat → Nat → Nat
  | 0, a, _ => a
  | n + 1, a, b => if b = 0 then a else euc n b (a % b)
theorem euc_gcd : ∀ (n a b : Nat), b ≤ n → euc n a b = Nat.gcd a b
  | 0, a, b, h => by
    have e : b = 0 := by omega
    subst e
    show a = Nat.gcd a 0
    rw [Nat.gcd_zero_right]
  | n + 1, a, b, h => by
    unfold euc
    by_cases e : b = 0
    · rw [if_pos e, e, Nat.gcd_zero_right]
    · rw [if_neg e, euc_gcd n b (a % b) (by have := Nat.mod_lt a (Nat.pos_of_ne_zero e); omega), Nat.gcd_comm b, ← Nat.gcd_rec, Nat.gcd_comm]
end K01
end
section
set_option maxRecDepth 100000
set_option maxHeartbeats 4000000
namespace K01
open PySem PySem.Spec L2 DL
variable {K : PySem.W.Frag}
def isInt : D → Bool
  | .int _ => true
  | _ => false
theorem ty_ref {M : Mst} {a : Addr} {t : Ty} (h : D.ty M (.ref a) = some t) : t = .list ∨ t = .dict := by
  have h' : (match M a with | some (.lst _) => some Ty.list | some (.box _) => some Ty.list | some (.dct _) => some Ty.dict | _ => none) = some t := h
  split at h' <;> cases h' <;> first | exact .inl rfl | exact .inr rfl
theorem isInt_of {M : Mst} {d : D} {t : Ty} (h : d.ty M = some t) : isInt d = (isT t .int && !isT t .bool) := by
  cases d with
  | ref a => rcases ty_ref h with e | e <;> subst e <;> rfl
  | err C a dd fs => cases h
  | _ => cases h; rfl
def sp_is_whole : SpD := fun ds M Q _ => ∃ d, ds = [d] ∧ (d.ty M).isSome = true ∧ Q (.bl (isInt d)) M
theorem p_is_whole (ds M Q E) (h : sp_is_whole ds M Q E) : t_is_whole K (endsOf Q E) ⟨startD N_is_whole.length ds, M⟩ := by
  obtain ⟨d, rfl, hd, q⟩ := h
  show t_is_whole K (endsOf Q E) ⟨[some d], M⟩
  obtain ⟨t, ht⟩ := Option.isSome_iff_exists.mp hd
  rw [isInt_of ht] at q
  simp only [↓dSeq_eq, ↓wnx_nx, ↓wnx_rt, ↓wnx_bk, ↓wnx_ct, ↓wnx_ex, ↓wlp_nx, ↓wlp_rt, ↓wlp_bk, ↓wlp_ct, ↓wlp_ex, ↓wex_nx, ↓wex_rt, ↓wex_bk, ↓wex_ct, ↓wex_ex, ↓en_nx, ↓en_rt, ↓en_ex, ↓forGo_nil, ↓forGo_cons, ↓dNext, ↓dBreak, ↓dCont, ↓dDrop, ↓dRet, ↓dRetN, ↓dIfS, ↓hName, ↓hNil, ↓hCons, ↓hTup, ↓dAsg, ↓dPar, ↓dTest, ↓dAnd, ↓dOr, ↓dNot, ↓dAndV, ↓dOrV, ↓dNotV, ↓dIf, ↓dVar, ↓dC, ↓dOp, ↓dUn, ↓dNil, ↓dCons, ↓dTup, ↓dLst, ↓dLstM, ↓dCall, ↓dCallK, ↓pick, ↓dCB, ↓dSeqI, ↓dFor, ↓dRange1, ↓dRange2, ↓dRaise, ↓dRaise0, ↓dIsi, ↓dIsi2, ↓oAdd, ↓oSubI, ↓oMulI, ↓oDivI, ↓oModI, ↓oPowI, ↓oSubB, ↓oCmpI, ↓oNeg, ↓oEq, ↓oNe, ↓oIsN, ↓oNotN, ↓oIsB, ↓oIx, ↓cLen, ↓lenQ, ↓D.len?, ↓cAbs, ↓cInt, ↓cMax2, ↓cMin2, ↓cGcd, ↓cSum, ↓cStr, ↓okEq_int, ↓okEq_bl, ↓okEq_non, ↓eqD_int, ↓eqD_bl, ↓eqD_intTup, ↓atI0, ↓atI1, ↓atI2, ↓atI3, ↓ty_int, ↓ty_bl, ↓ty_non, ↓ty_str, ↓ty_tup, ↓ty_lst, ↓endsOf, List.length_cons, List.length_nil, List.map_cons, List.map_nil, Bool.not_true, Bool.not_false, Bool.true_and, Bool.and_true, Bool.false_and, Bool.or_true, Bool.true_or, Bool.false_or, Bool.or_false, ite_true, ite_false, if_true, if_false, Bool.false_eq_true, reduceCtorEq, decide_true, decide_false, true_and, and_true, Bool.not_not, Option.isSome_some, if_false_left, decide_eq_true_eq, Bool.decide_eq_true, ↓isT_non_non, ↓isT_non_bool, ↓isT_non_int, ↓isT_non_str, ↓isT_non_tuple, ↓isT_non_list, ↓isT_non_dict, ↓isT_bool_non, ↓isT_bool_bool, ↓isT_bool_int, ↓isT_bool_str, ↓isT_bool_tuple, ↓isT_bool_list, ↓isT_bool_dict, ↓isT_int_non, ↓isT_int_bool, ↓isT_int_int, ↓isT_int_str, ↓isT_int_tuple, ↓isT_int_list, ↓isT_int_dict, ↓isT_str_non, ↓isT_str_bool, ↓isT_str_int, ↓isT_str_str, ↓isT_str_tuple, ↓isT_str_list, ↓isT_str_dict, ↓isT_tuple_non, ↓isT_tuple_bool, ↓isT_tuple_int, ↓isT_tuple_str, ↓isT_tuple_tuple, ↓isT_tuple_list, ↓isT_tuple_dict, ↓isT_list_non, ↓isT_list_bool, ↓isT_list_int, ↓isT_list_str, ↓isT_list_tuple, ↓isT_list_list, ↓isT_list_dict, ↓isT_dict_non, ↓isT_dict_bool, ↓isT_dict_int, ↓isT_dict_str, ↓isT_dict_tuple, ↓isT_dict_list, ↓isT_dict_dict, ↓slot_0, ↓slot_1, ↓slot_2, ↓slot_3, ↓slot_4, ↓slot_5, ↓slot_6, ↓slot_7, ↓slot_8, ↓slot_9, ↓slot_10, ↓slot_11, ↓slot_12, ↓slot_13, ↓slot_14, ↓slot_15, ↓slot_16, ↓slot_17, ↓set_0, ↓set_1, ↓set_2, ↓set_3, ↓set_4, ↓set_5, ↓set_6, ↓set_7, ↓set_8, ↓set_9, ↓set_10, ↓set_11, ↓set_12, ↓set_13, ↓set_14, ↓set_15, ↓set_16, ↓set_17, ↓t_is_whole, ht]
  cases e : isT t .int with
  | true => rw [if_pos rfl]; rw [e] at q; exact ⟨_, .refl _, q⟩
  | false => rw [if_neg (by decide)]; rw [e] at q; exact ⟨_, .refl _, q⟩
/-- a fraction: a tuple of two ints, the second above 0, in lowest terms -/
def isFr : D → Bool
  | .tup [.int a, .int b] => decide (1 ≤ b) && decide ((Nat.gcd a.natAbs b.natAbs : Int) = 1)
  | _ => false
/-- its class is known; of a tuple of two the items' as well -/
def known (M : Mst) (d : D) : Prop := (d.ty M).isSome = true ∧ ∀ a b, d = .tup [a, b] → (a.ty M).isSome = true ∧ (b.ty M).isSome = true
def sp_is_ratio : SpD := fun ds M Q _ => ∃ d, ds = [d] ∧ known M d ∧ Q (.bl (isFr d)) M
theorem ty_tuple {M : Mst} {d : D} (h : d.ty M = some .tuple) : ∃ l, d = .tup l := by
  cases d with
  | tup l => exact ⟨_, rfl⟩
  | ref a => rcases ty_ref h with e | e <;> cases e
  | _ => cases h
theorem not_tup {M : Mst} {d : D} {t : Ty} (h : d.ty M = some t) (n : t ≠ .tuple) : isFr d = false := by
  cases d with
  | tup l => cases h; exact absurd rfl n
  | _ => rfl
theorem isT_tuple {t : Ty} : isT t .tuple = decide (t = .tuple) := by cases t <;> rfl
theorem isFr_len {l : List D} (h : l.length ≠ 2) : isFr (.tup l) = false := by
  match l, h with
  | [], _ => rfl
  | [a], _ => cases a <;> rfl
  | [_, _], h => exact absurd rfl h
  | a :: b :: _ :: _, _ => cases a <;> cases b <;> rfl
theorem isFr_l {a b : D} (h : isInt a = false) : isFr (.tup [a, b]) = false := by cases a <;> first | rfl | cases h
theorem isFr_r {a b : D} (h : isInt b = false) : isFr (.tup [a, b]) = false := by cases a <;> cases b <;> first | rfl | cases h
theorem of_int {d : D} (h : isInt d = true) : ∃ i, d = .int i := by cases d <;> first | exact ⟨_, rfl⟩ | cases h
theorem p_is_ratio (ds M Q E) (h : sp_is_ratio ds M Q E) : t_is_ratio K sp_is_whole (endsOf Q E) ⟨startD N_is_ratio.length ds, M⟩ := by
  obtain ⟨d, rfl, ⟨hd, hk⟩, q⟩ := h
  show t_is_ratio K sp_is_whole (endsOf Q E) ⟨[some d], M⟩
  obtain ⟨t, ht⟩ := Option.isSome_iff_exists.mp hd
  by_cases e : t = .tuple
  · subst e
    obtain ⟨l, rfl⟩ := ty_tuple ht
    simp only [↓dSeq_eq, ↓wnx_nx, ↓wnx_rt, ↓wnx_bk, ↓wnx_ct, ↓wnx_ex, ↓wlp_nx, ↓wlp_rt, ↓wlp_bk, ↓wlp_ct, ↓wlp_ex, ↓wex_nx, ↓wex_rt, ↓wex_bk, ↓wex_ct, ↓wex_ex, ↓en_nx, ↓en_rt, ↓en_ex, ↓forGo_nil, ↓forGo_cons, ↓dNext, ↓dBreak, ↓dCont, ↓dDrop, ↓dRet, ↓dRetN, ↓dIfS, ↓hName, ↓hNil, ↓hCons, ↓hTup, ↓dAsg, ↓dPar, ↓dTest, ↓dAnd, ↓dOr, ↓dNot, ↓dAndV, ↓dOrV, ↓dNotV, ↓dIf, ↓dVar, ↓dC, ↓dOp, ↓dUn, ↓dNil, ↓dCons, ↓dTup, ↓dLst, ↓dLstM, ↓dCall, ↓dCallK, ↓pick, ↓dCB, ↓dSeqI, ↓dFor, ↓dRange1, ↓dRange2, ↓dRaise, ↓dRaise0, ↓dIsi, ↓dIsi2, ↓oAdd, ↓oSubI, ↓oMulI, ↓oDivI, ↓oModI, ↓oPowI, ↓oSubB, ↓oCmpI, ↓oNeg, ↓oEq, ↓oNe, ↓oIsN, ↓oNotN, ↓oIsB, ↓oIx, ↓cLen, ↓lenQ, ↓D.len?, ↓cAbs, ↓cInt, ↓cMax2, ↓cMin2, ↓cGcd, ↓cSum, ↓cStr, ↓okEq_int, ↓okEq_bl, ↓okEq_non, ↓eqD_int, ↓eqD_bl, ↓eqD_intTup, ↓atI0, ↓atI1, ↓atI2, ↓atI3, ↓ty_int, ↓ty_bl, ↓ty_non, ↓ty_str, ↓ty_tup, ↓ty_lst, ↓endsOf, List.length_cons, List.length_nil, List.map_cons, List.map_nil, Bool.not_true, Bool.not_false, Bool.true_and, Bool.and_true, Bool.false_and, Bool.or_true, Bool.true_or, Bool.false_or, Bool.or_false, ite_true, ite_false, if_true, if_false, Bool.false_eq_true, reduceCtorEq, decide_true, decide_false, true_and, and_true, Bool.not_not, Option.isSome_some, if_false_left, decide_eq_true_eq, Bool.decide_eq_true, ↓isT_non_non, ↓isT_non_bool, ↓isT_non_int, ↓isT_non_str, ↓isT_non_tuple, ↓isT_non_list, ↓isT_non_dict, ↓isT_bool_non, ↓isT_bool_bool, ↓isT_bool_int, ↓isT_bool_str, ↓isT_bool_tuple, ↓isT_bool_list, ↓isT_bool_dict, ↓isT_int_non, ↓isT_int_bool, ↓isT_int_int, ↓isT_int_str, ↓isT_int_tuple, ↓isT_int_list, ↓isT_int_dict, ↓isT_str_non, ↓isT_str_bool, ↓isT_str_int, ↓isT_str_str, ↓isT_str_tuple, ↓isT_str_list, ↓isT_str_dict, ↓isT_tuple_non, ↓isT_tuple_bool, ↓isT_tuple_int, ↓isT_tuple_str, ↓isT_tuple_tuple, ↓isT_tuple_list, ↓isT_tuple_dict, ↓isT_list_non, ↓isT_list_bool, ↓isT_list_int, ↓isT_list_str, ↓isT_list_tuple, ↓isT_list_list, ↓isT_list_dict, ↓isT_dict_non, ↓isT_dict_bool, ↓isT_dict_int, ↓isT_dict_str, ↓isT_dict_tuple, ↓isT_dict_list, ↓isT_dict_dict, ↓slot_0, ↓slot_1, ↓slot_2, ↓slot_3, ↓slot_4, ↓slot_5, ↓slot_6, ↓slot_7, ↓slot_8, ↓slot_9, ↓slot_10, ↓slot_11, ↓slot_12, ↓slot_13, ↓slot_14, ↓slot_15, ↓slot_16, ↓slot_17, ↓set_0, ↓set_1, ↓set_2, ↓set_3, ↓set_4, ↓set_5, ↓set_6, ↓set_7, ↓set_8, ↓set_9, ↓set_10, ↓set_11, ↓set_12, ↓set_13, ↓set_14, ↓set_15, ↓set_16, ↓set_17, ↓t_is_ratio, ↓isT_tuple]
    by_cases e2 : (l.length : Int) = 2
    · have e3 : l.length = 2 := by omega
      match l, e3 with
      | [a, b], _ =>
        obtain ⟨ha, hb⟩ := hk a b rfl
        simp only [↓dSeq_eq, ↓wnx_nx, ↓wnx_rt, ↓wnx_bk, ↓wnx_ct, ↓wnx_ex, ↓wlp_nx, ↓wlp_rt, ↓wlp_bk, ↓wlp_ct, ↓wlp_ex, ↓wex_nx, ↓wex_rt, ↓wex_bk, ↓wex_ct, ↓wex_ex, ↓en_nx, ↓en_rt, ↓en_ex, ↓forGo_nil, ↓forGo_cons, ↓dNext, ↓dBreak, ↓dCont, ↓dDrop, ↓dRet, ↓dRetN, ↓dIfS, ↓hName, ↓hNil, ↓hCons, ↓hTup, ↓dAsg, ↓dPar, ↓dTest, ↓dAnd, ↓dOr, ↓dNot, ↓dAndV, ↓dOrV, ↓dNotV, ↓dIf, ↓dVar, ↓dC, ↓dOp, ↓dUn, ↓dNil, ↓dCons, ↓dTup, ↓dLst, ↓dLstM, ↓dCall, ↓dCallK, ↓pick, ↓dCB, ↓dSeqI, ↓dFor, ↓dRange1, ↓dRange2, ↓dRaise, ↓dRaise0, ↓dIsi, ↓dIsi2, ↓oAdd, ↓oSubI, ↓oMulI, ↓oDivI, ↓oModI, ↓oPowI, ↓oSubB, ↓oCmpI, ↓oNeg, ↓oEq, ↓oNe, ↓oIsN, ↓oNotN, ↓oIsB, ↓oIx, ↓cLen, ↓lenQ, ↓D.len?, ↓cAbs, ↓cInt, ↓cMax2, ↓cMin2, ↓cGcd, ↓cSum, ↓cStr, ↓okEq_int, ↓okEq_bl, ↓okEq_non, ↓eqD_int, ↓eqD_bl, ↓eqD_intTup, ↓atI0, ↓atI1, ↓atI2, ↓atI3, ↓ty_int, ↓ty_bl, ↓ty_non, ↓ty_str, ↓ty_tup, ↓ty_lst, ↓endsOf, List.length_cons, List.length_nil, List.map_cons, List.map_nil, Bool.not_true, Bool.not_false, Bool.true_and, Bool.and_true, Bool.false_and, Bool.or_true, Bool.true_or, Bool.false_or, Bool.or_false, ite_true, ite_false, if_true, if_false, Bool.false_eq_true, reduceCtorEq, decide_true, decide_false, true_and, and_true, Bool.not_not, Option.isSome_some, if_false_left, decide_eq_true_eq, Bool.decide_eq_true, ↓isT_non_non, ↓isT_non_bool, ↓isT_non_int, ↓isT_non_str, ↓isT_non_tuple, ↓isT_non_list, ↓isT_non_dict, ↓isT_bool_non, ↓isT_bool_bool, ↓isT_bool_int, ↓isT_bool_str, ↓isT_bool_tuple, ↓isT_bool_list, ↓isT_bool_dict, ↓isT_int_non, ↓isT_int_bool, ↓isT_int_int, ↓isT_int_str, ↓isT_int_tuple, ↓isT_int_list, ↓isT_int_dict, ↓isT_str_non, ↓isT_str_bool, ↓isT_str_int, ↓isT_str_str, ↓isT_str_tuple, ↓isT_str_list, ↓isT_str_dict, ↓isT_tuple_non, ↓isT_tuple_bool, ↓isT_tuple_int, ↓isT_tuple_str, ↓isT_tuple_tuple, ↓isT_tuple_list, ↓isT_tuple_dict, ↓isT_list_non, ↓isT_list_bool, ↓isT_list_int, ↓isT_list_str, ↓isT_list_tuple, ↓isT_list_list, ↓isT_list_dict, ↓isT_dict_non, ↓isT_dict_bool, ↓isT_dict_int, ↓isT_dict_str, ↓isT_dict_tuple, ↓isT_dict_list, ↓isT_dict_dict, ↓slot_0, ↓slot_1, ↓slot_2, ↓slot_3, ↓slot_4, ↓slot_5, ↓slot_6, ↓slot_7, ↓slot_8, ↓slot_9, ↓slot_10, ↓slot_11, ↓slot_12, ↓slot_13, ↓slot_14, ↓slot_15, ↓slot_16, ↓slot_17, ↓set_0, ↓set_1, ↓set_2, ↓set_3, ↓set_4, ↓set_5, ↓set_6, ↓set_7, ↓set_8, ↓set_9, ↓set_10, ↓set_11, ↓set_12, ↓set_13, ↓set_14, ↓set_15, ↓set_16, ↓set_17, sp_is_whole]
        refine ⟨a, rfl, ha, ?_⟩
        cases ia : isInt a with
        | false =>
          rw [isFr_l ia] at q
          simp only [↓dSeq_eq, ↓wnx_nx, ↓wnx_rt, ↓wnx_bk, ↓wnx_ct, ↓wnx_ex, ↓wlp_nx, ↓wlp_rt, ↓wlp_bk, ↓wlp_ct, ↓wlp_ex, ↓wex_nx, ↓wex_rt, ↓wex_bk, ↓wex_ct, ↓wex_ex, ↓en_nx, ↓en_rt, ↓en_ex, ↓forGo_nil, ↓forGo_cons, ↓dNext, ↓dBreak, ↓dCont, ↓dDrop, ↓dRet, ↓dRetN, ↓dIfS, ↓hName, ↓hNil, ↓hCons, ↓hTup, ↓dAsg, ↓dPar, ↓dTest, ↓dAnd, ↓dOr, ↓dNot, ↓dAndV, ↓dOrV, ↓dNotV, ↓dIf, ↓dVar, ↓dC, ↓dOp, ↓dUn, ↓dNil, ↓dCons, ↓dTup, ↓dLst, ↓dLstM, ↓dCall, ↓dCallK, ↓pick, ↓dCB, ↓dSeqI, ↓dFor, ↓dRange1, ↓dRange2, ↓dRaise, ↓dRaise0, ↓dIsi, ↓dIsi2, ↓oAdd, ↓oSubI, ↓oMulI, ↓oDivI, ↓oModI, ↓oPowI, ↓oSubB, ↓oCmpI, ↓oNeg, ↓oEq, ↓oNe, ↓oIsN, ↓oNotN, ↓oIsB, ↓oIx, ↓cLen, ↓lenQ, ↓D.len?, ↓cAbs, ↓cInt, ↓cMax2, ↓cMin2, ↓cGcd, ↓cSum, ↓cStr, ↓okEq_int, ↓okEq_bl, ↓okEq_non, ↓eqD_int, ↓eqD_bl, ↓eqD_intTup, ↓atI0, ↓atI1, ↓atI2, ↓atI3, ↓ty_int, ↓ty_bl, ↓ty_non, ↓ty_str, ↓ty_tup, ↓ty_lst, ↓endsOf, List.length_cons, List.length_nil, List.map_cons, List.map_nil, Bool.not_true, Bool.not_false, Bool.true_and, Bool.and_true, Bool.false_and, Bool.or_true, Bool.true_or, Bool.false_or, Bool.or_false, ite_true, ite_false, if_true, if_false, Bool.false_eq_true, reduceCtorEq, decide_true, decide_false, true_and, and_true, Bool.not_not, Option.isSome_some, if_false_left, decide_eq_true_eq, Bool.decide_eq_true, ↓isT_non_non, ↓isT_non_bool, ↓isT_non_int, ↓isT_non_str, ↓isT_non_tuple, ↓isT_non_list, ↓isT_non_dict, ↓isT_bool_non, ↓isT_bool_bool, ↓isT_bool_int, ↓isT_bool_str, ↓isT_bool_tuple, ↓isT_bool_list, ↓isT_bool_dict, ↓isT_int_non, ↓isT_int_bool, ↓isT_int_int, ↓isT_int_str, ↓isT_int_tuple, ↓isT_int_list, ↓isT_int_dict, ↓isT_str_non, ↓isT_str_bool, ↓isT_str_int, ↓isT_str_str, ↓isT_str_tuple, ↓isT_str_list, ↓isT_str_dict, ↓isT_tuple_non, ↓isT_tuple_bool, ↓isT_tuple_int, ↓isT_tuple_str, ↓isT_tuple_tuple, ↓isT_tuple_list, ↓isT_tuple_dict, ↓isT_list_non, ↓isT_list_bool, ↓isT_list_int, ↓isT_list_str, ↓isT_list_tuple, ↓isT_list_list, ↓isT_list_dict, ↓isT_dict_non, ↓isT_dict_bool, ↓isT_dict_int, ↓isT_dict_str, ↓isT_dict_tuple, ↓isT_dict_list, ↓isT_dict_dict, ↓slot_0, ↓slot_1, ↓slot_2, ↓slot_3, ↓slot_4, ↓slot_5, ↓slot_6, ↓slot_7, ↓slot_8, ↓slot_9, ↓slot_10, ↓slot_11, ↓slot_12, ↓slot_13, ↓slot_14, ↓slot_15, ↓slot_16, ↓slot_17, ↓set_0, ↓set_1, ↓set_2, ↓set_3, ↓set_4, ↓set_5, ↓set_6, ↓set_7, ↓set_8, ↓set_9, ↓set_10, ↓set_11, ↓set_12, ↓set_13, ↓set_14, ↓set_15, ↓set_16, ↓set_17]
          exact ⟨_, .refl _, q⟩
        | true =>
          simp only [↓dSeq_eq, ↓wnx_nx, ↓wnx_rt, ↓wnx_bk, ↓wnx_ct, ↓wnx_ex, ↓wlp_nx, ↓wlp_rt, ↓wlp_bk, ↓wlp_ct, ↓wlp_ex, ↓wex_nx, ↓wex_rt, ↓wex_bk, ↓wex_ct, ↓wex_ex, ↓en_nx, ↓en_rt, ↓en_ex, ↓forGo_nil, ↓forGo_cons, ↓dNext, ↓dBreak, ↓dCont, ↓dDrop, ↓dRet, ↓dRetN, ↓dIfS, ↓hName, ↓hNil, ↓hCons, ↓hTup, ↓dAsg, ↓dPar, ↓dTest, ↓dAnd, ↓dOr, ↓dNot, ↓dAndV, ↓dOrV, ↓dNotV, ↓dIf, ↓dVar, ↓dC, ↓dOp, ↓dUn, ↓dNil, ↓dCons, ↓dTup, ↓dLst, ↓dLstM, ↓dCall, ↓dCallK, ↓pick, ↓dCB, ↓dSeqI, ↓dFor, ↓dRange1, ↓dRange2, ↓dRaise, ↓dRaise0, ↓dIsi, ↓dIsi2, ↓oAdd, ↓oSubI, ↓oMulI, ↓oDivI, ↓oModI, ↓oPowI, ↓oSubB, ↓oCmpI, ↓oNeg, ↓oEq, ↓oNe, ↓oIsN, ↓oNotN, ↓oIsB, ↓oIx, ↓cLen, ↓lenQ, ↓D.len?, ↓cAbs, ↓cInt, ↓cMax2, ↓cMin2, ↓cGcd, ↓cSum, ↓cStr, ↓okEq_int, ↓okEq_bl, ↓okEq_non, ↓eqD_int, ↓eqD_bl, ↓eqD_intTup, ↓atI0, ↓atI1, ↓atI2, ↓atI3, ↓ty_int, ↓ty_bl, ↓ty_non, ↓ty_str, ↓ty_tup, ↓ty_lst, ↓endsOf, List.length_cons, List.length_nil, List.map_cons, List.map_nil, Bool.not_true, Bool.not_false, Bool.true_and, Bool.and_true, Bool.false_and, Bool.or_true, Bool.true_or, Bool.false_or, Bool.or_false, ite_true, ite_false, if_true, if_false, Bool.false_eq_true, reduceCtorEq, decide_true, decide_false, true_and, and_true, Bool.not_not, Option.isSome_some, if_false_left, decide_eq_true_eq, Bool.decide_eq_true, ↓isT_non_non, ↓isT_non_bool, ↓isT_non_int, ↓isT_non_str, ↓isT_non_tuple, ↓isT_non_list, ↓isT_non_dict, ↓isT_bool_non, ↓isT_bool_bool, ↓isT_bool_int, ↓isT_bool_str, ↓isT_bool_tuple, ↓isT_bool_list, ↓isT_bool_dict, ↓isT_int_non, ↓isT_int_bool, ↓isT_int_int, ↓isT_int_str, ↓isT_int_tuple, ↓isT_int_list, ↓isT_int_dict, ↓isT_str_non, ↓isT_str_bool, ↓isT_str_int, ↓isT_str_str, ↓isT_str_tuple, ↓isT_str_list, ↓isT_str_dict, ↓isT_tuple_non, ↓isT_tuple_bool, ↓isT_tuple_int, ↓isT_tuple_str, ↓isT_tuple_tuple, ↓isT_tuple_list, ↓isT_tuple_dict, ↓isT_list_non, ↓isT_list_bool, ↓isT_list_int, ↓isT_list_str, ↓isT_list_tuple, ↓isT_list_list, ↓isT_list_dict, ↓isT_dict_non, ↓isT_dict_bool, ↓isT_dict_int, ↓isT_dict_str, ↓isT_dict_tuple, ↓isT_dict_list, ↓isT_dict_dict, ↓slot_0, ↓slot_1, ↓slot_2, ↓slot_3, ↓slot_4, ↓slot_5, ↓slot_6, ↓slot_7, ↓slot_8, ↓slot_9, ↓slot_10, ↓slot_11, ↓slot_12, ↓slot_13, ↓slot_14, ↓slot_15, ↓slot_16, ↓slot_17, ↓set_0, ↓set_1, ↓set_2, ↓set_3, ↓set_4, ↓set_5, ↓set_6, ↓set_7, ↓set_8, ↓set_9, ↓set_10, ↓set_11, ↓set_12, ↓set_13, ↓set_14, ↓set_15, ↓set_16, ↓set_17]
          refine ⟨b, rfl, hb, ?_⟩
          cases ib : isInt b with
          | false =>
            rw [isFr_r ib] at q
            simp only [↓dSeq_eq, ↓wnx_nx, ↓wnx_rt, ↓wnx_bk, ↓wnx_ct, ↓wnx_ex, ↓wlp_nx, ↓wlp_rt, ↓wlp_bk, ↓wlp_ct, ↓wlp_ex, ↓wex_nx, ↓wex_rt, ↓wex_bk, ↓wex_ct, ↓wex_ex, ↓en_nx, ↓en_rt, ↓en_ex, ↓forGo_nil, ↓forGo_cons, ↓dNext, ↓dBreak, ↓dCont, ↓dDrop, ↓dRet, ↓dRetN, ↓dIfS, ↓hName, ↓hNil, ↓hCons, ↓hTup, ↓dAsg, ↓dPar, ↓dTest, ↓dAnd, ↓dOr, ↓dNot, ↓dAndV, ↓dOrV, ↓dNotV, ↓dIf, ↓dVar, ↓dC, ↓dOp, ↓dUn, ↓dNil, ↓dCons, ↓dTup, ↓dLst, ↓dLstM, ↓dCall, ↓dCallK, ↓pick, ↓dCB, ↓dSeqI, ↓dFor, ↓dRange1, ↓dRange2, ↓dRaise, ↓dRaise0, ↓dIsi, ↓dIsi2, ↓oAdd, ↓oSubI, ↓oMulI, ↓oDivI, ↓oModI, ↓oPowI, ↓oSubB, ↓oCmpI, ↓oNeg, ↓oEq, ↓oNe, ↓oIsN, ↓oNotN, ↓oIsB, ↓oIx, ↓cLen, ↓lenQ, ↓D.len?, ↓cAbs, ↓cInt, ↓cMax2, ↓cMin2, ↓cGcd, ↓cSum, ↓cStr, ↓okEq_int, ↓okEq_bl, ↓okEq_non, ↓eqD_int, ↓eqD_bl, ↓eqD_intTup, ↓atI0, ↓atI1, ↓atI2, ↓atI3, ↓ty_int, ↓ty_bl, ↓ty_non, ↓ty_str, ↓ty_tup, ↓ty_lst, ↓endsOf, List.length_cons, List.length_nil, List.map_cons, List.map_nil, Bool.not_true, Bool.not_false, Bool.true_and, Bool.and_true, Bool.false_and, Bool.or_true, Bool.true_or, Bool.false_or, Bool.or_false, ite_true, ite_false, if_true, if_false, Bool.false_eq_true, reduceCtorEq, decide_true, decide_false, true_and, and_true, Bool.not_not, Option.isSome_some, if_false_left, decide_eq_true_eq, Bool.decide_eq_true, ↓isT_non_non, ↓isT_non_bool, ↓isT_non_int, ↓isT_non_str, ↓isT_non_tuple, ↓isT_non_list, ↓isT_non_dict, ↓isT_bool_non, ↓isT_bool_bool, ↓isT_bool_int, ↓isT_bool_str, ↓isT_bool_tuple, ↓isT_bool_list, ↓isT_bool_dict, ↓isT_int_non, ↓isT_int_bool, ↓isT_int_int, ↓isT_int_str, ↓isT_int_tuple, ↓isT_int_list, ↓isT_int_dict, ↓isT_str_non, ↓isT_str_bool, ↓isT_str_int, ↓isT_str_str, ↓isT_str_tuple, ↓isT_str_list, ↓isT_str_dict, ↓isT_tuple_non, ↓isT_tuple_bool, ↓isT_tuple_int, ↓isT_tuple_str, ↓isT_tuple_tuple, ↓isT_tuple_list, ↓isT_tuple_dict, ↓isT_list_non, ↓isT_list_bool, ↓isT_list_int, ↓isT_list_str, ↓isT_list_tuple, ↓isT_list_list, ↓isT_list_dict, ↓isT_dict_non, ↓isT_dict_bool, ↓isT_dict_int, ↓isT_dict_str, ↓isT_dict_tuple, ↓isT_dict_list, ↓isT_dict_dict, ↓slot_0, ↓slot_1, ↓slot_2, ↓slot_3, ↓slot_4, ↓slot_5, ↓slot_6, ↓slot_7, ↓slot_8, ↓slot_9, ↓slot_10, ↓slot_11, ↓slot_12, ↓slot_13, ↓slot_14, ↓slot_15, ↓slot_16, ↓slot_17, ↓set_0, ↓set_1, ↓set_2, ↓set_3, ↓set_4, ↓set_5, ↓set_6, ↓set_7, ↓set_8, ↓set_9, ↓set_10, ↓set_11, ↓set_12, ↓set_13, ↓set_14, ↓set_15, ↓set_16, ↓set_17]
            exact ⟨_, .refl _, q⟩
          | true =>
            obtain ⟨i, rfl⟩ := of_int ia
            obtain ⟨j, rfl⟩ := of_int ib
            simp only [↓dSeq_eq, ↓wnx_nx, ↓wnx_rt, ↓wnx_bk, ↓wnx_ct, ↓wnx_ex, ↓wlp_nx, ↓wlp_rt, ↓wlp_bk, ↓wlp_ct, ↓wlp_ex, ↓wex_nx, ↓wex_rt, ↓wex_bk, ↓wex_ct, ↓wex_ex, ↓en_nx, ↓en_rt, ↓en_ex, ↓forGo_nil, ↓forGo_cons, ↓dNext, ↓dBreak, ↓dCont, ↓dDrop, ↓dRet, ↓dRetN, ↓dIfS, ↓hName, ↓hNil, ↓hCons, ↓hTup, ↓dAsg, ↓dPar, ↓dTest, ↓dAnd, ↓dOr, ↓dNot, ↓dAndV, ↓dOrV, ↓dNotV, ↓dIf, ↓dVar, ↓dC, ↓dOp, ↓dUn, ↓dNil, ↓dCons, ↓dTup, ↓dLst, ↓dLstM, ↓dCall, ↓dCallK, ↓pick, ↓dCB, ↓dSeqI, ↓dFor, ↓dRange1, ↓dRange2, ↓dRaise, ↓dRaise0, ↓dIsi, ↓dIsi2, ↓oAdd, ↓oSubI, ↓oMulI, ↓oDivI, ↓oModI, ↓oPowI, ↓oSubB, ↓oCmpI, ↓oNeg, ↓oEq, ↓oNe, ↓oIsN, ↓oNotN, ↓oIsB, ↓oIx, ↓cLen, ↓lenQ, ↓D.len?, ↓cAbs, ↓cInt, ↓cMax2, ↓cMin2, ↓cGcd, ↓cSum, ↓cStr, ↓okEq_int, ↓okEq_bl, ↓okEq_non, ↓eqD_int, ↓eqD_bl, ↓eqD_intTup, ↓atI0, ↓atI1, ↓atI2, ↓atI3, ↓ty_int, ↓ty_bl, ↓ty_non, ↓ty_str, ↓ty_tup, ↓ty_lst, ↓endsOf, List.length_cons, List.length_nil, List.map_cons, List.map_nil, Bool.not_true, Bool.not_false, Bool.true_and, Bool.and_true, Bool.false_and, Bool.or_true, Bool.true_or, Bool.false_or, Bool.or_false, ite_true, ite_false, if_true, if_false, Bool.false_eq_true, reduceCtorEq, decide_true, decide_false, true_and, and_true, Bool.not_not, Option.isSome_some, if_false_left, decide_eq_true_eq, Bool.decide_eq_true, ↓isT_non_non, ↓isT_non_bool, ↓isT_non_int, ↓isT_non_str, ↓isT_non_tuple, ↓isT_non_list, ↓isT_non_dict, ↓isT_bool_non, ↓isT_bool_bool, ↓isT_bool_int, ↓isT_bool_str, ↓isT_bool_tuple, ↓isT_bool_list, ↓isT_bool_dict, ↓isT_int_non, ↓isT_int_bool, ↓isT_int_int, ↓isT_int_str, ↓isT_int_tuple, ↓isT_int_list, ↓isT_int_dict, ↓isT_str_non, ↓isT_str_bool, ↓isT_str_int, ↓isT_str_str, ↓isT_str_tuple, ↓isT_str_list, ↓isT_str_dict, ↓isT_tuple_non, ↓isT_tuple_bool, ↓isT_tuple_int, ↓isT_tuple_str, ↓isT_tuple_tuple, ↓isT_tuple_list, ↓isT_tuple_dict, ↓isT_list_non, ↓isT_list_bool, ↓isT_list_int, ↓isT_list_str, ↓isT_list_tuple, ↓isT_list_list, ↓isT_list_dict, ↓isT_dict_non, ↓isT_dict_bool, ↓isT_dict_int, ↓isT_dict_str, ↓isT_dict_tuple, ↓isT_dict_list, ↓isT_dict_dict, ↓slot_0, ↓slot_1, ↓slot_2, ↓slot_3, ↓slot_4, ↓slot_5, ↓slot_6, ↓slot_7, ↓slot_8, ↓slot_9, ↓slot_10, ↓slot_11, ↓slot_12, ↓slot_13, ↓slot_14, ↓slot_15, ↓slot_16, ↓slot_17, ↓set_0, ↓set_1, ↓set_2, ↓set_3, ↓set_4, ↓set_5, ↓set_6, ↓set_7, ↓set_8, ↓set_9, ↓set_10, ↓set_11, ↓set_12, ↓set_13, ↓set_14, ↓set_15, ↓set_16, ↓set_17]
            have e9 : isFr (.tup [.int i, .int j]) = (decide (1 ≤ j) && decide ((Nat.gcd i.natAbs j.natAbs : Int) = 1)) := rfl
            rw [e9] at q
            by_cases h1 : 1 ≤ j
            · rw [if_pos h1]
              rw [decide_eq_true h1, Bool.true_and] at q
              exact ⟨_, .refl _, q⟩
            · rw [if_neg h1]
              rw [decide_eq_false h1, Bool.false_and] at q
              exact ⟨_, .refl _, q⟩
    · rw [isFr_len (fun z => e2 (by omega))] at q
      simp only [↓dSeq_eq, ↓wnx_nx, ↓wnx_rt, ↓wnx_bk, ↓wnx_ct, ↓wnx_ex, ↓wlp_nx, ↓wlp_rt, ↓wlp_bk, ↓wlp_ct, ↓wlp_ex, ↓wex_nx, ↓wex_rt, ↓wex_bk, ↓wex_ct, ↓wex_ex, ↓en_nx, ↓en_rt, ↓en_ex, ↓forGo_nil, ↓forGo_cons, ↓dNext, ↓dBreak, ↓dCont, ↓dDrop, ↓dRet, ↓dRetN, ↓dIfS, ↓hName, ↓hNil, ↓hCons, ↓hTup, ↓dAsg, ↓dPar, ↓dTest, ↓dAnd, ↓dOr, ↓dNot, ↓dAndV, ↓dOrV, ↓dNotV, ↓dIf, ↓dVar, ↓dC, ↓dOp, ↓dUn, ↓dNil, ↓dCons, ↓dTup, ↓dLst, ↓dLstM, ↓dCall, ↓dCallK, ↓pick, ↓dCB, ↓dSeqI, ↓dFor, ↓dRange1, ↓dRange2, ↓dRaise, ↓dRaise0, ↓dIsi, ↓dIsi2, ↓oAdd, ↓oSubI, ↓oMulI, ↓oDivI, ↓oModI, ↓oPowI, ↓oSubB, ↓oCmpI, ↓oNeg, ↓oEq, ↓oNe, ↓oIsN, ↓oNotN, ↓oIsB, ↓oIx, ↓cLen, ↓lenQ, ↓D.len?, ↓cAbs, ↓cInt, ↓cMax2, ↓cMin2, ↓cGcd, ↓cSum, ↓cStr, ↓okEq_int, ↓okEq_bl, ↓okEq_non, ↓eqD_int, ↓eqD_bl, ↓eqD_intTup, ↓atI0, ↓atI1, ↓atI2, ↓atI3, ↓ty_int, ↓ty_bl, ↓ty_non, ↓ty_str, ↓ty_tup, ↓ty_lst, ↓endsOf, List.length_cons, List.length_nil, List.map_cons, List.map_nil, Bool.not_true, Bool.not_false, Bool.true_and, Bool.and_true, Bool.false_and, Bool.or_true, Bool.true_or, Bool.false_or, Bool.or_false, ite_true, ite_false, if_true, if_false, Bool.false_eq_true, reduceCtorEq, decide_true, decide_false, true_and, and_true, Bool.not_not, Option.isSome_some, if_false_left, decide_eq_true_eq, Bool.decide_eq_true, ↓isT_non_non, ↓isT_non_bool, ↓isT_non_int, ↓isT_non_str, ↓isT_non_tuple, ↓isT_non_list, ↓isT_non_dict, ↓isT_bool_non, ↓isT_bool_bool, ↓isT_bool_int, ↓isT_bool_str, ↓isT_bool_tuple, ↓isT_bool_list, ↓isT_bool_dict, ↓isT_int_non, ↓isT_int_bool, ↓isT_int_int, ↓isT_int_str, ↓isT_int_tuple, ↓isT_int_list, ↓isT_int_dict, ↓isT_str_non, ↓isT_str_bool, ↓isT_str_int, ↓isT_str_str, ↓isT_str_tuple, ↓isT_str_list, ↓isT_str_dict, ↓isT_tuple_non, ↓isT_tuple_bool, ↓isT_tuple_int, ↓isT_tuple_str, ↓isT_tuple_tuple, ↓isT_tuple_list, ↓isT_tuple_dict, ↓isT_list_non, ↓isT_list_bool, ↓isT_list_int, ↓isT_list_str, ↓isT_list_tuple, ↓isT_list_list, ↓isT_list_dict, ↓isT_dict_non, ↓isT_dict_bool, ↓isT_dict_int, ↓isT_dict_str, ↓isT_dict_tuple, ↓isT_dict_list, ↓isT_dict_dict, ↓slot_0, ↓slot_1, ↓slot_2, ↓slot_3, ↓slot_4, ↓slot_5, ↓slot_6, ↓slot_7, ↓slot_8, ↓slot_9, ↓slot_10, ↓slot_11, ↓slot_12, ↓slot_13, ↓slot_14, ↓slot_15, ↓slot_16, ↓slot_17, ↓set_0, ↓set_1, ↓set_2, ↓set_3, ↓set_4, ↓set_5, ↓set_6, ↓set_7, ↓set_8, ↓set_9, ↓set_10, ↓set_11, ↓set_12, ↓set_13, ↓set_14, ↓set_15, ↓set_16, ↓set_17, e2]
      exact ⟨_, .refl _, q⟩
  · rw [not_tup ht e] at q
    simp only [↓dSeq_eq, ↓wnx_nx, ↓wnx_rt, ↓wnx_bk, ↓wnx_ct, ↓wnx_ex, ↓wlp_nx, ↓wlp_rt, ↓wlp_bk, ↓wlp_ct, ↓wlp_ex, ↓wex_nx, ↓wex_rt, ↓wex_bk, ↓wex_ct, ↓wex_ex, ↓en_nx, ↓en_rt, ↓en_ex, ↓forGo_nil, ↓forGo_cons, ↓dNext, ↓dBreak, ↓dCont, ↓dDrop, ↓dRet, ↓dRetN, ↓dIfS, ↓hName, ↓hNil, ↓hCons, ↓hTup, ↓dAsg, ↓dPar, ↓dTest, ↓dAnd, ↓dOr, ↓dNot, ↓dAndV, ↓dOrV, ↓dNotV, ↓dIf, ↓dVar, ↓dC, ↓dOp, ↓dUn, ↓dNil, ↓dCons, ↓dTup, ↓dLst, ↓dLstM, ↓dCall, ↓dCallK, ↓pick, ↓dCB, ↓dSeqI, ↓dFor, ↓dRange1, ↓dRange2, ↓dRaise, ↓dRaise0, ↓dIsi, ↓dIsi2, ↓oAdd, ↓oSubI, ↓oMulI, ↓oDivI, ↓oModI, ↓oPowI, ↓oSubB, ↓oCmpI, ↓oNeg, ↓oEq, ↓oNe, ↓oIsN, ↓oNotN, ↓oIsB, ↓oIx, ↓cLen, ↓lenQ, ↓D.len?, ↓cAbs, ↓cInt, ↓cMax2, ↓cMin2, ↓cGcd, ↓cSum, ↓cStr, ↓okEq_int, ↓okEq_bl, ↓okEq_non, ↓eqD_int, ↓eqD_bl, ↓eqD_intTup, ↓atI0, ↓atI1, ↓atI2, ↓atI3, ↓ty_int, ↓ty_bl, ↓ty_non, ↓ty_str, ↓ty_tup, ↓ty_lst, ↓endsOf, List.length_cons, List.length_nil, List.map_cons, List.map_nil, Bool.not_true, Bool.not_false, Bool.true_and, Bool.and_true, Bool.false_and, Bool.or_true, Bool.true_or, Bool.false_or, Bool.or_false, ite_true, ite_false, if_true, if_false, Bool.false_eq_true, reduceCtorEq, decide_true, decide_false, true_and, and_true, Bool.not_not, Option.isSome_some, if_false_left, decide_eq_true_eq, Bool.decide_eq_true, ↓isT_non_non, ↓isT_non_bool, ↓isT_non_int, ↓isT_non_str, ↓isT_non_tuple, ↓isT_non_list, ↓isT_non_dict, ↓isT_bool_non, ↓isT_bool_bool, ↓isT_bool_int, ↓isT_bool_str, ↓isT_bool_tuple, ↓isT_bool_list, ↓isT_bool_dict, ↓isT_int_non, ↓isT_int_bool, ↓isT_int_int, ↓isT_int_str, ↓isT_int_tuple, ↓isT_int_list, ↓isT_int_dict, ↓isT_str_non, ↓isT_str_bool, ↓isT_str_int, ↓isT_str_str, ↓isT_str_tuple, ↓isT_str_list, ↓isT_str_dict, ↓isT_tuple_non, ↓isT_tuple_bool, ↓isT_tuple_int, ↓isT_tuple_str, ↓isT_tuple_tuple, ↓isT_tuple_list, ↓isT_tuple_dict, ↓isT_list_non, ↓isT_list_bool, ↓isT_list_int, ↓isT_list_str, ↓isT_list_tuple, ↓isT_list_list, ↓isT_list_dict, ↓isT_dict_non, ↓isT_dict_bool, ↓isT_dict_int, ↓isT_dict_str, ↓isT_dict_tuple, ↓isT_dict_list, ↓isT_dict_dict, ↓slot_0, ↓slot_1, ↓slot_2, ↓slot_3, ↓slot_4, ↓slot_5, ↓slot_6, ↓slot_7, ↓slot_8, ↓slot_9, ↓slot_10, ↓slot_11, ↓slot_12, ↓slot_13, ↓slot_14, ↓slot_15, ↓slot_16, ↓slot_17, ↓set_0, ↓set_1, ↓set_2, ↓set_3, ↓set_4, ↓set_5, ↓set_6, ↓set_7, ↓set_8, ↓set_9, ↓set_10, ↓set_11, ↓set_12, ↓set_13, ↓set_14, ↓set_15, ↓set_16, ↓set_17, ↓t_is_ratio, ht, ↓isT_tuple, e]
    exact ⟨_, .refl _, q⟩
/-- a pair as data -/
def pD (p : Int × Int) : D := .tup [.int p.1, .int p.2]
def sp_lowest : SpD := fun ds M Q _ => ∃ a b : Int, ds = [.int a, .int b] ∧ b ≠ 0 ∧ szI 9000 b ∧ Q (pD (low a b)) M
theorem gI_sz {a b : Int} {n : Nat} (h : b ≠ 0) (hs : szI n b) : szI n (gI a b) := by
  have h1 := Nat.le_of_dvd (by omega) (Nat.gcd_dvd_right a.natAbs b.natAbs)
  unfold szI at *
  unfold gI
  rw [Int.natAbs_natCast]
  exact Nat.lt_of_le_of_lt h1 hs
theorem p_lowest (ds M Q E) (h : sp_lowest ds M Q E) : t_lowest K (endsOf Q E) ⟨startD N_lowest.length ds, M⟩ := by
  obtain ⟨a, b, rfl, h0, hs, q⟩ := h
  show t_lowest K (endsOf Q E) ⟨[some (.int a), some (.int b), none], M⟩
  rw [← lowP_eq h0] at q
  have hg := gI_pos (a := a) h0
  have hz := gI_sz (a := a) h0 hs
  have e : ((Nat.gcd a.natAbs b.natAbs : Nat) : Int) = gI a b := rfl
  simp only [↓dSeq_eq, ↓wnx_nx, ↓wnx_rt, ↓wnx_bk, ↓wnx_ct, ↓wnx_ex, ↓wlp_nx, ↓wlp_rt, ↓wlp_bk, ↓wlp_ct, ↓wlp_ex, ↓wex_nx, ↓wex_rt, ↓wex_bk, ↓wex_ct, ↓wex_ex, ↓en_nx, ↓en_rt, ↓en_ex, ↓forGo_nil, ↓forGo_cons, ↓dNext, ↓dBreak, ↓dCont, ↓dDrop, ↓dRet, ↓dRetN, ↓dIfS, ↓hName, ↓hNil, ↓hCons, ↓hTup, ↓dAsg, ↓dPar, ↓dTest, ↓dAnd, ↓dOr, ↓dNot, ↓dAndV, ↓dOrV, ↓dNotV, ↓dIf, ↓dVar, ↓dC, ↓dOp, ↓dUn, ↓dNil, ↓dCons, ↓dTup, ↓dLst, ↓dLstM, ↓dCall, ↓dCallK, ↓pick, ↓dCB, ↓dSeqI, ↓dFor, ↓dRange1, ↓dRange2, ↓dRaise, ↓dRaise0, ↓dIsi, ↓dIsi2, ↓oAdd, ↓oSubI, ↓oMulI, ↓oDivI, ↓oModI, ↓oPowI, ↓oSubB, ↓oCmpI, ↓oNeg, ↓oEq, ↓oNe, ↓oIsN, ↓oNotN, ↓oIsB, ↓oIx, ↓cLen, ↓lenQ, ↓D.len?, ↓cAbs, ↓cInt, ↓cMax2, ↓cMin2, ↓cGcd, ↓cSum, ↓cStr, ↓okEq_int, ↓okEq_bl, ↓okEq_non, ↓eqD_int, ↓eqD_bl, ↓eqD_intTup, ↓atI0, ↓atI1, ↓atI2, ↓atI3, ↓ty_int, ↓ty_bl, ↓ty_non, ↓ty_str, ↓ty_tup, ↓ty_lst, ↓endsOf, List.length_cons, List.length_nil, List.map_cons, List.map_nil, Bool.not_true, Bool.not_false, Bool.true_and, Bool.and_true, Bool.false_and, Bool.or_true, Bool.true_or, Bool.false_or, Bool.or_false, ite_true, ite_false, if_true, if_false, Bool.false_eq_true, reduceCtorEq, decide_true, decide_false, true_and, and_true, Bool.not_not, Option.isSome_some, if_false_left, decide_eq_true_eq, Bool.decide_eq_true, ↓isT_non_non, ↓isT_non_bool, ↓isT_non_int, ↓isT_non_str, ↓isT_non_tuple, ↓isT_non_list, ↓isT_non_dict, ↓isT_bool_non, ↓isT_bool_bool, ↓isT_bool_int, ↓isT_bool_str, ↓isT_bool_tuple, ↓isT_bool_list, ↓isT_bool_dict, ↓isT_int_non, ↓isT_int_bool, ↓isT_int_int, ↓isT_int_str, ↓isT_int_tuple, ↓isT_int_list, ↓isT_int_dict, ↓isT_str_non, ↓isT_str_bool, ↓isT_str_int, ↓isT_str_str, ↓isT_str_tuple, ↓isT_str_list, ↓isT_str_dict, ↓isT_tuple_non, ↓isT_tuple_bool, ↓isT_tuple_int, ↓isT_tuple_str, ↓isT_tuple_tuple, ↓isT_tuple_list, ↓isT_tuple_dict, ↓isT_list_non, ↓isT_list_bool, ↓isT_list_int, ↓isT_list_str, ↓isT_list_tuple, ↓isT_list_list, ↓isT_list_dict, ↓isT_dict_non, ↓isT_dict_bool, ↓isT_dict_int, ↓isT_dict_str, ↓isT_dict_tuple, ↓isT_dict_list, ↓isT_dict_dict, ↓slot_0, ↓slot_1, ↓slot_2, ↓slot_3, ↓slot_4, ↓slot_5, ↓slot_6, ↓slot_7, ↓slot_8, ↓slot_9, ↓slot_10, ↓slot_11, ↓slot_12, ↓slot_13, ↓slot_14, ↓slot_15, ↓slot_16, ↓slot_17, ↓set_0, ↓set_1, ↓set_2, ↓set_3, ↓set_4, ↓set_5, ↓set_6, ↓set_7, ↓set_8, ↓set_9, ↓set_10, ↓set_11, ↓set_12, ↓set_13, ↓set_14, ↓set_15, ↓set_16, ↓set_17, ↓t_lowest, e]
  unfold lowP at q
  by_cases hb : b < 0
  · rw [if_pos hb]
    rw [if_pos hb] at q
    have hz2 : szI 9000 (-gI a b) := by unfold szI at *; rw [Int.natAbs_neg]; exact hz
    exact ⟨⟨by omega, hz2⟩, ⟨by omega, hz2⟩, by decide, _, .refl _, q⟩
  · rw [if_neg hb]
    rw [if_neg hb] at q
    exact ⟨⟨by omega, hz⟩, ⟨by omega, hz⟩, by decide, _, .refl _, q⟩
/-- two fractions of at most k places -/
def two (k : Nat) (ds : List D) (x y : Int × Int) : Prop := ds = [pD x, pD y] ∧ Fr k x ∧ Fr k y
theorem sz60 {i : Int} {k : Nat} (h : i.natAbs < 2 ^ k) (hk : k ≤ 60000000) : szI 60000000 i := up_sz h hk
def sp_add : SpD := fun ds M Q _ => ∃ x y, two 4400 ds x y ∧ Q (pD (plusP x y)) M
theorem p_add (ds M Q E) (h : sp_add ds M Q E) : t_add K sp_lowest (endsOf Q E) ⟨startD N_add.length ds, M⟩ := by
  obtain ⟨⟨a, b⟩, ⟨c, d⟩, ⟨rfl, hx, hy⟩, q⟩ := h
  show t_add K sp_lowest (endsOf Q E) ⟨[some (.tup [.int a, .int b]), some (.tup [.int c, .int d])], M⟩
  have m1 := sz60 hx.n1 (by decide)
  have m2 := sz60 hx.n2 (by decide)
  have m3 := sz60 hy.n1 (by decide)
  have m4 := sz60 hy.n2 (by decide)
  have dn := den_ne hx hy
  have ds : szI 9000 (b * d) := up_sz (mul_sz hx.n2 hy.n2) (by decide)
  simp only [↓dSeq_eq, ↓wnx_nx, ↓wnx_rt, ↓wnx_bk, ↓wnx_ct, ↓wnx_ex, ↓wlp_nx, ↓wlp_rt, ↓wlp_bk, ↓wlp_ct, ↓wlp_ex, ↓wex_nx, ↓wex_rt, ↓wex_bk, ↓wex_ct, ↓wex_ex, ↓en_nx, ↓en_rt, ↓en_ex, ↓forGo_nil, ↓forGo_cons, ↓dNext, ↓dBreak, ↓dCont, ↓dDrop, ↓dRet, ↓dRetN, ↓dIfS, ↓hName, ↓hNil, ↓hCons, ↓hTup, ↓dAsg, ↓dPar, ↓dTest, ↓dAnd, ↓dOr, ↓dNot, ↓dAndV, ↓dOrV, ↓dNotV, ↓dIf, ↓dVar, ↓dC, ↓dOp, ↓dUn, ↓dNil, ↓dCons, ↓dTup, ↓dLst, ↓dLstM, ↓dCall, ↓dCallK, ↓pick, ↓dCB, ↓dSeqI, ↓dFor, ↓dRange1, ↓dRange2, ↓dRaise, ↓dRaise0, ↓dIsi, ↓dIsi2, ↓oAdd, ↓oSubI, ↓oMulI, ↓oDivI, ↓oModI, ↓oPowI, ↓oSubB, ↓oCmpI, ↓oNeg, ↓oEq, ↓oNe, ↓oIsN, ↓oNotN, ↓oIsB, ↓oIx, ↓cLen, ↓lenQ, ↓D.len?, ↓cAbs, ↓cInt, ↓cMax2, ↓cMin2, ↓cGcd, ↓cSum, ↓cStr, ↓okEq_int, ↓okEq_bl, ↓okEq_non, ↓eqD_int, ↓eqD_bl, ↓eqD_intTup, ↓atI0, ↓atI1, ↓atI2, ↓atI3, ↓ty_int, ↓ty_bl, ↓ty_non, ↓ty_str, ↓ty_tup, ↓ty_lst, ↓endsOf, List.length_cons, List.length_nil, List.map_cons, List.map_nil, Bool.not_true, Bool.not_false, Bool.true_and, Bool.and_true, Bool.false_and, Bool.or_true, Bool.true_or, Bool.false_or, Bool.or_false, ite_true, ite_false, if_true, if_false, Bool.false_eq_true, reduceCtorEq, decide_true, decide_false, true_and, and_true, Bool.not_not, Option.isSome_some, if_false_left, decide_eq_true_eq, Bool.decide_eq_true, ↓isT_non_non, ↓isT_non_bool, ↓isT_non_int, ↓isT_non_str, ↓isT_non_tuple, ↓isT_non_list, ↓isT_non_dict, ↓isT_bool_non, ↓isT_bool_bool, ↓isT_bool_int, ↓isT_bool_str, ↓isT_bool_tuple, ↓isT_bool_list, ↓isT_bool_dict, ↓isT_int_non, ↓isT_int_bool, ↓isT_int_int, ↓isT_int_str, ↓isT_int_tuple, ↓isT_int_list, ↓isT_int_dict, ↓isT_str_non, ↓isT_str_bool, ↓isT_str_int, ↓isT_str_str, ↓isT_str_tuple, ↓isT_str_list, ↓isT_str_dict, ↓isT_tuple_non, ↓isT_tuple_bool, ↓isT_tuple_int, ↓isT_tuple_str, ↓isT_tuple_tuple, ↓isT_tuple_list, ↓isT_tuple_dict, ↓isT_list_non, ↓isT_list_bool, ↓isT_list_int, ↓isT_list_str, ↓isT_list_tuple, ↓isT_list_list, ↓isT_list_dict, ↓isT_dict_non, ↓isT_dict_bool, ↓isT_dict_int, ↓isT_dict_str, ↓isT_dict_tuple, ↓isT_dict_list, ↓isT_dict_dict, ↓slot_0, ↓slot_1, ↓slot_2, ↓slot_3, ↓slot_4, ↓slot_5, ↓slot_6, ↓slot_7, ↓slot_8, ↓slot_9, ↓slot_10, ↓slot_11, ↓slot_12, ↓slot_13, ↓slot_14, ↓slot_15, ↓slot_16, ↓slot_17, ↓set_0, ↓set_1, ↓set_2, ↓set_3, ↓set_4, ↓set_5, ↓set_6, ↓set_7, ↓set_8, ↓set_9, ↓set_10, ↓set_11, ↓set_12, ↓set_13, ↓set_14, ↓set_15, ↓set_16, ↓set_17, ↓t_add]
  have fin : (szI 60000000 a ∧ szI 60000000 d) ∧ (szI 60000000 c ∧ szI 60000000 b) ∧ (szI 60000000 b ∧ szI 60000000 d) ∧ sp_lowest [.int (a * d + c * b), .int (b * d)] M (fun d M' => ∃ M_1, MLe M_1 M' ∧ Q d M_1) fun er M' => E er M' := ⟨⟨m1, m4⟩, ⟨m3, m2⟩, ⟨m2, m4⟩, _, _, rfl, dn, ds, _, .refl _, q⟩
  by_cases h1 : b = 1
  · rw [if_pos h1]
    by_cases h2 : d = 1
    · rw [if_pos h2]
      subst h1 h2
      have e : plusP (a, 1) (c, 1) = (a + c, 1) := by
        unfold plusP
        show low (a * 1 + c * 1) (1 * 1) = _
        rw [Int.mul_one, Int.mul_one, Int.mul_one]
        exact low_int
      rw [e] at q
      exact ⟨by decide, _, .refl _, q⟩
    · rw [if_neg h2]
      exact fin
  · rw [if_neg h1]
    exact fin
theorem neg_fr {k : Nat} {x : Int × Int} (h : Fr k x) : Fr k (-x.1, x.2) := ⟨h.pos, by show Nat.gcd (-x.1).natAbs _ = 1; rw [Int.natAbs_neg]; exact h.one, by show (-x.1).natAbs < _; rw [Int.natAbs_neg]; exact h.n1, h.n2⟩
def sp_sub : SpD := fun ds M Q _ => ∃ x y, two 4400 ds x y ∧ Q (pD (minusP x y)) M
theorem p_sub (ds M Q E) (h : sp_sub ds M Q E) : t_sub K sp_add (endsOf Q E) ⟨startD N_sub.length ds, M⟩ := by
  obtain ⟨⟨a, b⟩, ⟨c, d⟩, ⟨rfl, hx, hy⟩, q⟩ := h
  show t_sub K sp_add (endsOf Q E) ⟨[some (.tup [.int a, .int b]), some (.tup [.int c, .int d])], M⟩
  simp only [↓dSeq_eq, ↓wnx_nx, ↓wnx_rt, ↓wnx_bk, ↓wnx_ct, ↓wnx_ex, ↓wlp_nx, ↓wlp_rt, ↓wlp_bk, ↓wlp_ct, ↓wlp_ex, ↓wex_nx, ↓wex_rt, ↓wex_bk, ↓wex_ct, ↓wex_ex, ↓en_nx, ↓en_rt, ↓en_ex, ↓forGo_nil, ↓forGo_cons, ↓dNext, ↓dBreak, ↓dCont, ↓dDrop, ↓dRet, ↓dRetN, ↓dIfS, ↓hName, ↓hNil, ↓hCons, ↓hTup, ↓dAsg, ↓dPar, ↓dTest, ↓dAnd, ↓dOr, ↓dNot, ↓dAndV, ↓dOrV, ↓dNotV, ↓dIf, ↓dVar, ↓dC, ↓dOp, ↓dUn, ↓dNil, ↓dCons, ↓dTup, ↓dLst, ↓dLstM, ↓dCall, ↓dCallK, ↓pick, ↓dCB, ↓dSeqI, ↓dFor, ↓dRange1, ↓dRange2, ↓dRaise, ↓dRaise0, ↓dIsi, ↓dIsi2, ↓oAdd, ↓oSubI, ↓oMulI, ↓oDivI, ↓oModI, ↓oPowI, ↓oSubB, ↓oCmpI, ↓oNeg, ↓oEq, ↓oNe, ↓oIsN, ↓oNotN, ↓oIsB, ↓oIx, ↓cLen, ↓lenQ, ↓D.len?, ↓cAbs, ↓cInt, ↓cMax2, ↓cMin2, ↓cGcd, ↓cSum, ↓cStr, ↓okEq_int, ↓okEq_bl, ↓okEq_non, ↓eqD_int, ↓eqD_bl, ↓eqD_intTup, ↓atI0, ↓atI1, ↓atI2, ↓atI3, ↓ty_int, ↓ty_bl, ↓ty_non, ↓ty_str, ↓ty_tup, ↓ty_lst, ↓endsOf, List.length_cons, List.length_nil, List.map_cons, List.map_nil, Bool.not_true, Bool.not_false, Bool.true_and, Bool.and_true, Bool.false_and, Bool.or_true, Bool.true_or, Bool.false_or, Bool.or_false, ite_true, ite_false, if_true, if_false, Bool.false_eq_true, reduceCtorEq, decide_true, decide_false, true_and, and_true, Bool.not_not, Option.isSome_some, if_false_left, decide_eq_true_eq, Bool.decide_eq_true, ↓isT_non_non, ↓isT_non_bool, ↓isT_non_int, ↓isT_non_str, ↓isT_non_tuple, ↓isT_non_list, ↓isT_non_dict, ↓isT_bool_non, ↓isT_bool_bool, ↓isT_bool_int, ↓isT_bool_str, ↓isT_bool_tuple, ↓isT_bool_list, ↓isT_bool_dict, ↓isT_int_non, ↓isT_int_bool, ↓isT_int_int, ↓isT_int_str, ↓isT_int_tuple, ↓isT_int_list, ↓isT_int_dict, ↓isT_str_non, ↓isT_str_bool, ↓isT_str_int, ↓isT_str_str, ↓isT_str_tuple, ↓isT_str_list, ↓isT_str_dict, ↓isT_tuple_non, ↓isT_tuple_bool, ↓isT_tuple_int, ↓isT_tuple_str, ↓isT_tuple_tuple, ↓isT_tuple_list, ↓isT_tuple_dict, ↓isT_list_non, ↓isT_list_bool, ↓isT_list_int, ↓isT_list_str, ↓isT_list_tuple, ↓isT_list_list, ↓isT_list_dict, ↓isT_dict_non, ↓isT_dict_bool, ↓isT_dict_int, ↓isT_dict_str, ↓isT_dict_tuple, ↓isT_dict_list, ↓isT_dict_dict, ↓slot_0, ↓slot_1, ↓slot_2, ↓slot_3, ↓slot_4, ↓slot_5, ↓slot_6, ↓slot_7, ↓slot_8, ↓slot_9, ↓slot_10, ↓slot_11, ↓slot_12, ↓slot_13, ↓slot_14, ↓slot_15, ↓slot_16, ↓slot_17, ↓set_0, ↓set_1, ↓set_2, ↓set_3, ↓set_4, ↓set_5, ↓set_6, ↓set_7, ↓set_8, ↓set_9, ↓set_10, ↓set_11, ↓set_12, ↓set_13, ↓set_14, ↓set_15, ↓set_16, ↓set_17, ↓t_sub]
  refine ⟨by decide, (a, b), (-c, d), ⟨rfl, hx, neg_fr hy⟩, _, .refl _, ?_⟩
  have e : plusP (a, b) (-c, d) = minusP (a, b) (c, d) := by
    unfold plusP minusP
    show low (a * d + -c * b) (b * d) = low (a * d - c * b) (b * d)
    rw [Int.neg_mul, ← Int.sub_eq_add_neg]
  rw [e]; exact q
def sp_mul : SpD := fun ds M Q _ => ∃ x y, two 4400 ds x y ∧ Q (pD (timesP x y)) M
theorem p_mul (ds M Q E) (h : sp_mul ds M Q E) : t_mul K sp_lowest (endsOf Q E) ⟨startD N_mul.length ds, M⟩ := by
  obtain ⟨⟨a, b⟩, ⟨c, d⟩, ⟨rfl, hx, hy⟩, q⟩ := h
  show t_mul K sp_lowest (endsOf Q E) ⟨[some (.tup [.int a, .int b]), some (.tup [.int c, .int d])], M⟩
  have m1 := sz60 hx.n1 (by decide)
  have m2 := sz60 hx.n2 (by decide)
  have m3 := sz60 hy.n1 (by decide)
  have m4 := sz60 hy.n2 (by decide)
  have dn := den_ne hx hy
  have ds : szI 9000 (b * d) := up_sz (mul_sz hx.n2 hy.n2) (by decide)
  have hp : 0 < b * d := Int.mul_pos hx.pos hy.pos
  simp only [↓dSeq_eq, ↓wnx_nx, ↓wnx_rt, ↓wnx_bk, ↓wnx_ct, ↓wnx_ex, ↓wlp_nx, ↓wlp_rt, ↓wlp_bk, ↓wlp_ct, ↓wlp_ex, ↓wex_nx, ↓wex_rt, ↓wex_bk, ↓wex_ct, ↓wex_ex, ↓en_nx, ↓en_rt, ↓en_ex, ↓forGo_nil, ↓forGo_cons, ↓dNext, ↓dBreak, ↓dCont, ↓dDrop, ↓dRet, ↓dRetN, ↓dIfS, ↓hName, ↓hNil, ↓hCons, ↓hTup, ↓dAsg, ↓dPar, ↓dTest, ↓dAnd, ↓dOr, ↓dNot, ↓dAndV, ↓dOrV, ↓dNotV, ↓dIf, ↓dVar, ↓dC, ↓dOp, ↓dUn, ↓dNil, ↓dCons, ↓dTup, ↓dLst, ↓dLstM, ↓dCall, ↓dCallK, ↓pick, ↓dCB, ↓dSeqI, ↓dFor, ↓dRange1, ↓dRange2, ↓dRaise, ↓dRaise0, ↓dIsi, ↓dIsi2, ↓oAdd, ↓oSubI, ↓oMulI, ↓oDivI, ↓oModI, ↓oPowI, ↓oSubB, ↓oCmpI, ↓oNeg, ↓oEq, ↓oNe, ↓oIsN, ↓oNotN, ↓oIsB, ↓oIx, ↓cLen, ↓lenQ, ↓D.len?, ↓cAbs, ↓cInt, ↓cMax2, ↓cMin2, ↓cGcd, ↓cSum, ↓cStr, ↓okEq_int, ↓okEq_bl, ↓okEq_non, ↓eqD_int, ↓eqD_bl, ↓eqD_intTup, ↓atI0, ↓atI1, ↓atI2, ↓atI3, ↓ty_int, ↓ty_bl, ↓ty_non, ↓ty_str, ↓ty_tup, ↓ty_lst, ↓endsOf, List.length_cons, List.length_nil, List.map_cons, List.map_nil, Bool.not_true, Bool.not_false, Bool.true_and, Bool.and_true, Bool.false_and, Bool.or_true, Bool.true_or, Bool.false_or, Bool.or_false, ite_true, ite_false, if_true, if_false, Bool.false_eq_true, reduceCtorEq, decide_true, decide_false, true_and, and_true, Bool.not_not, Option.isSome_some, if_false_left, decide_eq_true_eq, Bool.decide_eq_true, ↓isT_non_non, ↓isT_non_bool, ↓isT_non_int, ↓isT_non_str, ↓isT_non_tuple, ↓isT_non_list, ↓isT_non_dict, ↓isT_bool_non, ↓isT_bool_bool, ↓isT_bool_int, ↓isT_bool_str, ↓isT_bool_tuple, ↓isT_bool_list, ↓isT_bool_dict, ↓isT_int_non, ↓isT_int_bool, ↓isT_int_int, ↓isT_int_str, ↓isT_int_tuple, ↓isT_int_list, ↓isT_int_dict, ↓isT_str_non, ↓isT_str_bool, ↓isT_str_int, ↓isT_str_str, ↓isT_str_tuple, ↓isT_str_list, ↓isT_str_dict, ↓isT_tuple_non, ↓isT_tuple_bool, ↓isT_tuple_int, ↓isT_tuple_str, ↓isT_tuple_tuple, ↓isT_tuple_list, ↓isT_tuple_dict, ↓isT_list_non, ↓isT_list_bool, ↓isT_list_int, ↓isT_list_str, ↓isT_list_tuple, ↓isT_list_list, ↓isT_list_dict, ↓isT_dict_non, ↓isT_dict_bool, ↓isT_dict_int, ↓isT_dict_str, ↓isT_dict_tuple, ↓isT_dict_list, ↓isT_dict_dict, ↓slot_0, ↓slot_1, ↓slot_2, ↓slot_3, ↓slot_4, ↓slot_5, ↓slot_6, ↓slot_7, ↓slot_8, ↓slot_9, ↓slot_10, ↓slot_11, ↓slot_12, ↓slot_13, ↓slot_14, ↓slot_15, ↓slot_16, ↓slot_17, ↓set_0, ↓set_1, ↓set_2, ↓set_3, ↓set_4, ↓set_5, ↓set_6, ↓set_7, ↓set_8, ↓set_9, ↓set_10, ↓set_11, ↓set_12, ↓set_13, ↓set_14, ↓set_15, ↓set_16, ↓set_17, ↓t_mul]
  by_cases h1 : a = 0
  · rw [if_pos h1]
    have e : timesP (a, b) (c, d) = (0, 1) := by
      unfold timesP
      show low (a * c) (b * d) = _
      rw [h1, Int.zero_mul, low_zero hp]
    rw [e] at q
    exact ⟨_, .refl _, q⟩
  · rw [if_neg h1]
    by_cases h2 : c = 0
    · rw [if_pos h2]
      have e : timesP (a, b) (c, d) = (0, 1) := by
        unfold timesP
        show low (a * c) (b * d) = _
        rw [h2, Int.mul_zero, low_zero hp]
      rw [e] at q
      exact ⟨_, .refl _, q⟩
    · rw [if_neg h2]
      exact ⟨⟨m1, m3⟩, ⟨m2, m4⟩, _, _, rfl, dn, ds, _, .refl _, q⟩
def sp_div : SpD := fun ds M Q _ => ∃ x y, two 4400 ds x y ∧ y.1 ≠ 0 ∧ Q (pD (overP x y)) M
theorem p_div (ds M Q E) (h : sp_div ds M Q E) : t_div K sp_lowest (endsOf Q E) ⟨startD N_div.length ds, M⟩ := by
  obtain ⟨⟨a, b⟩, ⟨c, d⟩, ⟨rfl, hx, hy⟩, h0, q⟩ := h
  show t_div K sp_lowest (endsOf Q E) ⟨[some (.tup [.int a, .int b]), some (.tup [.int c, .int d])], M⟩
  have m1 := sz60 hx.n1 (by decide)
  have m2 := sz60 hx.n2 (by decide)
  have m3 := sz60 hy.n1 (by decide)
  have m4 := sz60 hy.n2 (by decide)
  have ds : szI 9000 (b * c) := up_sz (mul_sz hx.n2 hy.n1) (by decide)
  simp only [↓dSeq_eq, ↓wnx_nx, ↓wnx_rt, ↓wnx_bk, ↓wnx_ct, ↓wnx_ex, ↓wlp_nx, ↓wlp_rt, ↓wlp_bk, ↓wlp_ct, ↓wlp_ex, ↓wex_nx, ↓wex_rt, ↓wex_bk, ↓wex_ct, ↓wex_ex, ↓en_nx, ↓en_rt, ↓en_ex, ↓forGo_nil, ↓forGo_cons, ↓dNext, ↓dBreak, ↓dCont, ↓dDrop, ↓dRet, ↓dRetN, ↓dIfS, ↓hName, ↓hNil, ↓hCons, ↓hTup, ↓dAsg, ↓dPar, ↓dTest, ↓dAnd, ↓dOr, ↓dNot, ↓dAndV, ↓dOrV, ↓dNotV, ↓dIf, ↓dVar, ↓dC, ↓dOp, ↓dUn, ↓dNil, ↓dCons, ↓dTup, ↓dLst, ↓dLstM, ↓dCall, ↓dCallK, ↓pick, ↓dCB, ↓dSeqI, ↓dFor, ↓dRange1, ↓dRange2, ↓dRaise, ↓dRaise0, ↓dIsi, ↓dIsi2, ↓oAdd, ↓oSubI, ↓oMulI, ↓oDivI, ↓oModI, ↓oPowI, ↓oSubB, ↓oCmpI, ↓oNeg, ↓oEq, ↓oNe, ↓oIsN, ↓oNotN, ↓oIsB, ↓oIx, ↓cLen, ↓lenQ, ↓D.len?, ↓cAbs, ↓cInt, ↓cMax2, ↓cMin2, ↓cGcd, ↓cSum, ↓cStr, ↓okEq_int, ↓okEq_bl, ↓okEq_non, ↓eqD_int, ↓eqD_bl, ↓eqD_intTup, ↓atI0, ↓atI1, ↓atI2, ↓atI3, ↓ty_int, ↓ty_bl, ↓ty_non, ↓ty_str, ↓ty_tup, ↓ty_lst, ↓endsOf, List.length_cons, List.length_nil, List.map_cons, List.map_nil, Bool.not_true, Bool.not_false, Bool.true_and, Bool.and_true, Bool.false_and, Bool.or_true, Bool.true_or, Bool.false_or, Bool.or_false, ite_true, ite_false, if_true, if_false, Bool.false_eq_true, reduceCtorEq, decide_true, decide_false, true_and, and_true, Bool.not_not, Option.isSome_some, if_false_left, decide_eq_true_eq, Bool.decide_eq_true, ↓isT_non_non, ↓isT_non_bool, ↓isT_non_int, ↓isT_non_str, ↓isT_non_tuple, ↓isT_non_list, ↓isT_non_dict, ↓isT_bool_non, ↓isT_bool_bool, ↓isT_bool_int, ↓isT_bool_str, ↓isT_bool_tuple, ↓isT_bool_list, ↓isT_bool_dict, ↓isT_int_non, ↓isT_int_bool, ↓isT_int_int, ↓isT_int_str, ↓isT_int_tuple, ↓isT_int_list, ↓isT_int_dict, ↓isT_str_non, ↓isT_str_bool, ↓isT_str_int, ↓isT_str_str, ↓isT_str_tuple, ↓isT_str_list, ↓isT_str_dict, ↓isT_tuple_non, ↓isT_tuple_bool, ↓isT_tuple_int, ↓isT_tuple_str, ↓isT_tuple_tuple, ↓isT_tuple_list, ↓isT_tuple_dict, ↓isT_list_non, ↓isT_list_bool, ↓isT_list_int, ↓isT_list_str, ↓isT_list_tuple, ↓isT_list_list, ↓isT_list_dict, ↓isT_dict_non, ↓isT_dict_bool, ↓isT_dict_int, ↓isT_dict_str, ↓isT_dict_tuple, ↓isT_dict_list, ↓isT_dict_dict, ↓slot_0, ↓slot_1, ↓slot_2, ↓slot_3, ↓slot_4, ↓slot_5, ↓slot_6, ↓slot_7, ↓slot_8, ↓slot_9, ↓slot_10, ↓slot_11, ↓slot_12, ↓slot_13, ↓slot_14, ↓slot_15, ↓slot_16, ↓slot_17, ↓set_0, ↓set_1, ↓set_2, ↓set_3, ↓set_4, ↓set_5, ↓set_6, ↓set_7, ↓set_8, ↓set_9, ↓set_10, ↓set_11, ↓set_12, ↓set_13, ↓set_14, ↓set_15, ↓set_16, ↓set_17, ↓t_div]
  exact ⟨⟨m1, m4⟩, ⟨m2, m3⟩, _, _, rfl, Int.mul_ne_zero (by have : 0 < b := hx.pos; omega) h0, ds, _, .refl _, q⟩
def sp_compared : SpD := fun ds M Q _ => ∃ x y, two 4400 ds x y ∧ Q (.int (ordP x y)) M
theorem p_compared (ds M Q E) (h : sp_compared ds M Q E) : t_compared K (endsOf Q E) ⟨startD N_compared.length ds, M⟩ := by
  obtain ⟨⟨a, b⟩, ⟨c, d⟩, ⟨rfl, hx, hy⟩, q⟩ := h
  show t_compared K (endsOf Q E) ⟨[some (.tup [.int a, .int b]), some (.tup [.int c, .int d]), none], M⟩
  have m1 := sz60 hx.n1 (by decide)
  have m2 := sz60 hx.n2 (by decide)
  have m3 := sz60 hy.n1 (by decide)
  have m4 := sz60 hy.n2 (by decide)
  simp only [↓dSeq_eq, ↓wnx_nx, ↓wnx_rt, ↓wnx_bk, ↓wnx_ct, ↓wnx_ex, ↓wlp_nx, ↓wlp_rt, ↓wlp_bk, ↓wlp_ct, ↓wlp_ex, ↓wex_nx, ↓wex_rt, ↓wex_bk, ↓wex_ct, ↓wex_ex, ↓en_nx, ↓en_rt, ↓en_ex, ↓forGo_nil, ↓forGo_cons, ↓dNext, ↓dBreak, ↓dCont, ↓dDrop, ↓dRet, ↓dRetN, ↓dIfS, ↓hName, ↓hNil, ↓hCons, ↓hTup, ↓dAsg, ↓dPar, ↓dTest, ↓dAnd, ↓dOr, ↓dNot, ↓dAndV, ↓dOrV, ↓dNotV, ↓dIf, ↓dVar, ↓dC, ↓dOp, ↓dUn, ↓dNil, ↓dCons, ↓dTup, ↓dLst, ↓dLstM, ↓dCall, ↓dCallK, ↓pick, ↓dCB, ↓dSeqI, ↓dFor, ↓dRange1, ↓dRange2, ↓dRaise, ↓dRaise0, ↓dIsi, ↓dIsi2, ↓oAdd, ↓oSubI, ↓oMulI, ↓oDivI, ↓oModI, ↓oPowI, ↓oSubB, ↓oCmpI, ↓oNeg, ↓oEq, ↓oNe, ↓oIsN, ↓oNotN, ↓oIsB, ↓oIx, ↓cLen, ↓lenQ, ↓D.len?, ↓cAbs, ↓cInt, ↓cMax2, ↓cMin2, ↓cGcd, ↓cSum, ↓cStr, ↓okEq_int, ↓okEq_bl, ↓okEq_non, ↓eqD_int, ↓eqD_bl, ↓eqD_intTup, ↓atI0, ↓atI1, ↓atI2, ↓atI3, ↓ty_int, ↓ty_bl, ↓ty_non, ↓ty_str, ↓ty_tup, ↓ty_lst, ↓endsOf, List.length_cons, List.length_nil, List.map_cons, List.map_nil, Bool.not_true, Bool.not_false, Bool.true_and, Bool.and_true, Bool.false_and, Bool.or_true, Bool.true_or, Bool.false_or, Bool.or_false, ite_true, ite_false, if_true, if_false, Bool.false_eq_true, reduceCtorEq, decide_true, decide_false, true_and, and_true, Bool.not_not, Option.isSome_some, if_false_left, decide_eq_true_eq, Bool.decide_eq_true, ↓isT_non_non, ↓isT_non_bool, ↓isT_non_int, ↓isT_non_str, ↓isT_non_tuple, ↓isT_non_list, ↓isT_non_dict, ↓isT_bool_non, ↓isT_bool_bool, ↓isT_bool_int, ↓isT_bool_str, ↓isT_bool_tuple, ↓isT_bool_list, ↓isT_bool_dict, ↓isT_int_non, ↓isT_int_bool, ↓isT_int_int, ↓isT_int_str, ↓isT_int_tuple, ↓isT_int_list, ↓isT_int_dict, ↓isT_str_non, ↓isT_str_bool, ↓isT_str_int, ↓isT_str_str, ↓isT_str_tuple, ↓isT_str_list, ↓isT_str_dict, ↓isT_tuple_non, ↓isT_tuple_bool, ↓isT_tuple_int, ↓isT_tuple_str, ↓isT_tuple_tuple, ↓isT_tuple_list, ↓isT_tuple_dict, ↓isT_list_non, ↓isT_list_bool, ↓isT_list_int, ↓isT_list_str, ↓isT_list_tuple, ↓isT_list_list, ↓isT_list_dict, ↓isT_dict_non, ↓isT_dict_bool, ↓isT_dict_int, ↓isT_dict_str, ↓isT_dict_tuple, ↓isT_dict_list, ↓isT_dict_dict, ↓slot_0, ↓slot_1, ↓slot_2, ↓slot_3, ↓slot_4, ↓slot_5, ↓slot_6, ↓slot_7, ↓slot_8, ↓slot_9, ↓slot_10, ↓slot_11, ↓slot_12, ↓slot_13, ↓slot_14, ↓slot_15, ↓slot_16, ↓slot_17, ↓set_0, ↓set_1, ↓set_2, ↓set_3, ↓set_4, ↓set_5, ↓set_6, ↓set_7, ↓set_8, ↓set_9, ↓set_10, ↓set_11, ↓set_12, ↓set_13, ↓set_14, ↓set_15, ↓set_16, ↓set_17, ↓t_compared]
  refine ⟨⟨m1, m4⟩, ⟨m3, m2⟩, ?_⟩
  unfold ordP at q
  by_cases h1 : a * d - c * b = 0
  · rw [if_pos h1]
    rw [if_pos h1] at q
    exact ⟨_, .refl _, q⟩
  · rw [if_neg h1]
    rw [if_neg h1] at q
    by_cases h2 : 0 < a * d - c * b
    · rw [if_pos h2]
      rw [if_pos h2] at q
      exact ⟨_, .refl _, q⟩
    · rw [if_neg h2]
      rw [if_neg h2] at q
      exact ⟨_, .refl _, q⟩
/-! ### errors -/
def erOne (K : PySem.W.Frag) (x : Str) (d : D) : Er := ⟨He.ga K x, [(("given" : Str), d)]⟩
def sp_check_fractions (K : PySem.W.Frag) : SpD := fun ds M Q E => ∃ x y, ds = [x, y] ∧ known M x ∧ known M y ∧ (if isFr x = false then E (erOne K "InvalidFraction" x) M else if isFr y = false then E (erOne K "InvalidFraction" y) M else Q .non M)
theorem p_check_fractions (ds M Q E) (h : sp_check_fractions K ds M Q E) : t_check_fractions K sp_is_ratio (endsOf Q E) ⟨startD N_check_fractions.length ds, M⟩ := by
  obtain ⟨x, y, rfl, hx, hy, q⟩ := h
  show t_check_fractions K sp_is_ratio (endsOf Q E) ⟨[some x, some y, none], M⟩
  simp only [↓dSeq_eq, ↓wnx_nx, ↓wnx_rt, ↓wnx_bk, ↓wnx_ct, ↓wnx_ex, ↓wlp_nx, ↓wlp_rt, ↓wlp_bk, ↓wlp_ct, ↓wlp_ex, ↓wex_nx, ↓wex_rt, ↓wex_bk, ↓wex_ct, ↓wex_ex, ↓en_nx, ↓en_rt, ↓en_ex, ↓forGo_nil, ↓forGo_cons, ↓dNext, ↓dBreak, ↓dCont, ↓dDrop, ↓dRet, ↓dRetN, ↓dIfS, ↓hName, ↓hNil, ↓hCons, ↓hTup, ↓dAsg, ↓dPar, ↓dTest, ↓dAnd, ↓dOr, ↓dNot, ↓dAndV, ↓dOrV, ↓dNotV, ↓dIf, ↓dVar, ↓dC, ↓dOp, ↓dUn, ↓dNil, ↓dCons, ↓dTup, ↓dLst, ↓dLstM, ↓dCall, ↓dCallK, ↓pick, ↓dCB, ↓dSeqI, ↓dFor, ↓dRange1, ↓dRange2, ↓dRaise, ↓dRaise0, ↓dIsi, ↓dIsi2, ↓oAdd, ↓oSubI, ↓oMulI, ↓oDivI, ↓oModI, ↓oPowI, ↓oSubB, ↓oCmpI, ↓oNeg, ↓oEq, ↓oNe, ↓oIsN, ↓oNotN, ↓oIsB, ↓oIx, ↓cLen, ↓lenQ, ↓D.len?, ↓cAbs, ↓cInt, ↓cMax2, ↓cMin2, ↓cGcd, ↓cSum, ↓cStr, ↓okEq_int, ↓okEq_bl, ↓okEq_non, ↓eqD_int, ↓eqD_bl, ↓eqD_intTup, ↓atI0, ↓atI1, ↓atI2, ↓atI3, ↓ty_int, ↓ty_bl, ↓ty_non, ↓ty_str, ↓ty_tup, ↓ty_lst, ↓endsOf, List.length_cons, List.length_nil, List.map_cons, List.map_nil, Bool.not_true, Bool.not_false, Bool.true_and, Bool.and_true, Bool.false_and, Bool.or_true, Bool.true_or, Bool.false_or, Bool.or_false, ite_true, ite_false, if_true, if_false, Bool.false_eq_true, reduceCtorEq, decide_true, decide_false, true_and, and_true, Bool.not_not, Option.isSome_some, if_false_left, decide_eq_true_eq, Bool.decide_eq_true, ↓isT_non_non, ↓isT_non_bool, ↓isT_non_int, ↓isT_non_str, ↓isT_non_tuple, ↓isT_non_list, ↓isT_non_dict, ↓isT_bool_non, ↓isT_bool_bool, ↓isT_bool_int, ↓isT_bool_str, ↓isT_bool_tuple, ↓isT_bool_list, ↓isT_bool_dict, ↓isT_int_non, ↓isT_int_bool, ↓isT_int_int, ↓isT_int_str, ↓isT_int_tuple, ↓isT_int_list, ↓isT_int_dict, ↓isT_str_non, ↓isT_str_bool, ↓isT_str_int, ↓isT_str_str, ↓isT_str_tuple, ↓isT_str_list, ↓isT_str_dict, ↓isT_tuple_non, ↓isT_tuple_bool, ↓isT_tuple_int, ↓isT_tuple_str, ↓isT_tuple_tuple, ↓isT_tuple_list, ↓isT_tuple_dict, ↓isT_list_non, ↓isT_list_bool, ↓isT_list_int, ↓isT_list_str, ↓isT_list_tuple, ↓isT_list_list, ↓isT_list_dict, ↓isT_dict_non, ↓isT_dict_bool, ↓isT_dict_int, ↓isT_dict_str, ↓isT_dict_tuple, ↓isT_dict_list, ↓isT_dict_dict, ↓slot_0, ↓slot_1, ↓slot_2, ↓slot_3, ↓slot_4, ↓slot_5, ↓slot_6, ↓slot_7, ↓slot_8, ↓slot_9, ↓slot_10, ↓slot_11, ↓slot_12, ↓slot_13, ↓slot_14, ↓slot_15, ↓slot_16, ↓slot_17, ↓set_0, ↓set_1, ↓set_2, ↓set_3, ↓set_4, ↓set_5, ↓set_6, ↓set_7, ↓set_8, ↓set_9, ↓set_10, ↓set_11, ↓set_12, ↓set_13, ↓set_14, ↓set_15, ↓set_16, ↓set_17, ↓t_check_fractions, sp_is_ratio]
  refine ⟨by decide, x, rfl, hx, ?_⟩
  cases e1 : isFr x with
  | false =>
    rw [if_pos e1] at q
    simp only [↓dSeq_eq, ↓wnx_nx, ↓wnx_rt, ↓wnx_bk, ↓wnx_ct, ↓wnx_ex, ↓wlp_nx, ↓wlp_rt, ↓wlp_bk, ↓wlp_ct, ↓wlp_ex, ↓wex_nx, ↓wex_rt, ↓wex_bk, ↓wex_ct, ↓wex_ex, ↓en_nx, ↓en_rt, ↓en_ex, ↓forGo_nil, ↓forGo_cons, ↓dNext, ↓dBreak, ↓dCont, ↓dDrop, ↓dRet, ↓dRetN, ↓dIfS, ↓hName, ↓hNil, ↓hCons, ↓hTup, ↓dAsg, ↓dPar, ↓dTest, ↓dAnd, ↓dOr, ↓dNot, ↓dAndV, ↓dOrV, ↓dNotV, ↓dIf, ↓dVar, ↓dC, ↓dOp, ↓dUn, ↓dNil, ↓dCons, ↓dTup, ↓dLst, ↓dLstM, ↓dCall, ↓dCallK, ↓pick, ↓dCB, ↓dSeqI, ↓dFor, ↓dRange1, ↓dRange2, ↓dRaise, ↓dRaise0, ↓dIsi, ↓dIsi2, ↓oAdd, ↓oSubI, ↓oMulI, ↓oDivI, ↓oModI, ↓oPowI, ↓oSubB, ↓oCmpI, ↓oNeg, ↓oEq, ↓oNe, ↓oIsN, ↓oNotN, ↓oIsB, ↓oIx, ↓cLen, ↓lenQ, ↓D.len?, ↓cAbs, ↓cInt, ↓cMax2, ↓cMin2, ↓cGcd, ↓cSum, ↓cStr, ↓okEq_int, ↓okEq_bl, ↓okEq_non, ↓eqD_int, ↓eqD_bl, ↓eqD_intTup, ↓atI0, ↓atI1, ↓atI2, ↓atI3, ↓ty_int, ↓ty_bl, ↓ty_non, ↓ty_str, ↓ty_tup, ↓ty_lst, ↓endsOf, List.length_cons, List.length_nil, List.map_cons, List.map_nil, Bool.not_true, Bool.not_false, Bool.true_and, Bool.and_true, Bool.false_and, Bool.or_true, Bool.true_or, Bool.false_or, Bool.or_false, ite_true, ite_false, if_true, if_false, Bool.false_eq_true, reduceCtorEq, decide_true, decide_false, true_and, and_true, Bool.not_not, Option.isSome_some, if_false_left, decide_eq_true_eq, Bool.decide_eq_true, ↓isT_non_non, ↓isT_non_bool, ↓isT_non_int, ↓isT_non_str, ↓isT_non_tuple, ↓isT_non_list, ↓isT_non_dict, ↓isT_bool_non, ↓isT_bool_bool, ↓isT_bool_int, ↓isT_bool_str, ↓isT_bool_tuple, ↓isT_bool_list, ↓isT_bool_dict, ↓isT_int_non, ↓isT_int_bool, ↓isT_int_int, ↓isT_int_str, ↓isT_int_tuple, ↓isT_int_list, ↓isT_int_dict, ↓isT_str_non, ↓isT_str_bool, ↓isT_str_int, ↓isT_str_str, ↓isT_str_tuple, ↓isT_str_list, ↓isT_str_dict, ↓isT_tuple_non, ↓isT_tuple_bool, ↓isT_tuple_int, ↓isT_tuple_str, ↓isT_tuple_tuple, ↓isT_tuple_list, ↓isT_tuple_dict, ↓isT_list_non, ↓isT_list_bool, ↓isT_list_int, ↓isT_list_str, ↓isT_list_tuple, ↓isT_list_list, ↓isT_list_dict, ↓isT_dict_non, ↓isT_dict_bool, ↓isT_dict_int, ↓isT_dict_str, ↓isT_dict_tuple, ↓isT_dict_list, ↓isT_dict_dict, ↓slot_0, ↓slot_1, ↓slot_2, ↓slot_3, ↓slot_4, ↓slot_5, ↓slot_6, ↓slot_7, ↓slot_8, ↓slot_9, ↓slot_10, ↓slot_11, ↓slot_12, ↓slot_13, ↓slot_14, ↓slot_15, ↓slot_16, ↓slot_17, ↓set_0, ↓set_1, ↓set_2, ↓set_3, ↓set_4, ↓set_5, ↓set_6, ↓set_7, ↓set_8, ↓set_9, ↓set_10, ↓set_11, ↓set_12, ↓set_13, ↓set_14, ↓set_15, ↓set_16, ↓set_17]
    exact q
  | true =>
    rw [if_neg (by rw [e1]; decide)] at q
    simp only [↓dSeq_eq, ↓wnx_nx, ↓wnx_rt, ↓wnx_bk, ↓wnx_ct, ↓wnx_ex, ↓wlp_nx, ↓wlp_rt, ↓wlp_bk, ↓wlp_ct, ↓wlp_ex, ↓wex_nx, ↓wex_rt, ↓wex_bk, ↓wex_ct, ↓wex_ex, ↓en_nx, ↓en_rt, ↓en_ex, ↓forGo_nil, ↓forGo_cons, ↓dNext, ↓dBreak, ↓dCont, ↓dDrop, ↓dRet, ↓dRetN, ↓dIfS, ↓hName, ↓hNil, ↓hCons, ↓hTup, ↓dAsg, ↓dPar, ↓dTest, ↓dAnd, ↓dOr, ↓dNot, ↓dAndV, ↓dOrV, ↓dNotV, ↓dIf, ↓dVar, ↓dC, ↓dOp, ↓dUn, ↓dNil, ↓dCons, ↓dTup, ↓dLst, ↓dLstM, ↓dCall, ↓dCallK, ↓pick, ↓dCB, ↓dSeqI, ↓dFor, ↓dRange1, ↓dRange2, ↓dRaise, ↓dRaise0, ↓dIsi, ↓dIsi2, ↓oAdd, ↓oSubI, ↓oMulI, ↓oDivI, ↓oModI, ↓oPowI, ↓oSubB, ↓oCmpI, ↓oNeg, ↓oEq, ↓oNe, ↓oIsN, ↓oNotN, ↓oIsB, ↓oIx, ↓cLen, ↓lenQ, ↓D.len?, ↓cAbs, ↓cInt, ↓cMax2, ↓cMin2, ↓cGcd, ↓cSum, ↓cStr, ↓okEq_int, ↓okEq_bl, ↓okEq_non, ↓eqD_int, ↓eqD_bl, ↓eqD_intTup, ↓atI0, ↓atI1, ↓atI2, ↓atI3, ↓ty_int, ↓ty_bl, ↓ty_non, ↓ty_str, ↓ty_tup, ↓ty_lst, ↓endsOf, List.length_cons, List.length_nil, List.map_cons, List.map_nil, Bool.not_true, Bool.not_false, Bool.true_and, Bool.and_true, Bool.false_and, Bool.or_true, Bool.true_or, Bool.false_or, Bool.or_false, ite_true, ite_false, if_true, if_false, Bool.false_eq_true, reduceCtorEq, decide_true, decide_false, true_and, and_true, Bool.not_not, Option.isSome_some, if_false_left, decide_eq_true_eq, Bool.decide_eq_true, ↓isT_non_non, ↓isT_non_bool, ↓isT_non_int, ↓isT_non_str, ↓isT_non_tuple, ↓isT_non_list, ↓isT_non_dict, ↓isT_bool_non, ↓isT_bool_bool, ↓isT_bool_int, ↓isT_bool_str, ↓isT_bool_tuple, ↓isT_bool_list, ↓isT_bool_dict, ↓isT_int_non, ↓isT_int_bool, ↓isT_int_int, ↓isT_int_str, ↓isT_int_tuple, ↓isT_int_list, ↓isT_int_dict, ↓isT_str_non, ↓isT_str_bool, ↓isT_str_int, ↓isT_str_str, ↓isT_str_tuple, ↓isT_str_list, ↓isT_str_dict, ↓isT_tuple_non, ↓isT_tuple_bool, ↓isT_tuple_int, ↓isT_tuple_str, ↓isT_tuple_tuple, ↓isT_tuple_list, ↓isT_tuple_dict, ↓isT_list_non, ↓isT_list_bool, ↓isT_list_int, ↓isT_list_str, ↓isT_list_tuple, ↓isT_list_list, ↓isT_list_dict, ↓isT_dict_non, ↓isT_dict_bool, ↓isT_dict_int, ↓isT_dict_str, ↓isT_dict_tuple, ↓isT_dict_list, ↓isT_dict_dict, ↓slot_0, ↓slot_1, ↓slot_2, ↓slot_3, ↓slot_4, ↓slot_5, ↓slot_6, ↓slot_7, ↓slot_8, ↓slot_9, ↓slot_10, ↓slot_11, ↓slot_12, ↓slot_13, ↓slot_14, ↓slot_15, ↓slot_16, ↓slot_17, ↓set_0, ↓set_1, ↓set_2, ↓set_3, ↓set_4, ↓set_5, ↓set_6, ↓set_7, ↓set_8, ↓set_9, ↓set_10, ↓set_11, ↓set_12, ↓set_13, ↓set_14, ↓set_15, ↓set_16, ↓set_17]
    refine ⟨y, rfl, hy, ?_⟩
    cases e2 : isFr y with
    | false =>
      rw [if_pos e2] at q
      simp only [↓dSeq_eq, ↓wnx_nx, ↓wnx_rt, ↓wnx_bk, ↓wnx_ct, ↓wnx_ex, ↓wlp_nx, ↓wlp_rt, ↓wlp_bk, ↓wlp_ct, ↓wlp_ex, ↓wex_nx, ↓wex_rt, ↓wex_bk, ↓wex_ct, ↓wex_ex, ↓en_nx, ↓en_rt, ↓en_ex, ↓forGo_nil, ↓forGo_cons, ↓dNext, ↓dBreak, ↓dCont, ↓dDrop, ↓dRet, ↓dRetN, ↓dIfS, ↓hName, ↓hNil, ↓hCons, ↓hTup, ↓dAsg, ↓dPar, ↓dTest, ↓dAnd, ↓dOr, ↓dNot, ↓dAndV, ↓dOrV, ↓dNotV, ↓dIf, ↓dVar, ↓dC, ↓dOp, ↓dUn, ↓dNil, ↓dCons, ↓dTup, ↓dLst, ↓dLstM, ↓dCall, ↓dCallK, ↓pick, ↓dCB, ↓dSeqI, ↓dFor, ↓dRange1, ↓dRange2, ↓dRaise, ↓dRaise0, ↓dIsi, ↓dIsi2, ↓oAdd, ↓oSubI, ↓oMulI, ↓oDivI, ↓oModI, ↓oPowI, ↓oSubB, ↓oCmpI, ↓oNeg, ↓oEq, ↓oNe, ↓oIsN, ↓oNotN, ↓oIsB, ↓oIx, ↓cLen, ↓lenQ, ↓D.len?, ↓cAbs, ↓cInt, ↓cMax2, ↓cMin2, ↓cGcd, ↓cSum, ↓cStr, ↓okEq_int, ↓okEq_bl, ↓okEq_non, ↓eqD_int, ↓eqD_bl, ↓eqD_intTup, ↓atI0, ↓atI1, ↓atI2, ↓atI3, ↓ty_int, ↓ty_bl, ↓ty_non, ↓ty_str, ↓ty_tup, ↓ty_lst, ↓endsOf, List.length_cons, List.length_nil, List.map_cons, List.map_nil, Bool.not_true, Bool.not_false, Bool.true_and, Bool.and_true, Bool.false_and, Bool.or_true, Bool.true_or, Bool.false_or, Bool.or_false, ite_true, ite_false, if_true, if_false, Bool.false_eq_true, reduceCtorEq, decide_true, decide_false, true_and, and_true, Bool.not_not, Option.isSome_some, if_false_left, decide_eq_true_eq, Bool.decide_eq_true, ↓isT_non_non, ↓isT_non_bool, ↓isT_non_int, ↓isT_non_str, ↓isT_non_tuple, ↓isT_non_list, ↓isT_non_dict, ↓isT_bool_non, ↓isT_bool_bool, ↓isT_bool_int, ↓isT_bool_str, ↓isT_bool_tuple, ↓isT_bool_list, ↓isT_bool_dict, ↓isT_int_non, ↓isT_int_bool, ↓isT_int_int, ↓isT_int_str, ↓isT_int_tuple, ↓isT_int_list, ↓isT_int_dict, ↓isT_str_non, ↓isT_str_bool, ↓isT_str_int, ↓isT_str_str, ↓isT_str_tuple, ↓isT_str_list, ↓isT_str_dict, ↓isT_tuple_non, ↓isT_tuple_bool, ↓isT_tuple_int, ↓isT_tuple_str, ↓isT_tuple_tuple, ↓isT_tuple_list, ↓isT_tuple_dict, ↓isT_list_non, ↓isT_list_bool, ↓isT_list_int, ↓isT_list_str, ↓isT_list_tuple, ↓isT_list_list, ↓isT_list_dict, ↓isT_dict_non, ↓isT_dict_bool, ↓isT_dict_int, ↓isT_dict_str, ↓isT_dict_tuple, ↓isT_dict_list, ↓isT_dict_dict, ↓slot_0, ↓slot_1, ↓slot_2, ↓slot_3, ↓slot_4, ↓slot_5, ↓slot_6, ↓slot_7, ↓slot_8, ↓slot_9, ↓slot_10, ↓slot_11, ↓slot_12, ↓slot_13, ↓slot_14, ↓slot_15, ↓slot_16, ↓slot_17, ↓set_0, ↓set_1, ↓set_2, ↓set_3, ↓set_4, ↓set_5, ↓set_6, ↓set_7, ↓set_8, ↓set_9, ↓set_10, ↓set_11, ↓set_12, ↓set_13, ↓set_14, ↓set_15, ↓set_16, ↓set_17]
      exact q
    | true =>
      rw [if_neg (by rw [e2]; decide)] at q
      simp only [↓dSeq_eq, ↓wnx_nx, ↓wnx_rt, ↓wnx_bk, ↓wnx_ct, ↓wnx_ex, ↓wlp_nx, ↓wlp_rt, ↓wlp_bk, ↓wlp_ct, ↓wlp_ex, ↓wex_nx, ↓wex_rt, ↓wex_bk, ↓wex_ct, ↓wex_ex, ↓en_nx, ↓en_rt, ↓en_ex, ↓forGo_nil, ↓forGo_cons, ↓dNext, ↓dBreak, ↓dCont, ↓dDrop, ↓dRet, ↓dRetN, ↓dIfS, ↓hName, ↓hNil, ↓hCons, ↓hTup, ↓dAsg, ↓dPar, ↓dTest, ↓dAnd, ↓dOr, ↓dNot, ↓dAndV, ↓dOrV, ↓dNotV, ↓dIf, ↓dVar, ↓dC, ↓dOp, ↓dUn, ↓dNil, ↓dCons, ↓dTup, ↓dLst, ↓dLstM, ↓dCall, ↓dCallK, ↓pick, ↓dCB, ↓dSeqI, ↓dFor, ↓dRange1, ↓dRange2, ↓dRaise, ↓dRaise0, ↓dIsi, ↓dIsi2, ↓oAdd, ↓oSubI, ↓oMulI, ↓oDivI, ↓oModI, ↓oPowI, ↓oSubB, ↓oCmpI, ↓oNeg, ↓oEq, ↓oNe, ↓oIsN, ↓oNotN, ↓oIsB, ↓oIx, ↓cLen, ↓lenQ, ↓D.len?, ↓cAbs, ↓cInt, ↓cMax2, ↓cMin2, ↓cGcd, ↓cSum, ↓cStr, ↓okEq_int, ↓okEq_bl, ↓okEq_non, ↓eqD_int, ↓eqD_bl, ↓eqD_intTup, ↓atI0, ↓atI1, ↓atI2, ↓atI3, ↓ty_int, ↓ty_bl, ↓ty_non, ↓ty_str, ↓ty_tup, ↓ty_lst, ↓endsOf, List.length_cons, List.length_nil, List.map_cons, List.map_nil, Bool.not_true, Bool.not_false, Bool.true_and, Bool.and_true, Bool.false_and, Bool.or_true, Bool.true_or, Bool.false_or, Bool.or_false, ite_true, ite_false, if_true, if_false, Bool.false_eq_true, reduceCtorEq, decide_true, decide_false, true_and, and_true, Bool.not_not, Option.isSome_some, if_false_left, decide_eq_true_eq, Bool.decide_eq_true, ↓isT_non_non, ↓isT_non_bool, ↓isT_non_int, ↓isT_non_str, ↓isT_non_tuple, ↓isT_non_list, ↓isT_non_dict, ↓isT_bool_non, ↓isT_bool_bool, ↓isT_bool_int, ↓isT_bool_str, ↓isT_bool_tuple, ↓isT_bool_list, ↓isT_bool_dict, ↓isT_int_non, ↓isT_int_bool, ↓isT_int_int, ↓isT_int_str, ↓isT_int_tuple, ↓isT_int_list, ↓isT_int_dict, ↓isT_str_non, ↓isT_str_bool, ↓isT_str_int, ↓isT_str_str, ↓isT_str_tuple, ↓isT_str_list, ↓isT_str_dict, ↓isT_tuple_non, ↓isT_tuple_bool, ↓isT_tuple_int, ↓isT_tuple_str, ↓isT_tuple_tuple, ↓isT_tuple_list, ↓isT_tuple_dict, ↓isT_list_non, ↓isT_list_bool, ↓isT_list_int, ↓isT_list_str, ↓isT_list_tuple, ↓isT_list_list, ↓isT_list_dict, ↓isT_dict_non, ↓isT_dict_bool, ↓isT_dict_int, ↓isT_dict_str, ↓isT_dict_tuple, ↓isT_dict_list, ↓isT_dict_dict, ↓slot_0, ↓slot_1, ↓slot_2, ↓slot_3, ↓slot_4, ↓slot_5, ↓slot_6, ↓slot_7, ↓slot_8, ↓slot_9, ↓slot_10, ↓slot_11, ↓slot_12, ↓slot_13, ↓slot_14, ↓slot_15, ↓slot_16, ↓slot_17, ↓set_0, ↓set_1, ↓set_2, ↓set_3, ↓set_4, ↓set_5, ↓set_6, ↓set_7, ↓set_8, ↓set_9, ↓set_10, ↓set_11, ↓set_12, ↓set_13, ↓set_14, ↓set_15, ↓set_16, ↓set_17]
      exact q
def sp_is_fraction : SpD := sp_is_ratio
theorem p_is_fraction (ds M Q E) (h : sp_is_fraction ds M Q E) : t_is_fraction K sp_is_ratio (endsOf Q E) ⟨startD N_is_fraction.length ds, M⟩ := by
  obtain ⟨d, rfl, hd, q⟩ := h
  show t_is_fraction K sp_is_ratio (endsOf Q E) ⟨[some d], M⟩
  simp only [↓dSeq_eq, ↓wnx_nx, ↓wnx_rt, ↓wnx_bk, ↓wnx_ct, ↓wnx_ex, ↓wlp_nx, ↓wlp_rt, ↓wlp_bk, ↓wlp_ct, ↓wlp_ex, ↓wex_nx, ↓wex_rt, ↓wex_bk, ↓wex_ct, ↓wex_ex, ↓en_nx, ↓en_rt, ↓en_ex, ↓forGo_nil, ↓forGo_cons, ↓dNext, ↓dBreak, ↓dCont, ↓dDrop, ↓dRet, ↓dRetN, ↓dIfS, ↓hName, ↓hNil, ↓hCons, ↓hTup, ↓dAsg, ↓dPar, ↓dTest, ↓dAnd, ↓dOr, ↓dNot, ↓dAndV, ↓dOrV, ↓dNotV, ↓dIf, ↓dVar, ↓dC, ↓dOp, ↓dUn, ↓dNil, ↓dCons, ↓dTup, ↓dLst, ↓dLstM, ↓dCall, ↓dCallK, ↓pick, ↓dCB, ↓dSeqI, ↓dFor, ↓dRange1, ↓dRange2, ↓dRaise, ↓dRaise0, ↓dIsi, ↓dIsi2, ↓oAdd, ↓oSubI, ↓oMulI, ↓oDivI, ↓oModI, ↓oPowI, ↓oSubB, ↓oCmpI, ↓oNeg, ↓oEq, ↓oNe, ↓oIsN, ↓oNotN, ↓oIsB, ↓oIx, ↓cLen, ↓lenQ, ↓D.len?, ↓cAbs, ↓cInt, ↓cMax2, ↓cMin2, ↓cGcd, ↓cSum, ↓cStr, ↓okEq_int, ↓okEq_bl, ↓okEq_non, ↓eqD_int, ↓eqD_bl, ↓eqD_intTup, ↓atI0, ↓atI1, ↓atI2, ↓atI3, ↓ty_int, ↓ty_bl, ↓ty_non, ↓ty_str, ↓ty_tup, ↓ty_lst, ↓endsOf, List.length_cons, List.length_nil, List.map_cons, List.map_nil, Bool.not_true, Bool.not_false, Bool.true_and, Bool.and_true, Bool.false_and, Bool.or_true, Bool.true_or, Bool.false_or, Bool.or_false, ite_true, ite_false, if_true, if_false, Bool.false_eq_true, reduceCtorEq, decide_true, decide_false, true_and, and_true, Bool.not_not, Option.isSome_some, if_false_left, decide_eq_true_eq, Bool.decide_eq_true, ↓isT_non_non, ↓isT_non_bool, ↓isT_non_int, ↓isT_non_str, ↓isT_non_tuple, ↓isT_non_list, ↓isT_non_dict, ↓isT_bool_non, ↓isT_bool_bool, ↓isT_bool_int, ↓isT_bool_str, ↓isT_bool_tuple, ↓isT_bool_list, ↓isT_bool_dict, ↓isT_int_non, ↓isT_int_bool, ↓isT_int_int, ↓isT_int_str, ↓isT_int_tuple, ↓isT_int_list, ↓isT_int_dict, ↓isT_str_non, ↓isT_str_bool, ↓isT_str_int, ↓isT_str_str, ↓isT_str_tuple, ↓isT_str_list, ↓isT_str_dict, ↓isT_tuple_non, ↓isT_tuple_bool, ↓isT_tuple_int, ↓isT_tuple_str, ↓isT_tuple_tuple, ↓isT_tuple_list, ↓isT_tuple_dict, ↓isT_list_non, ↓isT_list_bool, ↓isT_list_int, ↓isT_list_str, ↓isT_list_tuple, ↓isT_list_list, ↓isT_list_dict, ↓isT_dict_non, ↓isT_dict_bool, ↓isT_dict_int, ↓isT_dict_str, ↓isT_dict_tuple, ↓isT_dict_list, ↓isT_dict_dict, ↓slot_0, ↓slot_1, ↓slot_2, ↓slot_3, ↓slot_4, ↓slot_5, ↓slot_6, ↓slot_7, ↓slot_8, ↓slot_9, ↓slot_10, ↓slot_11, ↓slot_12, ↓slot_13, ↓slot_14, ↓slot_15, ↓slot_16, ↓slot_17, ↓set_0, ↓set_1, ↓set_2, ↓set_3, ↓set_4, ↓set_5, ↓set_6, ↓set_7, ↓set_8, ↓set_9, ↓set_10, ↓set_11, ↓set_12, ↓set_13, ↓set_14, ↓set_15, ↓set_16, ↓set_17, ↓t_is_fraction]
  exact ⟨d, rfl, hd, _, .refl _, q⟩
/-- fraction(top, bottom) -/
def sp_fraction (K : PySem.W.Frag) : SpD := fun ds M Q E => ∃ x y, ds = [x, y] ∧ (x.ty M).isSome = true ∧ (y.ty M).isSome = true ∧
  (if isInt x = false then E (erOne K "InvalidInteger" x) M else if isInt y = false then E (erOne K "InvalidInteger" y) M else
    ∃ a b, x = .int a ∧ y = .int b ∧ (if b = 0 then E (erOne K "DividedByZero" .non) M else szI 9000 b ∧ Q (pD (low a b)) M))
theorem p_fraction (ds M Q E) (h : sp_fraction K ds M Q E) : t_fraction K sp_lowest sp_is_whole (endsOf Q E) ⟨startD N_fraction.length ds, M⟩ := by
  obtain ⟨x, y, rfl, hx, hy, q⟩ := h
  show t_fraction K sp_lowest sp_is_whole (endsOf Q E) ⟨[some x, some y, none], M⟩
  simp only [↓dSeq_eq, ↓wnx_nx, ↓wnx_rt, ↓wnx_bk, ↓wnx_ct, ↓wnx_ex, ↓wlp_nx, ↓wlp_rt, ↓wlp_bk, ↓wlp_ct, ↓wlp_ex, ↓wex_nx, ↓wex_rt, ↓wex_bk, ↓wex_ct, ↓wex_ex, ↓en_nx, ↓en_rt, ↓en_ex, ↓forGo_nil, ↓forGo_cons, ↓dNext, ↓dBreak, ↓dCont, ↓dDrop, ↓dRet, ↓dRetN, ↓dIfS, ↓hName, ↓hNil, ↓hCons, ↓hTup, ↓dAsg, ↓dPar, ↓dTest, ↓dAnd, ↓dOr, ↓dNot, ↓dAndV, ↓dOrV, ↓dNotV, ↓dIf, ↓dVar, ↓dC, ↓dOp, ↓dUn, ↓dNil, ↓dCons, ↓dTup, ↓dLst, ↓dLstM, ↓dCall, ↓dCallK, ↓pick, ↓dCB, ↓dSeqI, ↓dFor, ↓dRange1, ↓dRange2, ↓dRaise, ↓dRaise0, ↓dIsi, ↓dIsi2, ↓oAdd, ↓oSubI, ↓oMulI, ↓oDivI, ↓oModI, ↓oPowI, ↓oSubB, ↓oCmpI, ↓oNeg, ↓oEq, ↓oNe, ↓oIsN, ↓oNotN, ↓oIsB, ↓oIx, ↓cLen, ↓lenQ, ↓D.len?, ↓cAbs, ↓cInt, ↓cMax2, ↓cMin2, ↓cGcd, ↓cSum, ↓cStr, ↓okEq_int, ↓okEq_bl, ↓okEq_non, ↓eqD_int, ↓eqD_bl, ↓eqD_intTup, ↓atI0, ↓atI1, ↓atI2, ↓atI3, ↓ty_int, ↓ty_bl, ↓ty_non, ↓ty_str, ↓ty_tup, ↓ty_lst, ↓endsOf, List.length_cons, List.length_nil, List.map_cons, List.map_nil, Bool.not_true, Bool.not_false, Bool.true_and, Bool.and_true, Bool.false_and, Bool.or_true, Bool.true_or, Bool.false_or, Bool.or_false, ite_true, ite_false, if_true, if_false, Bool.false_eq_true, reduceCtorEq, decide_true, decide_false, true_and, and_true, Bool.not_not, Option.isSome_some, if_false_left, decide_eq_true_eq, Bool.decide_eq_true, ↓isT_non_non, ↓isT_non_bool, ↓isT_non_int, ↓isT_non_str, ↓isT_non_tuple, ↓isT_non_list, ↓isT_non_dict, ↓isT_bool_non, ↓isT_bool_bool, ↓isT_bool_int, ↓isT_bool_str, ↓isT_bool_tuple, ↓isT_bool_list, ↓isT_bool_dict, ↓isT_int_non, ↓isT_int_bool, ↓isT_int_int, ↓isT_int_str, ↓isT_int_tuple, ↓isT_int_list, ↓isT_int_dict, ↓isT_str_non, ↓isT_str_bool, ↓isT_str_int, ↓isT_str_str, ↓isT_str_tuple, ↓isT_str_list, ↓isT_str_dict, ↓isT_tuple_non, ↓isT_tuple_bool, ↓isT_tuple_int, ↓isT_tuple_str, ↓isT_tuple_tuple, ↓isT_tuple_list, ↓isT_tuple_dict, ↓isT_list_non, ↓isT_list_bool, ↓isT_list_int, ↓isT_list_str, ↓isT_list_tuple, ↓isT_list_list, ↓isT_list_dict, ↓isT_dict_non, ↓isT_dict_bool, ↓isT_dict_int, ↓isT_dict_str, ↓isT_dict_tuple, ↓isT_dict_list, ↓isT_dict_dict, ↓slot_0, ↓slot_1, ↓slot_2, ↓slot_3, ↓slot_4, ↓slot_5, ↓slot_6, ↓slot_7, ↓slot_8, ↓slot_9, ↓slot_10, ↓slot_11, ↓slot_12, ↓slot_13, ↓slot_14, ↓slot_15, ↓slot_16, ↓slot_17, ↓set_0, ↓set_1, ↓set_2, ↓set_3, ↓set_4, ↓set_5, ↓set_6, ↓set_7, ↓set_8, ↓set_9, ↓set_10, ↓set_11, ↓set_12, ↓set_13, ↓set_14, ↓set_15, ↓set_16, ↓set_17, ↓t_fraction, sp_is_whole]
  refine ⟨by decide, x, rfl, hx, ?_⟩
  cases e1 : isInt x with
  | false =>
    rw [if_pos e1] at q
    simp only [↓dSeq_eq, ↓wnx_nx, ↓wnx_rt, ↓wnx_bk, ↓wnx_ct, ↓wnx_ex, ↓wlp_nx, ↓wlp_rt, ↓wlp_bk, ↓wlp_ct, ↓wlp_ex, ↓wex_nx, ↓wex_rt, ↓wex_bk, ↓wex_ct, ↓wex_ex, ↓en_nx, ↓en_rt, ↓en_ex, ↓forGo_nil, ↓forGo_cons, ↓dNext, ↓dBreak, ↓dCont, ↓dDrop, ↓dRet, ↓dRetN, ↓dIfS, ↓hName, ↓hNil, ↓hCons, ↓hTup, ↓dAsg, ↓dPar, ↓dTest, ↓dAnd, ↓dOr, ↓dNot, ↓dAndV, ↓dOrV, ↓dNotV, ↓dIf, ↓dVar, ↓dC, ↓dOp, ↓dUn, ↓dNil, ↓dCons, ↓dTup, ↓dLst, ↓dLstM, ↓dCall, ↓dCallK, ↓pick, ↓dCB, ↓dSeqI, ↓dFor, ↓dRange1, ↓dRange2, ↓dRaise, ↓dRaise0, ↓dIsi, ↓dIsi2, ↓oAdd, ↓oSubI, ↓oMulI, ↓oDivI, ↓oModI, ↓oPowI, ↓oSubB, ↓oCmpI, ↓oNeg, ↓oEq, ↓oNe, ↓oIsN, ↓oNotN, ↓oIsB, ↓oIx, ↓cLen, ↓lenQ, ↓D.len?, ↓cAbs, ↓cInt, ↓cMax2, ↓cMin2, ↓cGcd, ↓cSum, ↓cStr, ↓okEq_int, ↓okEq_bl, ↓okEq_non, ↓eqD_int, ↓eqD_bl, ↓eqD_intTup, ↓atI0, ↓atI1, ↓atI2, ↓atI3, ↓ty_int, ↓ty_bl, ↓ty_non, ↓ty_str, ↓ty_tup, ↓ty_lst, ↓endsOf, List.length_cons, List.length_nil, List.map_cons, List.map_nil, Bool.not_true, Bool.not_false, Bool.true_and, Bool.and_true, Bool.false_and, Bool.or_true, Bool.true_or, Bool.false_or, Bool.or_false, ite_true, ite_false, if_true, if_false, Bool.false_eq_true, reduceCtorEq, decide_true, decide_false, true_and, and_true, Bool.not_not, Option.isSome_some, if_false_left, decide_eq_true_eq, Bool.decide_eq_true, ↓isT_non_non, ↓isT_non_bool, ↓isT_non_int, ↓isT_non_str, ↓isT_non_tuple, ↓isT_non_list, ↓isT_non_dict, ↓isT_bool_non, ↓isT_bool_bool, ↓isT_bool_int, ↓isT_bool_str, ↓isT_bool_tuple, ↓isT_bool_list, ↓isT_bool_dict, ↓isT_int_non, ↓isT_int_bool, ↓isT_int_int, ↓isT_int_str, ↓isT_int_tuple, ↓isT_int_list, ↓isT_int_dict, ↓isT_str_non, ↓isT_str_bool, ↓isT_str_int, ↓isT_str_str, ↓isT_str_tuple, ↓isT_str_list, ↓isT_str_dict, ↓isT_tuple_non, ↓isT_tuple_bool, ↓isT_tuple_int, ↓isT_tuple_str, ↓isT_tuple_tuple, ↓isT_tuple_list, ↓isT_tuple_dict, ↓isT_list_non, ↓isT_list_bool, ↓isT_list_int, ↓isT_list_str, ↓isT_list_tuple, ↓isT_list_list, ↓isT_list_dict, ↓isT_dict_non, ↓isT_dict_bool, ↓isT_dict_int, ↓isT_dict_str, ↓isT_dict_tuple, ↓isT_dict_list, ↓isT_dict_dict, ↓slot_0, ↓slot_1, ↓slot_2, ↓slot_3, ↓slot_4, ↓slot_5, ↓slot_6, ↓slot_7, ↓slot_8, ↓slot_9, ↓slot_10, ↓slot_11, ↓slot_12, ↓slot_13, ↓slot_14, ↓slot_15, ↓slot_16, ↓slot_17, ↓set_0, ↓set_1, ↓set_2, ↓set_3, ↓set_4, ↓set_5, ↓set_6, ↓set_7, ↓set_8, ↓set_9, ↓set_10, ↓set_11, ↓set_12, ↓set_13, ↓set_14, ↓set_15, ↓set_16, ↓set_17]
    exact q
  | true =>
    rw [if_neg (by rw [e1]; decide)] at q
    simp only [↓dSeq_eq, ↓wnx_nx, ↓wnx_rt, ↓wnx_bk, ↓wnx_ct, ↓wnx_ex, ↓wlp_nx, ↓wlp_rt, ↓wlp_bk, ↓wlp_ct, ↓wlp_ex, ↓wex_nx, ↓wex_rt, ↓wex_bk, ↓wex_ct, ↓wex_ex, ↓en_nx, ↓en_rt, ↓en_ex, ↓forGo_nil, ↓forGo_cons, ↓dNext, ↓dBreak, ↓dCont, ↓dDrop, ↓dRet, ↓dRetN, ↓dIfS, ↓hName, ↓hNil, ↓hCons, ↓hTup, ↓dAsg, ↓dPar, ↓dTest, ↓dAnd, ↓dOr, ↓dNot, ↓dAndV, ↓dOrV, ↓dNotV, ↓dIf, ↓dVar, ↓dC, ↓dOp, ↓dUn, ↓dNil, ↓dCons, ↓dTup, ↓dLst, ↓dLstM, ↓dCall, ↓dCallK, ↓pick, ↓dCB, ↓dSeqI, ↓dFor, ↓dRange1, ↓dRange2, ↓dRaise, ↓dRaise0, ↓dIsi, ↓dIsi2, ↓oAdd, ↓oSubI, ↓oMulI, ↓oDivI, ↓oModI, ↓oPowI, ↓oSubB, ↓oCmpI, ↓oNeg, ↓oEq, ↓oNe, ↓oIsN, ↓oNotN, ↓oIsB, ↓oIx, ↓cLen, ↓lenQ, ↓D.len?, ↓cAbs, ↓cInt, ↓cMax2, ↓cMin2, ↓cGcd, ↓cSum, ↓cStr, ↓okEq_int, ↓okEq_bl, ↓okEq_non, ↓eqD_int, ↓eqD_bl, ↓eqD_intTup, ↓atI0, ↓atI1, ↓atI2, ↓atI3, ↓ty_int, ↓ty_bl, ↓ty_non, ↓ty_str, ↓ty_tup, ↓ty_lst, ↓endsOf, List.length_cons, List.length_nil, List.map_cons, List.map_nil, Bool.not_true, Bool.not_false, Bool.true_and, Bool.and_true, Bool.false_and, Bool.or_true, Bool.true_or, Bool.false_or, Bool.or_false, ite_true, ite_false, if_true, if_false, Bool.false_eq_true, reduceCtorEq, decide_true, decide_false, true_and, and_true, Bool.not_not, Option.isSome_some, if_false_left, decide_eq_true_eq, Bool.decide_eq_true, ↓isT_non_non, ↓isT_non_bool, ↓isT_non_int, ↓isT_non_str, ↓isT_non_tuple, ↓isT_non_list, ↓isT_non_dict, ↓isT_bool_non, ↓isT_bool_bool, ↓isT_bool_int, ↓isT_bool_str, ↓isT_bool_tuple, ↓isT_bool_list, ↓isT_bool_dict, ↓isT_int_non, ↓isT_int_bool, ↓isT_int_int, ↓isT_int_str, ↓isT_int_tuple, ↓isT_int_list, ↓isT_int_dict, ↓isT_str_non, ↓isT_str_bool, ↓isT_str_int, ↓isT_str_str, ↓isT_str_tuple, ↓isT_str_list, ↓isT_str_dict, ↓isT_tuple_non, ↓isT_tuple_bool, ↓isT_tuple_int, ↓isT_tuple_str, ↓isT_tuple_tuple, ↓isT_tuple_list, ↓isT_tuple_dict, ↓isT_list_non, ↓isT_list_bool, ↓isT_list_int, ↓isT_list_str, ↓isT_list_tuple, ↓isT_list_list, ↓isT_list_dict, ↓isT_dict_non, ↓isT_dict_bool, ↓isT_dict_int, ↓isT_dict_str, ↓isT_dict_tuple, ↓isT_dict_list, ↓isT_dict_dict, ↓slot_0, ↓slot_1, ↓slot_2, ↓slot_3, ↓slot_4, ↓slot_5, ↓slot_6, ↓slot_7, ↓slot_8, ↓slot_9, ↓slot_10, ↓slot_11, ↓slot_12, ↓slot_13, ↓slot_14, ↓slot_15, ↓slot_16, ↓slot_17, ↓set_0, ↓set_1, ↓set_2, ↓set_3, ↓set_4, ↓set_5, ↓set_6, ↓set_7, ↓set_8, ↓set_9, ↓set_10, ↓set_11, ↓set_12, ↓set_13, ↓set_14, ↓set_15, ↓set_16, ↓set_17]
    refine ⟨y, rfl, hy, ?_⟩
    cases e2 : isInt y with
    | false =>
      rw [if_pos e2] at q
      simp only [↓dSeq_eq, ↓wnx_nx, ↓wnx_rt, ↓wnx_bk, ↓wnx_ct, ↓wnx_ex, ↓wlp_nx, ↓wlp_rt, ↓wlp_bk, ↓wlp_ct, ↓wlp_ex, ↓wex_nx, ↓wex_rt, ↓wex_bk, ↓wex_ct, ↓wex_ex, ↓en_nx, ↓en_rt, ↓en_ex, ↓forGo_nil, ↓forGo_cons, ↓dNext, ↓dBreak, ↓dCont, ↓dDrop, ↓dRet, ↓dRetN, ↓dIfS, ↓hName, ↓hNil, ↓hCons, ↓hTup, ↓dAsg, ↓dPar, ↓dTest, ↓dAnd, ↓dOr, ↓dNot, ↓dAndV, ↓dOrV, ↓dNotV, ↓dIf, ↓dVar, ↓dC, ↓dOp, ↓dUn, ↓dNil, ↓dCons, ↓dTup, ↓dLst, ↓dLstM, ↓dCall, ↓dCallK, ↓pick, ↓dCB, ↓dSeqI, ↓dFor, ↓dRange1, ↓dRange2, ↓dRaise, ↓dRaise0, ↓dIsi, ↓dIsi2, ↓oAdd, ↓oSubI, ↓oMulI, ↓oDivI, ↓oModI, ↓oPowI, ↓oSubB, ↓oCmpI, ↓oNeg, ↓oEq, ↓oNe, ↓oIsN, ↓oNotN, ↓oIsB, ↓oIx, ↓cLen, ↓lenQ, ↓D.len?, ↓cAbs, ↓cInt, ↓cMax2, ↓cMin2, ↓cGcd, ↓cSum, ↓cStr, ↓okEq_int, ↓okEq_bl, ↓okEq_non, ↓eqD_int, ↓eqD_bl, ↓eqD_intTup, ↓atI0, ↓atI1, ↓atI2, ↓atI3, ↓ty_int, ↓ty_bl, ↓ty_non, ↓ty_str, ↓ty_tup, ↓ty_lst, ↓endsOf, List.length_cons, List.length_nil, List.map_cons, List.map_nil, Bool.not_true, Bool.not_false, Bool.true_and, Bool.and_true, Bool.false_and, Bool.or_true, Bool.true_or, Bool.false_or, Bool.or_false, ite_true, ite_false, if_true, if_false, Bool.false_eq_true, reduceCtorEq, decide_true, decide_false, true_and, and_true, Bool.not_not, Option.isSome_some, if_false_left, decide_eq_true_eq, Bool.decide_eq_true, ↓isT_non_non, ↓isT_non_bool, ↓isT_non_int, ↓isT_non_str, ↓isT_non_tuple, ↓isT_non_list, ↓isT_non_dict, ↓isT_bool_non, ↓isT_bool_bool, ↓isT_bool_int, ↓isT_bool_str, ↓isT_bool_tuple, ↓isT_bool_list, ↓isT_bool_dict, ↓isT_int_non, ↓isT_int_bool, ↓isT_int_int, ↓isT_int_str, ↓isT_int_tuple, ↓isT_int_list, ↓isT_int_dict, ↓isT_str_non, ↓isT_str_bool, ↓isT_str_int, ↓isT_str_str, ↓isT_str_tuple, ↓isT_str_list, ↓isT_str_dict, ↓isT_tuple_non, ↓isT_tuple_bool, ↓isT_tuple_int, ↓isT_tuple_str, ↓isT_tuple_tuple, ↓isT_tuple_list, ↓isT_tuple_dict, ↓isT_list_non, ↓isT_list_bool, ↓isT_list_int, ↓isT_list_str, ↓isT_list_tuple, ↓isT_list_list, ↓isT_list_dict, ↓isT_dict_non, ↓isT_dict_bool, ↓isT_dict_int, ↓isT_dict_str, ↓isT_dict_tuple, ↓isT_dict_list, ↓isT_dict_dict, ↓slot_0, ↓slot_1, ↓slot_2, ↓slot_3, ↓slot_4, ↓slot_5, ↓slot_6, ↓slot_7, ↓slot_8, ↓slot_9, ↓slot_10, ↓slot_11, ↓slot_12, ↓slot_13, ↓slot_14, ↓slot_15, ↓slot_16, ↓slot_17, ↓set_0, ↓set_1, ↓set_2, ↓set_3, ↓set_4, ↓set_5, ↓set_6, ↓set_7, ↓set_8, ↓set_9, ↓set_10, ↓set_11, ↓set_12, ↓set_13, ↓set_14, ↓set_15, ↓set_16, ↓set_17]
      exact q
    | true =>
      rw [if_neg (by rw [e2]; decide)] at q
      obtain ⟨a, b, rfl, rfl, q⟩ := q
      simp only [↓dSeq_eq, ↓wnx_nx, ↓wnx_rt, ↓wnx_bk, ↓wnx_ct, ↓wnx_ex, ↓wlp_nx, ↓wlp_rt, ↓wlp_bk, ↓wlp_ct, ↓wlp_ex, ↓wex_nx, ↓wex_rt, ↓wex_bk, ↓wex_ct, ↓wex_ex, ↓en_nx, ↓en_rt, ↓en_ex, ↓forGo_nil, ↓forGo_cons, ↓dNext, ↓dBreak, ↓dCont, ↓dDrop, ↓dRet, ↓dRetN, ↓dIfS, ↓hName, ↓hNil, ↓hCons, ↓hTup, ↓dAsg, ↓dPar, ↓dTest, ↓dAnd, ↓dOr, ↓dNot, ↓dAndV, ↓dOrV, ↓dNotV, ↓dIf, ↓dVar, ↓dC, ↓dOp, ↓dUn, ↓dNil, ↓dCons, ↓dTup, ↓dLst, ↓dLstM, ↓dCall, ↓dCallK, ↓pick, ↓dCB, ↓dSeqI, ↓dFor, ↓dRange1, ↓dRange2, ↓dRaise, ↓dRaise0, ↓dIsi, ↓dIsi2, ↓oAdd, ↓oSubI, ↓oMulI, ↓oDivI, ↓oModI, ↓oPowI, ↓oSubB, ↓oCmpI, ↓oNeg, ↓oEq, ↓oNe, ↓oIsN, ↓oNotN, ↓oIsB, ↓oIx, ↓cLen, ↓lenQ, ↓D.len?, ↓cAbs, ↓cInt, ↓cMax2, ↓cMin2, ↓cGcd, ↓cSum, ↓cStr, ↓okEq_int, ↓okEq_bl, ↓okEq_non, ↓eqD_int, ↓eqD_bl, ↓eqD_intTup, ↓atI0, ↓atI1, ↓atI2, ↓atI3, ↓ty_int, ↓ty_bl, ↓ty_non, ↓ty_str, ↓ty_tup, ↓ty_lst, ↓endsOf, List.length_cons, List.length_nil, List.map_cons, List.map_nil, Bool.not_true, Bool.not_false, Bool.true_and, Bool.and_true, Bool.false_and, Bool.or_true, Bool.true_or, Bool.false_or, Bool.or_false, ite_true, ite_false, if_true, if_false, Bool.false_eq_true, reduceCtorEq, decide_true, decide_false, true_and, and_true, Bool.not_not, Option.isSome_some, if_false_left, decide_eq_true_eq, Bool.decide_eq_true, ↓isT_non_non, ↓isT_non_bool, ↓isT_non_int, ↓isT_non_str, ↓isT_non_tuple, ↓isT_non_list, ↓isT_non_dict, ↓isT_bool_non, ↓isT_bool_bool, ↓isT_bool_int, ↓isT_bool_str, ↓isT_bool_tuple, ↓isT_bool_list, ↓isT_bool_dict, ↓isT_int_non, ↓isT_int_bool, ↓isT_int_int, ↓isT_int_str, ↓isT_int_tuple, ↓isT_int_list, ↓isT_int_dict, ↓isT_str_non, ↓isT_str_bool, ↓isT_str_int, ↓isT_str_str, ↓isT_str_tuple, ↓isT_str_list, ↓isT_str_dict, ↓isT_tuple_non, ↓isT_tuple_bool, ↓isT_tuple_int, ↓isT_tuple_str, ↓isT_tuple_tuple, ↓isT_tuple_list, ↓isT_tuple_dict, ↓isT_list_non, ↓isT_list_bool, ↓isT_list_int, ↓isT_list_str, ↓isT_list_tuple, ↓isT_list_list, ↓isT_list_dict, ↓isT_dict_non, ↓isT_dict_bool, ↓isT_dict_int, ↓isT_dict_str, ↓isT_dict_tuple, ↓isT_dict_list, ↓isT_dict_dict, ↓slot_0, ↓slot_1, ↓slot_2, ↓slot_3, ↓slot_4, ↓slot_5, ↓slot_6, ↓slot_7, ↓slot_8, ↓slot_9, ↓slot_10, ↓slot_11, ↓slot_12, ↓slot_13, ↓slot_14, ↓slot_15, ↓slot_16, ↓slot_17, ↓set_0, ↓set_1, ↓set_2, ↓set_3, ↓set_4, ↓set_5, ↓set_6, ↓set_7, ↓set_8, ↓set_9, ↓set_10, ↓set_11, ↓set_12, ↓set_13, ↓set_14, ↓set_15, ↓set_16, ↓set_17]
      by_cases h0 : b = 0
      · rw [if_pos h0] at q ⊢
        exact q
      · rw [if_neg h0] at q ⊢
        exact ⟨a, b, rfl, h0, q.1, _, .refl _, q.2⟩
/-- the five -/
def sp_five (K : PySem.W.Frag) (f : Int × Int → Int × Int → (D → Prop) → (Er → Prop) → Prop) : SpD := fun ds M Q E => ∃ x y, ds = [x, y] ∧ known M x ∧ known M y ∧
  (if isFr x = false then E (erOne K "InvalidFraction" x) M else if isFr y = false then E (erOne K "InvalidFraction" y) M else ∃ p q, x = pD p ∧ y = pD q ∧ Fr 4400 p ∧ Fr 4400 q ∧ f p q (fun d => Q d M) fun e => E e M)
def f_plus (K : PySem.W.Frag) : Int × Int → Int × Int → (D → Prop) → (Er → Prop) → Prop := fun p q R _ => R (pD (plusP p q))
def sp_plus (K : PySem.W.Frag) : SpD := sp_five K (f_plus K)
def f_minus (K : PySem.W.Frag) : Int × Int → Int × Int → (D → Prop) → (Er → Prop) → Prop := fun p q R _ => R (pD (minusP p q))
def sp_minus (K : PySem.W.Frag) : SpD := sp_five K (f_minus K)
def f_times (K : PySem.W.Frag) : Int × Int → Int × Int → (D → Prop) → (Er → Prop) → Prop := fun p q R _ => R (pD (timesP p q))
def sp_times (K : PySem.W.Frag) : SpD := sp_five K (f_times K)
def f_over (K : PySem.W.Frag) : Int × Int → Int × Int → (D → Prop) → (Er → Prop) → Prop := fun p q R E => if q.1 = 0 then E (erOne K "DividedByZero" .non) else R (pD (overP p q))
def sp_over (K : PySem.W.Frag) : SpD := sp_five K (f_over K)
def f_order (K : PySem.W.Frag) : Int × Int → Int × Int → (D → Prop) → (Er → Prop) → Prop := fun p q R _ => R (.int (ordP p q))
def sp_order (K : PySem.W.Frag) : SpD := sp_five K (f_order K)
theorem five_start {f : Int × Int → Int × Int → (D → Prop) → (Er → Prop) → Prop} {M : Mst} {Q : D → Mst → Prop} {E : Er → Mst → Prop} {R : D → Mst → Prop} {x y : D} (hx : known M x) (hy : known M y)
    (h : (if isFr x = false then E (erOne K "InvalidFraction" x) M else if isFr y = false then E (erOne K "InvalidFraction" y) M else ∃ p q, x = pD p ∧ y = pD q ∧ Fr 4400 p ∧ Fr 4400 q ∧ f p q (fun d => Q d M) fun e => E e M))
    (hr : (∃ p q, x = pD p ∧ y = pD q ∧ Fr 4400 p ∧ Fr 4400 q ∧ f p q (fun d => Q d M) fun e => E e M) → R .non M) : sp_check_fractions K [x, y] M R E := by
  refine ⟨x, y, rfl, hx, hy, ?_⟩
  by_cases e1 : isFr x = false
  · rw [if_pos e1] at h ⊢; exact h
  · rw [if_neg e1] at h ⊢
    by_cases e2 : isFr y = false
    · rw [if_pos e2] at h ⊢; exact h
    · rw [if_neg e2] at h ⊢; exact hr h
theorem p_plus (ds M Q E) (h : sp_plus K ds M Q E) : t_plus K sp_add (sp_check_fractions K) (endsOf Q E) ⟨startD N_plus.length ds, M⟩ := by
  obtain ⟨x, y, rfl, hx, hy, q⟩ := h
  show t_plus K sp_add (sp_check_fractions K) (endsOf Q E) ⟨[some x, some y], M⟩
  simp only [↓dSeq_eq, ↓wnx_nx, ↓wnx_rt, ↓wnx_bk, ↓wnx_ct, ↓wnx_ex, ↓wlp_nx, ↓wlp_rt, ↓wlp_bk, ↓wlp_ct, ↓wlp_ex, ↓wex_nx, ↓wex_rt, ↓wex_bk, ↓wex_ct, ↓wex_ex, ↓en_nx, ↓en_rt, ↓en_ex, ↓forGo_nil, ↓forGo_cons, ↓dNext, ↓dBreak, ↓dCont, ↓dDrop, ↓dRet, ↓dRetN, ↓dIfS, ↓hName, ↓hNil, ↓hCons, ↓hTup, ↓dAsg, ↓dPar, ↓dTest, ↓dAnd, ↓dOr, ↓dNot, ↓dAndV, ↓dOrV, ↓dNotV, ↓dIf, ↓dVar, ↓dC, ↓dOp, ↓dUn, ↓dNil, ↓dCons, ↓dTup, ↓dLst, ↓dLstM, ↓dCall, ↓dCallK, ↓pick, ↓dCB, ↓dSeqI, ↓dFor, ↓dRange1, ↓dRange2, ↓dRaise, ↓dRaise0, ↓dIsi, ↓dIsi2, ↓oAdd, ↓oSubI, ↓oMulI, ↓oDivI, ↓oModI, ↓oPowI, ↓oSubB, ↓oCmpI, ↓oNeg, ↓oEq, ↓oNe, ↓oIsN, ↓oNotN, ↓oIsB, ↓oIx, ↓cLen, ↓lenQ, ↓D.len?, ↓cAbs, ↓cInt, ↓cMax2, ↓cMin2, ↓cGcd, ↓cSum, ↓cStr, ↓okEq_int, ↓okEq_bl, ↓okEq_non, ↓eqD_int, ↓eqD_bl, ↓eqD_intTup, ↓atI0, ↓atI1, ↓atI2, ↓atI3, ↓ty_int, ↓ty_bl, ↓ty_non, ↓ty_str, ↓ty_tup, ↓ty_lst, ↓endsOf, List.length_cons, List.length_nil, List.map_cons, List.map_nil, Bool.not_true, Bool.not_false, Bool.true_and, Bool.and_true, Bool.false_and, Bool.or_true, Bool.true_or, Bool.false_or, Bool.or_false, ite_true, ite_false, if_true, if_false, Bool.false_eq_true, reduceCtorEq, decide_true, decide_false, true_and, and_true, Bool.not_not, Option.isSome_some, if_false_left, decide_eq_true_eq, Bool.decide_eq_true, ↓isT_non_non, ↓isT_non_bool, ↓isT_non_int, ↓isT_non_str, ↓isT_non_tuple, ↓isT_non_list, ↓isT_non_dict, ↓isT_bool_non, ↓isT_bool_bool, ↓isT_bool_int, ↓isT_bool_str, ↓isT_bool_tuple, ↓isT_bool_list, ↓isT_bool_dict, ↓isT_int_non, ↓isT_int_bool, ↓isT_int_int, ↓isT_int_str, ↓isT_int_tuple, ↓isT_int_list, ↓isT_int_dict, ↓isT_str_non, ↓isT_str_bool, ↓isT_str_int, ↓isT_str_str, ↓isT_str_tuple, ↓isT_str_list, ↓isT_str_dict, ↓isT_tuple_non, ↓isT_tuple_bool, ↓isT_tuple_int, ↓isT_tuple_str, ↓isT_tuple_tuple, ↓isT_tuple_list, ↓isT_tuple_dict, ↓isT_list_non, ↓isT_list_bool, ↓isT_list_int, ↓isT_list_str, ↓isT_list_tuple, ↓isT_list_list, ↓isT_list_dict, ↓isT_dict_non, ↓isT_dict_bool, ↓isT_dict_int, ↓isT_dict_str, ↓isT_dict_tuple, ↓isT_dict_list, ↓isT_dict_dict, ↓slot_0, ↓slot_1, ↓slot_2, ↓slot_3, ↓slot_4, ↓slot_5, ↓slot_6, ↓slot_7, ↓slot_8, ↓slot_9, ↓slot_10, ↓slot_11, ↓slot_12, ↓slot_13, ↓slot_14, ↓slot_15, ↓slot_16, ↓slot_17, ↓set_0, ↓set_1, ↓set_2, ↓set_3, ↓set_4, ↓set_5, ↓set_6, ↓set_7, ↓set_8, ↓set_9, ↓set_10, ↓set_11, ↓set_12, ↓set_13, ↓set_14, ↓set_15, ↓set_16, ↓set_17, ↓t_plus]
  refine five_start (f := f_plus K) (Q := Q) hx hy q fun ⟨p, r, h1, h2, h3, h4, h5⟩ => ?_
  exact ⟨p, r, ⟨by rw [h1, h2], h3, h4⟩, _, .refl _, h5⟩
theorem p_minus (ds M Q E) (h : sp_minus K ds M Q E) : t_minus K sp_sub (sp_check_fractions K) (endsOf Q E) ⟨startD N_minus.length ds, M⟩ := by
  obtain ⟨x, y, rfl, hx, hy, q⟩ := h
  show t_minus K sp_sub (sp_check_fractions K) (endsOf Q E) ⟨[some x, some y], M⟩
  simp only [↓dSeq_eq, ↓wnx_nx, ↓wnx_rt, ↓wnx_bk, ↓wnx_ct, ↓wnx_ex, ↓wlp_nx, ↓wlp_rt, ↓wlp_bk, ↓wlp_ct, ↓wlp_ex, ↓wex_nx, ↓wex_rt, ↓wex_bk, ↓wex_ct, ↓wex_ex, ↓en_nx, ↓en_rt, ↓en_ex, ↓forGo_nil, ↓forGo_cons, ↓dNext, ↓dBreak, ↓dCont, ↓dDrop, ↓dRet, ↓dRetN, ↓dIfS, ↓hName, ↓hNil, ↓hCons, ↓hTup, ↓dAsg, ↓dPar, ↓dTest, ↓dAnd, ↓dOr, ↓dNot, ↓dAndV, ↓dOrV, ↓dNotV, ↓dIf, ↓dVar, ↓dC, ↓dOp, ↓dUn, ↓dNil, ↓dCons, ↓dTup, ↓dLst, ↓dLstM, ↓dCall, ↓dCallK, ↓pick, ↓dCB, ↓dSeqI, ↓dFor, ↓dRange1, ↓dRange2, ↓dRaise, ↓dRaise0, ↓dIsi, ↓dIsi2, ↓oAdd, ↓oSubI, ↓oMulI, ↓oDivI, ↓oModI, ↓oPowI, ↓oSubB, ↓oCmpI, ↓oNeg, ↓oEq, ↓oNe, ↓oIsN, ↓oNotN, ↓oIsB, ↓oIx, ↓cLen, ↓lenQ, ↓D.len?, ↓cAbs, ↓cInt, ↓cMax2, ↓cMin2, ↓cGcd, ↓cSum, ↓cStr, ↓okEq_int, ↓okEq_bl, ↓okEq_non, ↓eqD_int, ↓eqD_bl, ↓eqD_intTup, ↓atI0, ↓atI1, ↓atI2, ↓atI3, ↓ty_int, ↓ty_bl, ↓ty_non, ↓ty_str, ↓ty_tup, ↓ty_lst, ↓endsOf, List.length_cons, List.length_nil, List.map_cons, List.map_nil, Bool.not_true, Bool.not_false, Bool.true_and, Bool.and_true, Bool.false_and, Bool.or_true, Bool.true_or, Bool.false_or, Bool.or_false, ite_true, ite_false, if_true, if_false, Bool.false_eq_true, reduceCtorEq, decide_true, decide_false, true_and, and_true, Bool.not_not, Option.isSome_some, if_false_left, decide_eq_true_eq, Bool.decide_eq_true, ↓isT_non_non, ↓isT_non_bool, ↓isT_non_int, ↓isT_non_str, ↓isT_non_tuple, ↓isT_non_list, ↓isT_non_dict, ↓isT_bool_non, ↓isT_bool_bool, ↓isT_bool_int, ↓isT_bool_str, ↓isT_bool_tuple, ↓isT_bool_list, ↓isT_bool_dict, ↓isT_int_non, ↓isT_int_bool, ↓isT_int_int, ↓isT_int_str, ↓isT_int_tuple, ↓isT_int_list, ↓isT_int_dict, ↓isT_str_non, ↓isT_str_bool, ↓isT_str_int, ↓isT_str_str, ↓isT_str_tuple, ↓isT_str_list, ↓isT_str_dict, ↓isT_tuple_non, ↓isT_tuple_bool, ↓isT_tuple_int, ↓isT_tuple_str, ↓isT_tuple_tuple, ↓isT_tuple_list, ↓isT_tuple_dict, ↓isT_list_non, ↓isT_list_bool, ↓isT_list_int, ↓isT_list_str, ↓isT_list_tuple, ↓isT_list_list, ↓isT_list_dict, ↓isT_dict_non, ↓isT_dict_bool, ↓isT_dict_int, ↓isT_dict_str, ↓isT_dict_tuple, ↓isT_dict_list, ↓isT_dict_dict, ↓slot_0, ↓slot_1, ↓slot_2, ↓slot_3, ↓slot_4, ↓slot_5, ↓slot_6, ↓slot_7, ↓slot_8, ↓slot_9, ↓slot_10, ↓slot_11, ↓slot_12, ↓slot_13, ↓slot_14, ↓slot_15, ↓slot_16, ↓slot_17, ↓set_0, ↓set_1, ↓set_2, ↓set_3, ↓set_4, ↓set_5, ↓set_6, ↓set_7, ↓set_8, ↓set_9, ↓set_10, ↓set_11, ↓set_12, ↓set_13, ↓set_14, ↓set_15, ↓set_16, ↓set_17, ↓t_minus]
  refine five_start (f := f_minus K) (Q := Q) hx hy q fun ⟨p, r, h1, h2, h3, h4, h5⟩ => ?_
  exact ⟨p, r, ⟨by rw [h1, h2], h3, h4⟩, _, .refl _, h5⟩
theorem p_times (ds M Q E) (h : sp_times K ds M Q E) : t_times K sp_mul (sp_check_fractions K) (endsOf Q E) ⟨startD N_times.length ds, M⟩ := by
  obtain ⟨x, y, rfl, hx, hy, q⟩ := h
  show t_times K sp_mul (sp_check_fractions K) (endsOf Q E) ⟨[some x, some y], M⟩
  simp only [↓dSeq_eq, ↓wnx_nx, ↓wnx_rt, ↓wnx_bk, ↓wnx_ct, ↓wnx_ex, ↓wlp_nx, ↓wlp_rt, ↓wlp_bk, ↓wlp_ct, ↓wlp_ex, ↓wex_nx, ↓wex_rt, ↓wex_bk, ↓wex_ct, ↓wex_ex, ↓en_nx, ↓en_rt, ↓en_ex, ↓forGo_nil, ↓forGo_cons, ↓dNext, ↓dBreak, ↓dCont, ↓dDrop, ↓dRet, ↓dRetN, ↓dIfS, ↓hName, ↓hNil, ↓hCons, ↓hTup, ↓dAsg, ↓dPar, ↓dTest, ↓dAnd, ↓dOr, ↓dNot, ↓dAndV, ↓dOrV, ↓dNotV, ↓dIf, ↓dVar, ↓dC, ↓dOp, ↓dUn, ↓dNil, ↓dCons, ↓dTup, ↓dLst, ↓dLstM, ↓dCall, ↓dCallK, ↓pick, ↓dCB, ↓dSeqI, ↓dFor, ↓dRange1, ↓dRange2, ↓dRaise, ↓dRaise0, ↓dIsi, ↓dIsi2, ↓oAdd, ↓oSubI, ↓oMulI, ↓oDivI, ↓oModI, ↓oPowI, ↓oSubB, ↓oCmpI, ↓oNeg, ↓oEq, ↓oNe, ↓oIsN, ↓oNotN, ↓oIsB, ↓oIx, ↓cLen, ↓lenQ, ↓D.len?, ↓cAbs, ↓cInt, ↓cMax2, ↓cMin2, ↓cGcd, ↓cSum, ↓cStr, ↓okEq_int, ↓okEq_bl, ↓okEq_non, ↓eqD_int, ↓eqD_bl, ↓eqD_intTup, ↓atI0, ↓atI1, ↓atI2, ↓atI3, ↓ty_int, ↓ty_bl, ↓ty_non, ↓ty_str, ↓ty_tup, ↓ty_lst, ↓endsOf, List.length_cons, List.length_nil, List.map_cons, List.map_nil, Bool.not_true, Bool.not_false, Bool.true_and, Bool.and_true, Bool.false_and, Bool.or_true, Bool.true_or, Bool.false_or, Bool.or_false, ite_true, ite_false, if_true, if_false, Bool.false_eq_true, reduceCtorEq, decide_true, decide_false, true_and, and_true, Bool.not_not, Option.isSome_some, if_false_left, decide_eq_true_eq, Bool.decide_eq_true, ↓isT_non_non, ↓isT_non_bool, ↓isT_non_int, ↓isT_non_str, ↓isT_non_tuple, ↓isT_non_list, ↓isT_non_dict, ↓isT_bool_non, ↓isT_bool_bool, ↓isT_bool_int, ↓isT_bool_str, ↓isT_bool_tuple, ↓isT_bool_list, ↓isT_bool_dict, ↓isT_int_non, ↓isT_int_bool, ↓isT_int_int, ↓isT_int_str, ↓isT_int_tuple, ↓isT_int_list, ↓isT_int_dict, ↓isT_str_non, ↓isT_str_bool, ↓isT_str_int, ↓isT_str_str, ↓isT_str_tuple, ↓isT_str_list, ↓isT_str_dict, ↓isT_tuple_non, ↓isT_tuple_bool, ↓isT_tuple_int, ↓isT_tuple_str, ↓isT_tuple_tuple, ↓isT_tuple_list, ↓isT_tuple_dict, ↓isT_list_non, ↓isT_list_bool, ↓isT_list_int, ↓isT_list_str, ↓isT_list_tuple, ↓isT_list_list, ↓isT_list_dict, ↓isT_dict_non, ↓isT_dict_bool, ↓isT_dict_int, ↓isT_dict_str, ↓isT_dict_tuple, ↓isT_dict_list, ↓isT_dict_dict, ↓slot_0, ↓slot_1, ↓slot_2, ↓slot_3, ↓slot_4, ↓slot_5, ↓slot_6, ↓slot_7, ↓slot_8, ↓slot_9, ↓slot_10, ↓slot_11, ↓slot_12, ↓slot_13, ↓slot_14, ↓slot_15, ↓slot_16, ↓slot_17, ↓set_0, ↓set_1, ↓set_2, ↓set_3, ↓set_4, ↓set_5, ↓set_6, ↓set_7, ↓set_8, ↓set_9, ↓set_10, ↓set_11, ↓set_12, ↓set_13, ↓set_14, ↓set_15, ↓set_16, ↓set_17, ↓t_times]
  refine five_start (f := f_times K) (Q := Q) hx hy q fun ⟨p, r, h1, h2, h3, h4, h5⟩ => ?_
  exact ⟨p, r, ⟨by rw [h1, h2], h3, h4⟩, _, .refl _, h5⟩
theorem p_over (ds M Q E) (h : sp_over K ds M Q E) : t_over K sp_div (sp_check_fractions K) (endsOf Q E) ⟨startD N_over.length ds, M⟩ := by
  obtain ⟨x, y, rfl, hx, hy, q⟩ := h
  show t_over K sp_div (sp_check_fractions K) (endsOf Q E) ⟨[some x, some y], M⟩
  simp only [↓dSeq_eq, ↓wnx_nx, ↓wnx_rt, ↓wnx_bk, ↓wnx_ct, ↓wnx_ex, ↓wlp_nx, ↓wlp_rt, ↓wlp_bk, ↓wlp_ct, ↓wlp_ex, ↓wex_nx, ↓wex_rt, ↓wex_bk, ↓wex_ct, ↓wex_ex, ↓en_nx, ↓en_rt, ↓en_ex, ↓forGo_nil, ↓forGo_cons, ↓dNext, ↓dBreak, ↓dCont, ↓dDrop, ↓dRet, ↓dRetN, ↓dIfS, ↓hName, ↓hNil, ↓hCons, ↓hTup, ↓dAsg, ↓dPar, ↓dTest, ↓dAnd, ↓dOr, ↓dNot, ↓dAndV, ↓dOrV, ↓dNotV, ↓dIf, ↓dVar, ↓dC, ↓dOp, ↓dUn, ↓dNil, ↓dCons, ↓dTup, ↓dLst, ↓dLstM, ↓dCall, ↓dCallK, ↓pick, ↓dCB, ↓dSeqI, ↓dFor, ↓dRange1, ↓dRange2, ↓dRaise, ↓dRaise0, ↓dIsi, ↓dIsi2, ↓oAdd, ↓oSubI, ↓oMulI, ↓oDivI, ↓oModI, ↓oPowI, ↓oSubB, ↓oCmpI, ↓oNeg, ↓oEq, ↓oNe, ↓oIsN, ↓oNotN, ↓oIsB, ↓oIx, ↓cLen, ↓lenQ, ↓D.len?, ↓cAbs, ↓cInt, ↓cMax2, ↓cMin2, ↓cGcd, ↓cSum, ↓cStr, ↓okEq_int, ↓okEq_bl, ↓okEq_non, ↓eqD_int, ↓eqD_bl, ↓eqD_intTup, ↓atI0, ↓atI1, ↓atI2, ↓atI3, ↓ty_int, ↓ty_bl, ↓ty_non, ↓ty_str, ↓ty_tup, ↓ty_lst, ↓endsOf, List.length_cons, List.length_nil, List.map_cons, List.map_nil, Bool.not_true, Bool.not_false, Bool.true_and, Bool.and_true, Bool.false_and, Bool.or_true, Bool.true_or, Bool.false_or, Bool.or_false, ite_true, ite_false, if_true, if_false, Bool.false_eq_true, reduceCtorEq, decide_true, decide_false, true_and, and_true, Bool.not_not, Option.isSome_some, if_false_left, decide_eq_true_eq, Bool.decide_eq_true, ↓isT_non_non, ↓isT_non_bool, ↓isT_non_int, ↓isT_non_str, ↓isT_non_tuple, ↓isT_non_list, ↓isT_non_dict, ↓isT_bool_non, ↓isT_bool_bool, ↓isT_bool_int, ↓isT_bool_str, ↓isT_bool_tuple, ↓isT_bool_list, ↓isT_bool_dict, ↓isT_int_non, ↓isT_int_bool, ↓isT_int_int, ↓isT_int_str, ↓isT_int_tuple, ↓isT_int_list, ↓isT_int_dict, ↓isT_str_non, ↓isT_str_bool, ↓isT_str_int, ↓isT_str_str, ↓isT_str_tuple, ↓isT_str_list, ↓isT_str_dict, ↓isT_tuple_non, ↓isT_tuple_bool, ↓isT_tuple_int, ↓isT_tuple_str, ↓isT_tuple_tuple, ↓isT_tuple_list, ↓isT_tuple_dict, ↓isT_list_non, ↓isT_list_bool, ↓isT_list_int, ↓isT_list_str, ↓isT_list_tuple, ↓isT_list_list, ↓isT_list_dict, ↓isT_dict_non, ↓isT_dict_bool, ↓isT_dict_int, ↓isT_dict_str, ↓isT_dict_tuple, ↓isT_dict_list, ↓isT_dict_dict, ↓slot_0, ↓slot_1, ↓slot_2, ↓slot_3, ↓slot_4, ↓slot_5, ↓slot_6, ↓slot_7, ↓slot_8, ↓slot_9, ↓slot_10, ↓slot_11, ↓slot_12, ↓slot_13, ↓slot_14, ↓slot_15, ↓slot_16, ↓slot_17, ↓set_0, ↓set_1, ↓set_2, ↓set_3, ↓set_4, ↓set_5, ↓set_6, ↓set_7, ↓set_8, ↓set_9, ↓set_10, ↓set_11, ↓set_12, ↓set_13, ↓set_14, ↓set_15, ↓set_16, ↓set_17, ↓t_over]
  refine five_start (f := f_over K) (Q := Q) hx hy q fun ⟨⟨a, b⟩, ⟨c, d⟩, h1, h2, h3, h4, h5⟩ => ?_
  subst h1 h2
  simp only [↓dSeq_eq, ↓wnx_nx, ↓wnx_rt, ↓wnx_bk, ↓wnx_ct, ↓wnx_ex, ↓wlp_nx, ↓wlp_rt, ↓wlp_bk, ↓wlp_ct, ↓wlp_ex, ↓wex_nx, ↓wex_rt, ↓wex_bk, ↓wex_ct, ↓wex_ex, ↓en_nx, ↓en_rt, ↓en_ex, ↓forGo_nil, ↓forGo_cons, ↓dNext, ↓dBreak, ↓dCont, ↓dDrop, ↓dRet, ↓dRetN, ↓dIfS, ↓hName, ↓hNil, ↓hCons, ↓hTup, ↓dAsg, ↓dPar, ↓dTest, ↓dAnd, ↓dOr, ↓dNot, ↓dAndV, ↓dOrV, ↓dNotV, ↓dIf, ↓dVar, ↓dC, ↓dOp, ↓dUn, ↓dNil, ↓dCons, ↓dTup, ↓dLst, ↓dLstM, ↓dCall, ↓dCallK, ↓pick, ↓dCB, ↓dSeqI, ↓dFor, ↓dRange1, ↓dRange2, ↓dRaise, ↓dRaise0, ↓dIsi, ↓dIsi2, ↓oAdd, ↓oSubI, ↓oMulI, ↓oDivI, ↓oModI, ↓oPowI, ↓oSubB, ↓oCmpI, ↓oNeg, ↓oEq, ↓oNe, ↓oIsN, ↓oNotN, ↓oIsB, ↓oIx, ↓cLen, ↓lenQ, ↓D.len?, ↓cAbs, ↓cInt, ↓cMax2, ↓cMin2, ↓cGcd, ↓cSum, ↓cStr, ↓okEq_int, ↓okEq_bl, ↓okEq_non, ↓eqD_int, ↓eqD_bl, ↓eqD_intTup, ↓atI0, ↓atI1, ↓atI2, ↓atI3, ↓ty_int, ↓ty_bl, ↓ty_non, ↓ty_str, ↓ty_tup, ↓ty_lst, ↓endsOf, List.length_cons, List.length_nil, List.map_cons, List.map_nil, Bool.not_true, Bool.not_false, Bool.true_and, Bool.and_true, Bool.false_and, Bool.or_true, Bool.true_or, Bool.false_or, Bool.or_false, ite_true, ite_false, if_true, if_false, Bool.false_eq_true, reduceCtorEq, decide_true, decide_false, true_and, and_true, Bool.not_not, Option.isSome_some, if_false_left, decide_eq_true_eq, Bool.decide_eq_true, ↓isT_non_non, ↓isT_non_bool, ↓isT_non_int, ↓isT_non_str, ↓isT_non_tuple, ↓isT_non_list, ↓isT_non_dict, ↓isT_bool_non, ↓isT_bool_bool, ↓isT_bool_int, ↓isT_bool_str, ↓isT_bool_tuple, ↓isT_bool_list, ↓isT_bool_dict, ↓isT_int_non, ↓isT_int_bool, ↓isT_int_int, ↓isT_int_str, ↓isT_int_tuple, ↓isT_int_list, ↓isT_int_dict, ↓isT_str_non, ↓isT_str_bool, ↓isT_str_int, ↓isT_str_str, ↓isT_str_tuple, ↓isT_str_list, ↓isT_str_dict, ↓isT_tuple_non, ↓isT_tuple_bool, ↓isT_tuple_int, ↓isT_tuple_str, ↓isT_tuple_tuple, ↓isT_tuple_list, ↓isT_tuple_dict, ↓isT_list_non, ↓isT_list_bool, ↓isT_list_int, ↓isT_list_str, ↓isT_list_tuple, ↓isT_list_list, ↓isT_list_dict, ↓isT_dict_non, ↓isT_dict_bool, ↓isT_dict_int, ↓isT_dict_str, ↓isT_dict_tuple, ↓isT_dict_list, ↓isT_dict_dict, ↓slot_0, ↓slot_1, ↓slot_2, ↓slot_3, ↓slot_4, ↓slot_5, ↓slot_6, ↓slot_7, ↓slot_8, ↓slot_9, ↓slot_10, ↓slot_11, ↓slot_12, ↓slot_13, ↓slot_14, ↓slot_15, ↓slot_16, ↓slot_17, ↓set_0, ↓set_1, ↓set_2, ↓set_3, ↓set_4, ↓set_5, ↓set_6, ↓set_7, ↓set_8, ↓set_9, ↓set_10, ↓set_11, ↓set_12, ↓set_13, ↓set_14, ↓set_15, ↓set_16, ↓set_17, pD]
  have h6 : if c = 0 then E (erOne K "DividedByZero" .non) M else Q (pD (overP (a, b) (c, d))) M := h5
  by_cases h0 : c = 0
  · rw [if_pos h0] at h6 ⊢; exact h6
  · rw [if_neg h0] at h6 ⊢
    exact ⟨(a, b), (c, d), ⟨rfl, h3, h4⟩, h0, _, .refl _, h6⟩
theorem p_order (ds M Q E) (h : sp_order K ds M Q E) : t_order K sp_compared (sp_check_fractions K) (endsOf Q E) ⟨startD N_order.length ds, M⟩ := by
  obtain ⟨x, y, rfl, hx, hy, q⟩ := h
  show t_order K sp_compared (sp_check_fractions K) (endsOf Q E) ⟨[some x, some y], M⟩
  simp only [↓dSeq_eq, ↓wnx_nx, ↓wnx_rt, ↓wnx_bk, ↓wnx_ct, ↓wnx_ex, ↓wlp_nx, ↓wlp_rt, ↓wlp_bk, ↓wlp_ct, ↓wlp_ex, ↓wex_nx, ↓wex_rt, ↓wex_bk, ↓wex_ct, ↓wex_ex, ↓en_nx, ↓en_rt, ↓en_ex, ↓forGo_nil, ↓forGo_cons, ↓dNext, ↓dBreak, ↓dCont, ↓dDrop, ↓dRet, ↓dRetN, ↓dIfS, ↓hName, ↓hNil, ↓hCons, ↓hTup, ↓dAsg, ↓dPar, ↓dTest, ↓dAnd, ↓dOr, ↓dNot, ↓dAndV, ↓dOrV, ↓dNotV, ↓dIf, ↓dVar, ↓dC, ↓dOp, ↓dUn, ↓dNil, ↓dCons, ↓dTup, ↓dLst, ↓dLstM, ↓dCall, ↓dCallK, ↓pick, ↓dCB, ↓dSeqI, ↓dFor, ↓dRange1, ↓dRange2, ↓dRaise, ↓dRaise0, ↓dIsi, ↓dIsi2, ↓oAdd, ↓oSubI, ↓oMulI, ↓oDivI, ↓oModI, ↓oPowI, ↓oSubB, ↓oCmpI, ↓oNeg, ↓oEq, ↓oNe, ↓oIsN, ↓oNotN, ↓oIsB, ↓oIx, ↓cLen, ↓lenQ, ↓D.len?, ↓cAbs, ↓cInt, ↓cMax2, ↓cMin2, ↓cGcd, ↓cSum, ↓cStr, ↓okEq_int, ↓okEq_bl, ↓okEq_non, ↓eqD_int, ↓eqD_bl, ↓eqD_intTup, ↓atI0, ↓atI1, ↓atI2, ↓atI3, ↓ty_int, ↓ty_bl, ↓ty_non, ↓ty_str, ↓ty_tup, ↓ty_lst, ↓endsOf, List.length_cons, List.length_nil, List.map_cons, List.map_nil, Bool.not_true, Bool.not_false, Bool.true_and, Bool.and_true, Bool.false_and, Bool.or_true, Bool.true_or, Bool.false_or, Bool.or_false, ite_true, ite_false, if_true, if_false, Bool.false_eq_true, reduceCtorEq, decide_true, decide_false, true_and, and_true, Bool.not_not, Option.isSome_some, if_false_left, decide_eq_true_eq, Bool.decide_eq_true, ↓isT_non_non, ↓isT_non_bool, ↓isT_non_int, ↓isT_non_str, ↓isT_non_tuple, ↓isT_non_list, ↓isT_non_dict, ↓isT_bool_non, ↓isT_bool_bool, ↓isT_bool_int, ↓isT_bool_str, ↓isT_bool_tuple, ↓isT_bool_list, ↓isT_bool_dict, ↓isT_int_non, ↓isT_int_bool, ↓isT_int_int, ↓isT_int_str, ↓isT_int_tuple, ↓isT_int_list, ↓isT_int_dict, ↓isT_str_non, ↓isT_str_bool, ↓isT_str_int, ↓isT_str_str, ↓isT_str_tuple, ↓isT_str_list, ↓isT_str_dict, ↓isT_tuple_non, ↓isT_tuple_bool, ↓isT_tuple_int, ↓isT_tuple_str, ↓isT_tuple_tuple, ↓isT_tuple_list, ↓isT_tuple_dict, ↓isT_list_non, ↓isT_list_bool, ↓isT_list_int, ↓isT_list_str, ↓isT_list_tuple, ↓isT_list_list, ↓isT_list_dict, ↓isT_dict_non, ↓isT_dict_bool, ↓isT_dict_int, ↓isT_dict_str, ↓isT_dict_tuple, ↓isT_dict_list, ↓isT_dict_dict, ↓slot_0, ↓slot_1, ↓slot_2, ↓slot_3, ↓slot_4, ↓slot_5, ↓slot_6, ↓slot_7, ↓slot_8, ↓slot_9, ↓slot_10, ↓slot_11, ↓slot_12, ↓slot_13, ↓slot_14, ↓slot_15, ↓slot_16, ↓slot_17, ↓set_0, ↓set_1, ↓set_2, ↓set_3, ↓set_4, ↓set_5, ↓set_6, ↓set_7, ↓set_8, ↓set_9, ↓set_10, ↓set_11, ↓set_12, ↓set_13, ↓set_14, ↓set_15, ↓set_16, ↓set_17, ↓t_order]
  refine five_start (f := f_order K) (Q := Q) hx hy q fun ⟨p, r, h1, h2, h3, h4, h5⟩ => ?_
  exact ⟨p, r, ⟨by rw [h1, h2], h3, h4⟩, _, .refl _, h5⟩
end K01
end
section
set_option maxRecDepth 100000
set_option maxHeartbeats 4000000
set_option exponentiation.threshold 100
namespace K01
open PySem PySem.Spec L2 DL
variable {K : PySem.W.Frag}
/-! ### the law's cells, boxes, draws -/
theorem s32 {x : Int} (h : x.natAbs < 4294967296) : szI 60000000 x := sz60 (k := 32) h (by decide)
theorem s33 {x : Int} (h : x.natAbs < 8589934592) : szI 60000000 x := sz60 (k := 33) h (by decide)
theorem d32 {x : Int} (h : x.natAbs < 4294967296) : szI 9000 x := up_sz (j := 32) h (by decide)
theorem p64 {x : Int} (h : x.natAbs < 18446744073709551616) : x.natAbs < 2 ^ 64 := h
theorem n64 {m c : Int} (h1 : 0 ≤ m) (h2 : m < 4294967296) (h0 : 0 ≤ c) (hc : c + 1 ≤ 4294967296) : (m + 15487033 * (c + 1) + 179424731).natAbs < 2 ^ 64 := p64 (by omega)
theorem m64 {m c : Int} (h1 : 0 ≤ m) (h2 : m < 2147483647) (h0 : 0 ≤ c) (hc : c + 1 ≤ 4294967296) : (m * 48299 + 104759 * (c + 1)).natAbs < 2 ^ 64 := p64 (by omega)
def sp_law_cell : SpD := fun ds M Q _ => ∃ (l : List Int) (k : Nat), ds = [.scr l, .int k] ∧ k < 1000 ∧ ∀ i, Q (.int i) M
theorem atI_nat {α : Type} {l : List α} {k : Nat} {x : α} (h : l[k]? = some x) : atI l (k : Int) = some x := by
  have hl := (List.getElem?_eq_some_iff.mp h).1
  unfold atI ixN
  rw [if_pos (by omega), if_pos (by simpa using hl)]
  simpa using h
theorem p_law_cell (ds M Q E) (h : sp_law_cell ds M Q E) : t_law_cell K (endsOf Q E) ⟨startD N_law_cell.length ds, M⟩ := by
  obtain ⟨l, k, rfl, hk, q⟩ := h
  show t_law_cell K (endsOf Q E) ⟨[some (.scr l), some (.int k)], M⟩
  simp only [↓dSeq_eq, ↓wnx_nx, ↓wnx_rt, ↓wnx_bk, ↓wnx_ct, ↓wnx_ex, ↓wlp_nx, ↓wlp_rt, ↓wlp_bk, ↓wlp_ct, ↓wlp_ex, ↓wex_nx, ↓wex_rt, ↓wex_bk, ↓wex_ct, ↓wex_ex, ↓en_nx, ↓en_rt, ↓en_ex, ↓forGo_nil, ↓forGo_cons, ↓dNext, ↓dBreak, ↓dCont, ↓dDrop, ↓dRet, ↓dRetN, ↓dIfS, ↓hName, ↓hNil, ↓hCons, ↓hTup, ↓dAsg, ↓dPar, ↓dTest, ↓dAnd, ↓dOr, ↓dNot, ↓dAndV, ↓dOrV, ↓dNotV, ↓dIf, ↓dVar, ↓dC, ↓dOp, ↓dUn, ↓dNil, ↓dCons, ↓dTup, ↓dLst, ↓dLstM, ↓dCall, ↓dCallK, ↓pick, ↓dCB, ↓dSeqI, ↓dFor, ↓dRange1, ↓dRange2, ↓dRaise, ↓dRaise0, ↓dIsi, ↓dIsi2, ↓oAdd, ↓oSubI, ↓oMulI, ↓oDivI, ↓oModI, ↓oPowI, ↓oSubB, ↓oCmpI, ↓oNeg, ↓oEq, ↓oNe, ↓oIsN, ↓oNotN, ↓oIsB, ↓oIx, ↓cLen, ↓lenQ, ↓D.len?, ↓cAbs, ↓cInt, ↓cMax2, ↓cMin2, ↓cGcd, ↓cSum, ↓cStr, ↓okEq_int, ↓okEq_bl, ↓okEq_non, ↓eqD_int, ↓eqD_bl, ↓eqD_intTup, ↓atI0, ↓atI1, ↓atI2, ↓atI3, ↓ty_int, ↓ty_bl, ↓ty_non, ↓ty_str, ↓ty_tup, ↓ty_lst, ↓endsOf, List.length_cons, List.length_nil, List.map_cons, List.map_nil, Bool.not_true, Bool.not_false, Bool.true_and, Bool.and_true, Bool.false_and, Bool.or_true, Bool.true_or, Bool.false_or, Bool.or_false, ite_true, ite_false, if_true, if_false, Bool.false_eq_true, reduceCtorEq, decide_true, decide_false, true_and, and_true, Bool.not_not, Option.isSome_some, if_false_left, decide_eq_true_eq, Bool.decide_eq_true, ↓isT_non_non, ↓isT_non_bool, ↓isT_non_int, ↓isT_non_str, ↓isT_non_tuple, ↓isT_non_list, ↓isT_non_dict, ↓isT_bool_non, ↓isT_bool_bool, ↓isT_bool_int, ↓isT_bool_str, ↓isT_bool_tuple, ↓isT_bool_list, ↓isT_bool_dict, ↓isT_int_non, ↓isT_int_bool, ↓isT_int_int, ↓isT_int_str, ↓isT_int_tuple, ↓isT_int_list, ↓isT_int_dict, ↓isT_str_non, ↓isT_str_bool, ↓isT_str_int, ↓isT_str_str, ↓isT_str_tuple, ↓isT_str_list, ↓isT_str_dict, ↓isT_tuple_non, ↓isT_tuple_bool, ↓isT_tuple_int, ↓isT_tuple_str, ↓isT_tuple_tuple, ↓isT_tuple_list, ↓isT_tuple_dict, ↓isT_list_non, ↓isT_list_bool, ↓isT_list_int, ↓isT_list_str, ↓isT_list_tuple, ↓isT_list_list, ↓isT_list_dict, ↓isT_dict_non, ↓isT_dict_bool, ↓isT_dict_int, ↓isT_dict_str, ↓isT_dict_tuple, ↓isT_dict_list, ↓isT_dict_dict, ↓slot_0, ↓slot_1, ↓slot_2, ↓slot_3, ↓slot_4, ↓slot_5, ↓slot_6, ↓slot_7, ↓slot_8, ↓slot_9, ↓slot_10, ↓slot_11, ↓slot_12, ↓slot_13, ↓slot_14, ↓slot_15, ↓slot_16, ↓slot_17, ↓set_0, ↓set_1, ↓set_2, ↓set_3, ↓set_4, ↓set_5, ↓set_6, ↓set_7, ↓set_8, ↓set_9, ↓set_10, ↓set_11, ↓set_12, ↓set_13, ↓set_14, ↓set_15, ↓set_16, ↓set_17, ↓t_law_cell, ↓dSl, ↓dNoPart, ↓dPart, ↓oSlL]
  by_cases h1 : (k : Int) < l.length
  · rw [if_pos h1]
    have h2 : k < l.length := by omega
    have e := atI_nat (List.getElem?_eq_getElem h2)
    rw [e]
    exact ⟨_, .refl _, q _⟩
  · rw [if_neg h1]
    refine ⟨⟨s32 (by decide), ?_⟩, _, rfl, by decide, _, .refl _, q _⟩
    exact sz60 (k := 10) (by omega) (by decide)
theorem box_lay {M : Mst} {a : Addr} {b : Nat} {g m c : Int} {s : Bool} (h : BoxV b g m c) : MLe (updM M a (.box b)) (updM M a (.lst [.int g, .bl s, .int m, .int c])) := fun x cc e => by
  by_cases z : x = a
  · subst z
    rw [updM_same] at e
    cases e
    exact ⟨_, updM_same, g, s, m, c, rfl, h⟩
  · rw [updM_ne z] at e
    exact ⟨cc, by rw [updM_ne z]; exact e, .refl _⟩
theorem fmod_lt {a b : Int} (h : 0 < b) : 0 ≤ a.fmod b ∧ a.fmod b < b := ⟨Int.fmod_nonneg_of_pos a h, Int.fmod_lt_of_pos a h⟩
def sp_law_box : SpD := fun ds M Q _ => ∃ g : Int, ds = [.int g] ∧ ∀ p, M p = none → Q (.ref p) (updM M p (.box boxMost))
theorem p_law_box (ds M Q E) (h : sp_law_box ds M Q E) : t_law_box K (endsOf Q E) ⟨startD N_law_box.length ds, M⟩ := by
  obtain ⟨g, rfl, q⟩ := h
  show t_law_box K (endsOf Q E) ⟨[some (.int g)], M⟩
  simp only [↓dSeq_eq, ↓wnx_nx, ↓wnx_rt, ↓wnx_bk, ↓wnx_ct, ↓wnx_ex, ↓wlp_nx, ↓wlp_rt, ↓wlp_bk, ↓wlp_ct, ↓wlp_ex, ↓wex_nx, ↓wex_rt, ↓wex_bk, ↓wex_ct, ↓wex_ex, ↓en_nx, ↓en_rt, ↓en_ex, ↓forGo_nil, ↓forGo_cons, ↓dNext, ↓dBreak, ↓dCont, ↓dDrop, ↓dRet, ↓dRetN, ↓dIfS, ↓hName, ↓hNil, ↓hCons, ↓hTup, ↓dAsg, ↓dPar, ↓dTest, ↓dAnd, ↓dOr, ↓dNot, ↓dAndV, ↓dOrV, ↓dNotV, ↓dIf, ↓dVar, ↓dC, ↓dOp, ↓dUn, ↓dNil, ↓dCons, ↓dTup, ↓dLst, ↓dLstM, ↓dCall, ↓dCallK, ↓pick, ↓dCB, ↓dSeqI, ↓dFor, ↓dRange1, ↓dRange2, ↓dRaise, ↓dRaise0, ↓dIsi, ↓dIsi2, ↓oAdd, ↓oSubI, ↓oMulI, ↓oDivI, ↓oModI, ↓oPowI, ↓oSubB, ↓oCmpI, ↓oNeg, ↓oEq, ↓oNe, ↓oIsN, ↓oNotN, ↓oIsB, ↓oIx, ↓cLen, ↓lenQ, ↓D.len?, ↓cAbs, ↓cInt, ↓cMax2, ↓cMin2, ↓cGcd, ↓cSum, ↓cStr, ↓okEq_int, ↓okEq_bl, ↓okEq_non, ↓eqD_int, ↓eqD_bl, ↓eqD_intTup, ↓atI0, ↓atI1, ↓atI2, ↓atI3, ↓ty_int, ↓ty_bl, ↓ty_non, ↓ty_str, ↓ty_tup, ↓ty_lst, ↓endsOf, List.length_cons, List.length_nil, List.map_cons, List.map_nil, Bool.not_true, Bool.not_false, Bool.true_and, Bool.and_true, Bool.false_and, Bool.or_true, Bool.true_or, Bool.false_or, Bool.or_false, ite_true, ite_false, if_true, if_false, Bool.false_eq_true, reduceCtorEq, decide_true, decide_false, true_and, and_true, Bool.not_not, Option.isSome_some, if_false_left, decide_eq_true_eq, Bool.decide_eq_true, ↓isT_non_non, ↓isT_non_bool, ↓isT_non_int, ↓isT_non_str, ↓isT_non_tuple, ↓isT_non_list, ↓isT_non_dict, ↓isT_bool_non, ↓isT_bool_bool, ↓isT_bool_int, ↓isT_bool_str, ↓isT_bool_tuple, ↓isT_bool_list, ↓isT_bool_dict, ↓isT_int_non, ↓isT_int_bool, ↓isT_int_int, ↓isT_int_str, ↓isT_int_tuple, ↓isT_int_list, ↓isT_int_dict, ↓isT_str_non, ↓isT_str_bool, ↓isT_str_int, ↓isT_str_str, ↓isT_str_tuple, ↓isT_str_list, ↓isT_str_dict, ↓isT_tuple_non, ↓isT_tuple_bool, ↓isT_tuple_int, ↓isT_tuple_str, ↓isT_tuple_tuple, ↓isT_tuple_list, ↓isT_tuple_dict, ↓isT_list_non, ↓isT_list_bool, ↓isT_list_int, ↓isT_list_str, ↓isT_list_tuple, ↓isT_list_list, ↓isT_list_dict, ↓isT_dict_non, ↓isT_dict_bool, ↓isT_dict_int, ↓isT_dict_str, ↓isT_dict_tuple, ↓isT_dict_list, ↓isT_dict_dict, ↓slot_0, ↓slot_1, ↓slot_2, ↓slot_3, ↓slot_4, ↓slot_5, ↓slot_6, ↓slot_7, ↓slot_8, ↓slot_9, ↓slot_10, ↓slot_11, ↓slot_12, ↓slot_13, ↓slot_14, ↓slot_15, ↓slot_16, ↓slot_17, ↓set_0, ↓set_1, ↓set_2, ↓set_3, ↓set_4, ↓set_5, ↓set_6, ↓set_7, ↓set_8, ↓set_9, ↓set_10, ↓set_11, ↓set_12, ↓set_13, ↓set_14, ↓set_15, ↓set_16, ↓set_17, ↓t_law_box]
  refine ⟨by decide, by decide, by decide, fun p hp => ⟨_, box_lay ⟨?_, ?_, ?_, by decide, by show (0 : Int) + (boxMost : Int) ≤ boxMost; omega⟩, q p hp⟩⟩
  · split <;> omega
  · exact (fmod_lt (by decide)).1
  · have := (fmod_lt (a := if g < 0 then -g else g) (b := 2147483629) (by decide)).2
    omega
def sp_take0 : SpD := fun ds M Q _ => ∃ (a : Addr) (many : Int) (b : Nat) (g : Int) (s : Bool) (m c : Int), ds = [.ref a, .int many] ∧ M a = some (.lst [.int g, .bl s, .int m, .int c]) ∧ BoxV (b + 1) g m c ∧ 0 < many ∧ szI 9000 many ∧
  ∀ k, 0 ≤ k → k < many → Q (.int k) (updM M a (.box b))
theorem ix4 {k : Int} (h0 : 0 ≤ k) (h : k < 4) : ixN 4 k = some k.toNat := by
  unfold ixN
  rw [if_pos h0, if_pos (by omega)]
theorem BoxV.dn {b : Nat} {g m c : Int} (h : BoxV (b + 1) g m c) : BoxV b g m c := ⟨h.g0, h.m0, h.m1, h.c0, by have := h.c1; omega⟩
theorem c_lt {b : Nat} {g m c : Int} (h : BoxV (b + 1) g m c) : c + 1 ≤ 4294967296 := by
  have h1 := h.c1
  have e : boxMost = 4294967296 := by decide
  rw [e] at h1
  omega
theorem p_take0 (ds M Q E) (h : sp_take0 ds M Q E) : t_law_take K (endsOf Q E) ⟨startD N_law_take.length ds, M⟩ := by
  obtain ⟨a, many, b, g, s, m, c, rfl, hm, hb, h0, hz, q⟩ := h
  show t_law_take K (endsOf Q E) ⟨[some (.ref a), some (.int many), none, none], M⟩
  have i0 : ixN 4 0 = some 0 := rfl
  have i3 : ixN 4 3 = some 3 := rfl
  have hc := c_lt hb
  have hc0 := hb.c0
  have hm0 := hb.m0
  have hm1 : m < 4294967296 := by have := hb.m1; omega
  simp only [↓dSeq_eq, ↓wnx_nx, ↓wnx_rt, ↓wnx_bk, ↓wnx_ct, ↓wnx_ex, ↓wlp_nx, ↓wlp_rt, ↓wlp_bk, ↓wlp_ct, ↓wlp_ex, ↓wex_nx, ↓wex_rt, ↓wex_bk, ↓wex_ct, ↓wex_ex, ↓en_nx, ↓en_rt, ↓en_ex, ↓forGo_nil, ↓forGo_cons, ↓dNext, ↓dBreak, ↓dCont, ↓dDrop, ↓dRet, ↓dRetN, ↓dIfS, ↓hName, ↓hNil, ↓hCons, ↓hTup, ↓dAsg, ↓dPar, ↓dTest, ↓dAnd, ↓dOr, ↓dNot, ↓dAndV, ↓dOrV, ↓dNotV, ↓dIf, ↓dVar, ↓dC, ↓dOp, ↓dUn, ↓dNil, ↓dCons, ↓dTup, ↓dLst, ↓dLstM, ↓dCall, ↓dCallK, ↓pick, ↓dCB, ↓dSeqI, ↓dFor, ↓dRange1, ↓dRange2, ↓dRaise, ↓dRaise0, ↓dIsi, ↓dIsi2, ↓oAdd, ↓oSubI, ↓oMulI, ↓oDivI, ↓oModI, ↓oPowI, ↓oSubB, ↓oCmpI, ↓oNeg, ↓oEq, ↓oNe, ↓oIsN, ↓oNotN, ↓oIsB, ↓oIx, ↓cLen, ↓lenQ, ↓D.len?, ↓cAbs, ↓cInt, ↓cMax2, ↓cMin2, ↓cGcd, ↓cSum, ↓cStr, ↓okEq_int, ↓okEq_bl, ↓okEq_non, ↓eqD_int, ↓eqD_bl, ↓eqD_intTup, ↓atI0, ↓atI1, ↓atI2, ↓atI3, ↓ty_int, ↓ty_bl, ↓ty_non, ↓ty_str, ↓ty_tup, ↓ty_lst, ↓endsOf, List.length_cons, List.length_nil, List.map_cons, List.map_nil, Bool.not_true, Bool.not_false, Bool.true_and, Bool.and_true, Bool.false_and, Bool.or_true, Bool.true_or, Bool.false_or, Bool.or_false, ite_true, ite_false, if_true, if_false, Bool.false_eq_true, reduceCtorEq, decide_true, decide_false, true_and, and_true, Bool.not_not, Option.isSome_some, if_false_left, decide_eq_true_eq, Bool.decide_eq_true, ↓isT_non_non, ↓isT_non_bool, ↓isT_non_int, ↓isT_non_str, ↓isT_non_tuple, ↓isT_non_list, ↓isT_non_dict, ↓isT_bool_non, ↓isT_bool_bool, ↓isT_bool_int, ↓isT_bool_str, ↓isT_bool_tuple, ↓isT_bool_list, ↓isT_bool_dict, ↓isT_int_non, ↓isT_int_bool, ↓isT_int_int, ↓isT_int_str, ↓isT_int_tuple, ↓isT_int_list, ↓isT_int_dict, ↓isT_str_non, ↓isT_str_bool, ↓isT_str_int, ↓isT_str_str, ↓isT_str_tuple, ↓isT_str_list, ↓isT_str_dict, ↓isT_tuple_non, ↓isT_tuple_bool, ↓isT_tuple_int, ↓isT_tuple_str, ↓isT_tuple_tuple, ↓isT_tuple_list, ↓isT_tuple_dict, ↓isT_list_non, ↓isT_list_bool, ↓isT_list_int, ↓isT_list_str, ↓isT_list_tuple, ↓isT_list_list, ↓isT_list_dict, ↓isT_dict_non, ↓isT_dict_bool, ↓isT_dict_int, ↓isT_dict_str, ↓isT_dict_tuple, ↓isT_dict_list, ↓isT_dict_dict, ↓slot_0, ↓slot_1, ↓slot_2, ↓slot_3, ↓slot_4, ↓slot_5, ↓slot_6, ↓slot_7, ↓slot_8, ↓slot_9, ↓slot_10, ↓slot_11, ↓slot_12, ↓slot_13, ↓slot_14, ↓slot_15, ↓slot_16, ↓slot_17, ↓set_0, ↓set_1, ↓set_2, ↓set_3, ↓set_4, ↓set_5, ↓set_6, ↓set_7, ↓set_8, ↓set_9, ↓set_10, ↓set_11, ↓set_12, ↓set_13, ↓set_14, ↓set_15, ↓set_16, ↓set_17, ↓t_law_take, ↓hSubL, hm, updM_same, i0, i3, updM_updM]
  have hd : ∀ i : Int, 0 ≤ i.fmod 2147483647 ∧ i.fmod 2147483647 < 2147483647 := fun i => fmod_lt (by decide)
  have second : ∀ (R : Prop) (mixed : Int), (0 ≤ mixed ∧ mixed < 2147483647) → R → (szI 60000000 mixed ∧ szI 60000000 48299) ∧ (szI 60000000 104759 ∧ szI 60000000 (c + 1)) ∧ ((0 : Int) ≤ 3 ∧ (3 : Int) ≤ 1000000 ∧ (mixed * 48299 + 104759 * (c + 1)).natAbs < 2 ^ 64) ∧ (2147483587 : Int) ≠ 0 ∧ ((64 : Int) ≠ 0 ∧ szI 9000 64) ∧ many ≠ 0 ∧ R := fun R mixed hmx r =>
    ⟨⟨s32 (by omega), s32 (by decide)⟩, ⟨s32 (by decide), s33 (by omega)⟩, ⟨by decide, by decide, m64 hmx.1 hmx.2 hc0 hc⟩, by decide, ⟨by decide, d32 (by decide)⟩, by omega, r⟩
  have lay : ∀ x : Int, 0 ≤ x → x < many → ∃ M_1, MLe M_1 (updM M a (.lst [.int g, .bl s, .int m, .int (c + 1)])) ∧ Q (.int x) M_1 := fun x h1 h2 => ⟨_, box_lay ⟨hb.g0, hb.m0, hb.m1, by omega, by have := hb.c1; omega⟩, q x h1 h2⟩
  have fin : ∀ x : Int, _ := fun x => (fmod_lt (a := x) h0)
  have st : (szI 60000000 15487033 ∧ szI 60000000 (c + 1)) := ⟨s32 (by decide), s33 (by omega)⟩
  have st2 : ((0 : Int) ≤ 5 ∧ (5 : Int) ≤ 1000000 ∧ (m + 15487033 * (c + 1) + 179424731).natAbs < 2 ^ 64) := ⟨by decide, by decide, n64 hm0 hm1 hc0 hc⟩
  split
  · split
    · refine ⟨by omega, ⟨by omega, hz⟩, _, box_lay ⟨?_, hb.m0, hb.m1, hb.c0, by have := hb.c1; omega⟩, q _ (fin g).1 (fin g).2⟩
      exact Int.fdiv_nonneg hb.g0 (by omega)
    · exact ⟨st, st2, by decide, second _ _ (hd _) (lay _ (fin _).1 (fin _).2)⟩
  · exact ⟨st, st2, by decide, second _ _ (hd _) (lay _ (fin _).1 (fin _).2)⟩
/-- a draw below many; the box b draws poorer -/
def sp_law_take : SpD := fun ds M Q _ => ∃ (a : Addr) (many : Int) (b : Nat), ds = [.ref a, .int many] ∧ M a = some (.box (b + 1)) ∧ 0 < many ∧ szI 9000 many ∧ ∀ k, 0 ≤ k → k < many → Q (.int k) (updM M a (.box b))
theorem take_open (ds M Q E) (h : sp_law_take ds M Q E) : ∃ a b, M a = some (.box b) ∧ ∀ g s m c, BoxV b g m c → sp_take0 ds (updM M a (.lst [.int g, .bl s, .int m, .int c])) Q E := by
  obtain ⟨a, many, b, rfl, hm, h0, hz, q⟩ := h
  refine ⟨a, b + 1, hm, fun g s m c hb => ⟨a, many, b, g, s, m, c, rfl, updM_same, hb, h0, hz, fun k h1 h2 => ?_⟩⟩
  rw [updM_updM]
  exact q k h1 h2
/-! ### own lowest terms -/
def sp_law_low : SpD := fun ds M Q _ => ∃ a b : Int, ds = [.int a, .int b] ∧ b ≠ 0 ∧ szI 9000 b ∧ Q (pD (low a b)) M
theorem low_while {ED : EndsD} {x y : Option D} {M : Mst} : ∀ (n a b : Nat), b ≤ n → ED.nx ⟨[x, y, some (.int (Nat.gcd a b : Nat)), some (.int 0)], M⟩ →
    whileGo (dTest (dOp oNe (dVar 3) (dC (.int 0)))) (dPar 2 3 (dCons (dVar 3) (dCons (dOp oModI (dVar 2) (dVar 3)) dNil))) ED (n + 1) ⟨[x, y, some (.int (a : Int)), some (.int (b : Int))], M⟩
  | n, a, 0, _, h => by
    rw [Nat.gcd_zero_right] at h
    unfold whileGo
    simp only [↓dSeq_eq, ↓wnx_nx, ↓wnx_rt, ↓wnx_bk, ↓wnx_ct, ↓wnx_ex, ↓wlp_nx, ↓wlp_rt, ↓wlp_bk, ↓wlp_ct, ↓wlp_ex, ↓wex_nx, ↓wex_rt, ↓wex_bk, ↓wex_ct, ↓wex_ex, ↓en_nx, ↓en_rt, ↓en_ex, ↓forGo_nil, ↓forGo_cons, ↓dNext, ↓dBreak, ↓dCont, ↓dDrop, ↓dRet, ↓dRetN, ↓dIfS, ↓hName, ↓hNil, ↓hCons, ↓hTup, ↓dAsg, ↓dPar, ↓dTest, ↓dAnd, ↓dOr, ↓dNot, ↓dAndV, ↓dOrV, ↓dNotV, ↓dIf, ↓dVar, ↓dC, ↓dOp, ↓dUn, ↓dNil, ↓dCons, ↓dTup, ↓dLst, ↓dLstM, ↓dCall, ↓dCallK, ↓pick, ↓dCB, ↓dSeqI, ↓dFor, ↓dRange1, ↓dRange2, ↓dRaise, ↓dRaise0, ↓dIsi, ↓dIsi2, ↓oAdd, ↓oSubI, ↓oMulI, ↓oDivI, ↓oModI, ↓oPowI, ↓oSubB, ↓oCmpI, ↓oNeg, ↓oEq, ↓oNe, ↓oIsN, ↓oNotN, ↓oIsB, ↓oIx, ↓cLen, ↓lenQ, ↓D.len?, ↓cAbs, ↓cInt, ↓cMax2, ↓cMin2, ↓cGcd, ↓cSum, ↓cStr, ↓okEq_int, ↓okEq_bl, ↓okEq_non, ↓eqD_int, ↓eqD_bl, ↓eqD_intTup, ↓atI0, ↓atI1, ↓atI2, ↓atI3, ↓ty_int, ↓ty_bl, ↓ty_non, ↓ty_str, ↓ty_tup, ↓ty_lst, ↓endsOf, List.length_cons, List.length_nil, List.map_cons, List.map_nil, Bool.not_true, Bool.not_false, Bool.true_and, Bool.and_true, Bool.false_and, Bool.or_true, Bool.true_or, Bool.false_or, Bool.or_false, ite_true, ite_false, if_true, if_false, Bool.false_eq_true, reduceCtorEq, decide_true, decide_false, true_and, and_true, Bool.not_not, Option.isSome_some, if_false_left, decide_eq_true_eq, Bool.decide_eq_true, ↓isT_non_non, ↓isT_non_bool, ↓isT_non_int, ↓isT_non_str, ↓isT_non_tuple, ↓isT_non_list, ↓isT_non_dict, ↓isT_bool_non, ↓isT_bool_bool, ↓isT_bool_int, ↓isT_bool_str, ↓isT_bool_tuple, ↓isT_bool_list, ↓isT_bool_dict, ↓isT_int_non, ↓isT_int_bool, ↓isT_int_int, ↓isT_int_str, ↓isT_int_tuple, ↓isT_int_list, ↓isT_int_dict, ↓isT_str_non, ↓isT_str_bool, ↓isT_str_int, ↓isT_str_str, ↓isT_str_tuple, ↓isT_str_list, ↓isT_str_dict, ↓isT_tuple_non, ↓isT_tuple_bool, ↓isT_tuple_int, ↓isT_tuple_str, ↓isT_tuple_tuple, ↓isT_tuple_list, ↓isT_tuple_dict, ↓isT_list_non, ↓isT_list_bool, ↓isT_list_int, ↓isT_list_str, ↓isT_list_tuple, ↓isT_list_list, ↓isT_list_dict, ↓isT_dict_non, ↓isT_dict_bool, ↓isT_dict_int, ↓isT_dict_str, ↓isT_dict_tuple, ↓isT_dict_list, ↓isT_dict_dict, ↓slot_0, ↓slot_1, ↓slot_2, ↓slot_3, ↓slot_4, ↓slot_5, ↓slot_6, ↓slot_7, ↓slot_8, ↓slot_9, ↓slot_10, ↓slot_11, ↓slot_12, ↓slot_13, ↓slot_14, ↓slot_15, ↓slot_16, ↓slot_17, ↓set_0, ↓set_1, ↓set_2, ↓set_3, ↓set_4, ↓set_5, ↓set_6, ↓set_7, ↓set_8, ↓set_9, ↓set_10, ↓set_11, ↓set_12, ↓set_13, ↓set_14, ↓set_15, ↓set_16, ↓set_17]
    exact h
  | 0, a, b + 1, hb, _ => by omega
  | n + 1, a, b + 1, hb, h => by
    have e : ((a : Int).fmod ((b + 1 : Nat) : Int)) = ((a % (b + 1) : Nat) : Int) := by
      rw [Int.fmod_eq_emod_of_nonneg _ (by omega)]
      exact (Int.natCast_emod a (b + 1)).symm
    have hl := low_while (ED := ED) (x := x) (y := y) (M := M) n (b + 1) (a % (b + 1)) (by have := Nat.mod_lt a (show b + 1 > 0 by omega); omega) (by rw [Nat.gcd_comm (b + 1), ← Nat.gcd_rec, Nat.gcd_comm]; exact h)
    have ne : ((b + 1 : Nat) : Int) ≠ 0 := by omega
    unfold whileGo
    simp only [↓dSeq_eq, ↓wnx_nx, ↓wnx_rt, ↓wnx_bk, ↓wnx_ct, ↓wnx_ex, ↓wlp_nx, ↓wlp_rt, ↓wlp_bk, ↓wlp_ct, ↓wlp_ex, ↓wex_nx, ↓wex_rt, ↓wex_bk, ↓wex_ct, ↓wex_ex, ↓en_nx, ↓en_rt, ↓en_ex, ↓forGo_nil, ↓forGo_cons, ↓dNext, ↓dBreak, ↓dCont, ↓dDrop, ↓dRet, ↓dRetN, ↓dIfS, ↓hName, ↓hNil, ↓hCons, ↓hTup, ↓dAsg, ↓dPar, ↓dTest, ↓dAnd, ↓dOr, ↓dNot, ↓dAndV, ↓dOrV, ↓dNotV, ↓dIf, ↓dVar, ↓dC, ↓dOp, ↓dUn, ↓dNil, ↓dCons, ↓dTup, ↓dLst, ↓dLstM, ↓dCall, ↓dCallK, ↓pick, ↓dCB, ↓dSeqI, ↓dFor, ↓dRange1, ↓dRange2, ↓dRaise, ↓dRaise0, ↓dIsi, ↓dIsi2, ↓oAdd, ↓oSubI, ↓oMulI, ↓oDivI, ↓oModI, ↓oPowI, ↓oSubB, ↓oCmpI, ↓oNeg, ↓oEq, ↓oNe, ↓oIsN, ↓oNotN, ↓oIsB, ↓oIx, ↓cLen, ↓lenQ, ↓D.len?, ↓cAbs, ↓cInt, ↓cMax2, ↓cMin2, ↓cGcd, ↓cSum, ↓cStr, ↓okEq_int, ↓okEq_bl, ↓okEq_non, ↓eqD_int, ↓eqD_bl, ↓eqD_intTup, ↓atI0, ↓atI1, ↓atI2, ↓atI3, ↓ty_int, ↓ty_bl, ↓ty_non, ↓ty_str, ↓ty_tup, ↓ty_lst, ↓endsOf, List.length_cons, List.length_nil, List.map_cons, List.map_nil, Bool.not_true, Bool.not_false, Bool.true_and, Bool.and_true, Bool.false_and, Bool.or_true, Bool.true_or, Bool.false_or, Bool.or_false, ite_true, ite_false, if_true, if_false, Bool.false_eq_true, reduceCtorEq, decide_true, decide_false, true_and, and_true, Bool.not_not, Option.isSome_some, if_false_left, decide_eq_true_eq, Bool.decide_eq_true, ↓isT_non_non, ↓isT_non_bool, ↓isT_non_int, ↓isT_non_str, ↓isT_non_tuple, ↓isT_non_list, ↓isT_non_dict, ↓isT_bool_non, ↓isT_bool_bool, ↓isT_bool_int, ↓isT_bool_str, ↓isT_bool_tuple, ↓isT_bool_list, ↓isT_bool_dict, ↓isT_int_non, ↓isT_int_bool, ↓isT_int_int, ↓isT_int_str, ↓isT_int_tuple, ↓isT_int_list, ↓isT_int_dict, ↓isT_str_non, ↓isT_str_bool, ↓isT_str_int, ↓isT_str_str, ↓isT_str_tuple, ↓isT_str_list, ↓isT_str_dict, ↓isT_tuple_non, ↓isT_tuple_bool, ↓isT_tuple_int, ↓isT_tuple_str, ↓isT_tuple_tuple, ↓isT_tuple_list, ↓isT_tuple_dict, ↓isT_list_non, ↓isT_list_bool, ↓isT_list_int, ↓isT_list_str, ↓isT_list_tuple, ↓isT_list_list, ↓isT_list_dict, ↓isT_dict_non, ↓isT_dict_bool, ↓isT_dict_int, ↓isT_dict_str, ↓isT_dict_tuple, ↓isT_dict_list, ↓isT_dict_dict, ↓slot_0, ↓slot_1, ↓slot_2, ↓slot_3, ↓slot_4, ↓slot_5, ↓slot_6, ↓slot_7, ↓slot_8, ↓slot_9, ↓slot_10, ↓slot_11, ↓slot_12, ↓slot_13, ↓slot_14, ↓slot_15, ↓slot_16, ↓slot_17, ↓set_0, ↓set_1, ↓set_2, ↓set_3, ↓set_4, ↓set_5, ↓set_6, ↓set_7, ↓set_8, ↓set_9, ↓set_10, ↓set_11, ↓set_12, ↓set_13, ↓set_14, ↓set_15, ↓set_16, ↓set_17, ne, e]
    exact ⟨fun z => ne z, hl⟩
theorem abs_if (a : Int) : (if a < 0 then -a else a) = ((a.natAbs : Nat) : Int) := by split <;> omega
theorem fdiv_pos {a b : Int} (h : 0 < b) : a.fdiv b = a / b := Int.fdiv_eq_ediv_of_nonneg _ (by omega)
theorem p_law_low (ds M Q E) (h : sp_law_low ds M Q E) : t_law_low K (endsOf Q E) ⟨startD N_law_low.length ds, M⟩ := by
  obtain ⟨a, b, rfl, h0, hs, q⟩ := h
  show t_law_low K (endsOf Q E) ⟨[some (.int a), some (.int b), none, none], M⟩
  simp only [↓dSeq_eq, ↓wnx_nx, ↓wnx_rt, ↓wnx_bk, ↓wnx_ct, ↓wnx_ex, ↓wlp_nx, ↓wlp_rt, ↓wlp_bk, ↓wlp_ct, ↓wlp_ex, ↓wex_nx, ↓wex_rt, ↓wex_bk, ↓wex_ct, ↓wex_ex, ↓en_nx, ↓en_rt, ↓en_ex, ↓forGo_nil, ↓forGo_cons, ↓dNext, ↓dBreak, ↓dCont, ↓dDrop, ↓dRet, ↓dRetN, ↓dIfS, ↓hName, ↓hNil, ↓hCons, ↓hTup, ↓dAsg, ↓dPar, ↓dTest, ↓dAnd, ↓dOr, ↓dNot, ↓dAndV, ↓dOrV, ↓dNotV, ↓dIf, ↓dVar, ↓dC, ↓dOp, ↓dUn, ↓dNil, ↓dCons, ↓dTup, ↓dLst, ↓dLstM, ↓dCall, ↓dCallK, ↓pick, ↓dCB, ↓dSeqI, ↓dFor, ↓dRange1, ↓dRange2, ↓dRaise, ↓dRaise0, ↓dIsi, ↓dIsi2, ↓oAdd, ↓oSubI, ↓oMulI, ↓oDivI, ↓oModI, ↓oPowI, ↓oSubB, ↓oCmpI, ↓oNeg, ↓oEq, ↓oNe, ↓oIsN, ↓oNotN, ↓oIsB, ↓oIx, ↓cLen, ↓lenQ, ↓D.len?, ↓cAbs, ↓cInt, ↓cMax2, ↓cMin2, ↓cGcd, ↓cSum, ↓cStr, ↓okEq_int, ↓okEq_bl, ↓okEq_non, ↓eqD_int, ↓eqD_bl, ↓eqD_intTup, ↓atI0, ↓atI1, ↓atI2, ↓atI3, ↓ty_int, ↓ty_bl, ↓ty_non, ↓ty_str, ↓ty_tup, ↓ty_lst, ↓endsOf, List.length_cons, List.length_nil, List.map_cons, List.map_nil, Bool.not_true, Bool.not_false, Bool.true_and, Bool.and_true, Bool.false_and, Bool.or_true, Bool.true_or, Bool.false_or, Bool.or_false, ite_true, ite_false, if_true, if_false, Bool.false_eq_true, reduceCtorEq, decide_true, decide_false, true_and, and_true, Bool.not_not, Option.isSome_some, if_false_left, decide_eq_true_eq, Bool.decide_eq_true, ↓isT_non_non, ↓isT_non_bool, ↓isT_non_int, ↓isT_non_str, ↓isT_non_tuple, ↓isT_non_list, ↓isT_non_dict, ↓isT_bool_non, ↓isT_bool_bool, ↓isT_bool_int, ↓isT_bool_str, ↓isT_bool_tuple, ↓isT_bool_list, ↓isT_bool_dict, ↓isT_int_non, ↓isT_int_bool, ↓isT_int_int, ↓isT_int_str, ↓isT_int_tuple, ↓isT_int_list, ↓isT_int_dict, ↓isT_str_non, ↓isT_str_bool, ↓isT_str_int, ↓isT_str_str, ↓isT_str_tuple, ↓isT_str_list, ↓isT_str_dict, ↓isT_tuple_non, ↓isT_tuple_bool, ↓isT_tuple_int, ↓isT_tuple_str, ↓isT_tuple_tuple, ↓isT_tuple_list, ↓isT_tuple_dict, ↓isT_list_non, ↓isT_list_bool, ↓isT_list_int, ↓isT_list_str, ↓isT_list_tuple, ↓isT_list_list, ↓isT_list_dict, ↓isT_dict_non, ↓isT_dict_bool, ↓isT_dict_int, ↓isT_dict_str, ↓isT_dict_tuple, ↓isT_dict_list, ↓isT_dict_dict, ↓slot_0, ↓slot_1, ↓slot_2, ↓slot_3, ↓slot_4, ↓slot_5, ↓slot_6, ↓slot_7, ↓slot_8, ↓slot_9, ↓slot_10, ↓slot_11, ↓slot_12, ↓slot_13, ↓slot_14, ↓slot_15, ↓slot_16, ↓slot_17, ↓set_0, ↓set_1, ↓set_2, ↓set_3, ↓set_4, ↓set_5, ↓set_6, ↓set_7, ↓set_8, ↓set_9, ↓set_10, ↓set_11, ↓set_12, ↓set_13, ↓set_14, ↓set_15, ↓set_16, ↓set_17, ↓t_law_low, dWhile, abs_if]
  refine ⟨_, low_while b.natAbs a.natAbs b.natAbs (Nat.le_refl _) ?_⟩
  have hg := gI_pos (a := a) h0
  have hz := gI_sz (a := a) h0 hs
  have e : ((Nat.gcd a.natAbs b.natAbs : Nat) : Int) = gI a b := rfl
  simp only [↓dSeq_eq, ↓wnx_nx, ↓wnx_rt, ↓wnx_bk, ↓wnx_ct, ↓wnx_ex, ↓wlp_nx, ↓wlp_rt, ↓wlp_bk, ↓wlp_ct, ↓wlp_ex, ↓wex_nx, ↓wex_rt, ↓wex_bk, ↓wex_ct, ↓wex_ex, ↓en_nx, ↓en_rt, ↓en_ex, ↓forGo_nil, ↓forGo_cons, ↓dNext, ↓dBreak, ↓dCont, ↓dDrop, ↓dRet, ↓dRetN, ↓dIfS, ↓hName, ↓hNil, ↓hCons, ↓hTup, ↓dAsg, ↓dPar, ↓dTest, ↓dAnd, ↓dOr, ↓dNot, ↓dAndV, ↓dOrV, ↓dNotV, ↓dIf, ↓dVar, ↓dC, ↓dOp, ↓dUn, ↓dNil, ↓dCons, ↓dTup, ↓dLst, ↓dLstM, ↓dCall, ↓dCallK, ↓pick, ↓dCB, ↓dSeqI, ↓dFor, ↓dRange1, ↓dRange2, ↓dRaise, ↓dRaise0, ↓dIsi, ↓dIsi2, ↓oAdd, ↓oSubI, ↓oMulI, ↓oDivI, ↓oModI, ↓oPowI, ↓oSubB, ↓oCmpI, ↓oNeg, ↓oEq, ↓oNe, ↓oIsN, ↓oNotN, ↓oIsB, ↓oIx, ↓cLen, ↓lenQ, ↓D.len?, ↓cAbs, ↓cInt, ↓cMax2, ↓cMin2, ↓cGcd, ↓cSum, ↓cStr, ↓okEq_int, ↓okEq_bl, ↓okEq_non, ↓eqD_int, ↓eqD_bl, ↓eqD_intTup, ↓atI0, ↓atI1, ↓atI2, ↓atI3, ↓ty_int, ↓ty_bl, ↓ty_non, ↓ty_str, ↓ty_tup, ↓ty_lst, ↓endsOf, List.length_cons, List.length_nil, List.map_cons, List.map_nil, Bool.not_true, Bool.not_false, Bool.true_and, Bool.and_true, Bool.false_and, Bool.or_true, Bool.true_or, Bool.false_or, Bool.or_false, ite_true, ite_false, if_true, if_false, Bool.false_eq_true, reduceCtorEq, decide_true, decide_false, true_and, and_true, Bool.not_not, Option.isSome_some, if_false_left, decide_eq_true_eq, Bool.decide_eq_true, ↓isT_non_non, ↓isT_non_bool, ↓isT_non_int, ↓isT_non_str, ↓isT_non_tuple, ↓isT_non_list, ↓isT_non_dict, ↓isT_bool_non, ↓isT_bool_bool, ↓isT_bool_int, ↓isT_bool_str, ↓isT_bool_tuple, ↓isT_bool_list, ↓isT_bool_dict, ↓isT_int_non, ↓isT_int_bool, ↓isT_int_int, ↓isT_int_str, ↓isT_int_tuple, ↓isT_int_list, ↓isT_int_dict, ↓isT_str_non, ↓isT_str_bool, ↓isT_str_int, ↓isT_str_str, ↓isT_str_tuple, ↓isT_str_list, ↓isT_str_dict, ↓isT_tuple_non, ↓isT_tuple_bool, ↓isT_tuple_int, ↓isT_tuple_str, ↓isT_tuple_tuple, ↓isT_tuple_list, ↓isT_tuple_dict, ↓isT_list_non, ↓isT_list_bool, ↓isT_list_int, ↓isT_list_str, ↓isT_list_tuple, ↓isT_list_list, ↓isT_list_dict, ↓isT_dict_non, ↓isT_dict_bool, ↓isT_dict_int, ↓isT_dict_str, ↓isT_dict_tuple, ↓isT_dict_list, ↓isT_dict_dict, ↓slot_0, ↓slot_1, ↓slot_2, ↓slot_3, ↓slot_4, ↓slot_5, ↓slot_6, ↓slot_7, ↓slot_8, ↓slot_9, ↓slot_10, ↓slot_11, ↓slot_12, ↓slot_13, ↓slot_14, ↓slot_15, ↓slot_16, ↓slot_17, ↓set_0, ↓set_1, ↓set_2, ↓set_3, ↓set_4, ↓set_5, ↓set_6, ↓set_7, ↓set_8, ↓set_9, ↓set_10, ↓set_11, ↓set_12, ↓set_13, ↓set_14, ↓set_15, ↓set_16, ↓set_17, e]
  unfold low at q
  by_cases hb : 0 < b
  · rw [if_pos hb]
    rw [if_pos hb] at q
    refine ⟨⟨by omega, hz⟩, ⟨by omega, hz⟩, by decide, _, .refl _, ?_⟩
    rw [fdiv_pos hg, fdiv_pos hg]; exact q
  · rw [if_neg hb]
    rw [if_neg hb] at q
    refine ⟨⟨by omega, hz⟩, ⟨by omega, hz⟩, by decide, _, .refl _, ?_⟩
    rw [fdiv_pos hg, fdiv_pos hg]; exact q
def sp_law_plus : SpD := fun ds M Q _ => ∃ x y, two 4400 ds x y ∧ Q (pD (plusP x y)) M
def sp_law_minus : SpD := fun ds M Q _ => ∃ x y, two 4400 ds x y ∧ Q (pD (minusP x y)) M
def sp_law_times : SpD := fun ds M Q _ => ∃ x y, two 4400 ds x y ∧ Q (pD (timesP x y)) M
def sp_law_over : SpD := fun ds M Q _ => ∃ x y, two 4400 ds x y ∧ y.1 ≠ 0 ∧ Q (pD (overP x y)) M
theorem p_law_plus (ds M Q E) (h : sp_law_plus ds M Q E) : t_law_plus K sp_law_low (endsOf Q E) ⟨startD N_law_plus.length ds, M⟩ := by
  obtain ⟨⟨a, b⟩, ⟨c, d⟩, ⟨rfl, hx, hy⟩, q⟩ := h
  show t_law_plus K sp_law_low (endsOf Q E) ⟨[some (.tup [.int a, .int b]), some (.tup [.int c, .int d])], M⟩
  simp only [↓dSeq_eq, ↓wnx_nx, ↓wnx_rt, ↓wnx_bk, ↓wnx_ct, ↓wnx_ex, ↓wlp_nx, ↓wlp_rt, ↓wlp_bk, ↓wlp_ct, ↓wlp_ex, ↓wex_nx, ↓wex_rt, ↓wex_bk, ↓wex_ct, ↓wex_ex, ↓en_nx, ↓en_rt, ↓en_ex, ↓forGo_nil, ↓forGo_cons, ↓dNext, ↓dBreak, ↓dCont, ↓dDrop, ↓dRet, ↓dRetN, ↓dIfS, ↓hName, ↓hNil, ↓hCons, ↓hTup, ↓dAsg, ↓dPar, ↓dTest, ↓dAnd, ↓dOr, ↓dNot, ↓dAndV, ↓dOrV, ↓dNotV, ↓dIf, ↓dVar, ↓dC, ↓dOp, ↓dUn, ↓dNil, ↓dCons, ↓dTup, ↓dLst, ↓dLstM, ↓dCall, ↓dCallK, ↓pick, ↓dCB, ↓dSeqI, ↓dFor, ↓dRange1, ↓dRange2, ↓dRaise, ↓dRaise0, ↓dIsi, ↓dIsi2, ↓oAdd, ↓oSubI, ↓oMulI, ↓oDivI, ↓oModI, ↓oPowI, ↓oSubB, ↓oCmpI, ↓oNeg, ↓oEq, ↓oNe, ↓oIsN, ↓oNotN, ↓oIsB, ↓oIx, ↓cLen, ↓lenQ, ↓D.len?, ↓cAbs, ↓cInt, ↓cMax2, ↓cMin2, ↓cGcd, ↓cSum, ↓cStr, ↓okEq_int, ↓okEq_bl, ↓okEq_non, ↓eqD_int, ↓eqD_bl, ↓eqD_intTup, ↓atI0, ↓atI1, ↓atI2, ↓atI3, ↓ty_int, ↓ty_bl, ↓ty_non, ↓ty_str, ↓ty_tup, ↓ty_lst, ↓endsOf, List.length_cons, List.length_nil, List.map_cons, List.map_nil, Bool.not_true, Bool.not_false, Bool.true_and, Bool.and_true, Bool.false_and, Bool.or_true, Bool.true_or, Bool.false_or, Bool.or_false, ite_true, ite_false, if_true, if_false, Bool.false_eq_true, reduceCtorEq, decide_true, decide_false, true_and, and_true, Bool.not_not, Option.isSome_some, if_false_left, decide_eq_true_eq, Bool.decide_eq_true, ↓isT_non_non, ↓isT_non_bool, ↓isT_non_int, ↓isT_non_str, ↓isT_non_tuple, ↓isT_non_list, ↓isT_non_dict, ↓isT_bool_non, ↓isT_bool_bool, ↓isT_bool_int, ↓isT_bool_str, ↓isT_bool_tuple, ↓isT_bool_list, ↓isT_bool_dict, ↓isT_int_non, ↓isT_int_bool, ↓isT_int_int, ↓isT_int_str, ↓isT_int_tuple, ↓isT_int_list, ↓isT_int_dict, ↓isT_str_non, ↓isT_str_bool, ↓isT_str_int, ↓isT_str_str, ↓isT_str_tuple, ↓isT_str_list, ↓isT_str_dict, ↓isT_tuple_non, ↓isT_tuple_bool, ↓isT_tuple_int, ↓isT_tuple_str, ↓isT_tuple_tuple, ↓isT_tuple_list, ↓isT_tuple_dict, ↓isT_list_non, ↓isT_list_bool, ↓isT_list_int, ↓isT_list_str, ↓isT_list_tuple, ↓isT_list_list, ↓isT_list_dict, ↓isT_dict_non, ↓isT_dict_bool, ↓isT_dict_int, ↓isT_dict_str, ↓isT_dict_tuple, ↓isT_dict_list, ↓isT_dict_dict, ↓slot_0, ↓slot_1, ↓slot_2, ↓slot_3, ↓slot_4, ↓slot_5, ↓slot_6, ↓slot_7, ↓slot_8, ↓slot_9, ↓slot_10, ↓slot_11, ↓slot_12, ↓slot_13, ↓slot_14, ↓slot_15, ↓slot_16, ↓slot_17, ↓set_0, ↓set_1, ↓set_2, ↓set_3, ↓set_4, ↓set_5, ↓set_6, ↓set_7, ↓set_8, ↓set_9, ↓set_10, ↓set_11, ↓set_12, ↓set_13, ↓set_14, ↓set_15, ↓set_16, ↓set_17, ↓t_law_plus]
  exact ⟨⟨sz60 hx.n1 (by decide), sz60 hy.n2 (by decide)⟩, ⟨sz60 hy.n1 (by decide), sz60 hx.n2 (by decide)⟩, ⟨sz60 hx.n2 (by decide), sz60 hy.n2 (by decide)⟩, _, _, rfl, den_ne hx hy, up_sz (mul_sz hx.n2 hy.n2) (by decide), _, .refl _, q⟩
theorem p_law_minus (ds M Q E) (h : sp_law_minus ds M Q E) : t_law_minus K sp_law_low (endsOf Q E) ⟨startD N_law_minus.length ds, M⟩ := by
  obtain ⟨⟨a, b⟩, ⟨c, d⟩, ⟨rfl, hx, hy⟩, q⟩ := h
  show t_law_minus K sp_law_low (endsOf Q E) ⟨[some (.tup [.int a, .int b]), some (.tup [.int c, .int d])], M⟩
  simp only [↓dSeq_eq, ↓wnx_nx, ↓wnx_rt, ↓wnx_bk, ↓wnx_ct, ↓wnx_ex, ↓wlp_nx, ↓wlp_rt, ↓wlp_bk, ↓wlp_ct, ↓wlp_ex, ↓wex_nx, ↓wex_rt, ↓wex_bk, ↓wex_ct, ↓wex_ex, ↓en_nx, ↓en_rt, ↓en_ex, ↓forGo_nil, ↓forGo_cons, ↓dNext, ↓dBreak, ↓dCont, ↓dDrop, ↓dRet, ↓dRetN, ↓dIfS, ↓hName, ↓hNil, ↓hCons, ↓hTup, ↓dAsg, ↓dPar, ↓dTest, ↓dAnd, ↓dOr, ↓dNot, ↓dAndV, ↓dOrV, ↓dNotV, ↓dIf, ↓dVar, ↓dC, ↓dOp, ↓dUn, ↓dNil, ↓dCons, ↓dTup, ↓dLst, ↓dLstM, ↓dCall, ↓dCallK, ↓pick, ↓dCB, ↓dSeqI, ↓dFor, ↓dRange1, ↓dRange2, ↓dRaise, ↓dRaise0, ↓dIsi, ↓dIsi2, ↓oAdd, ↓oSubI, ↓oMulI, ↓oDivI, ↓oModI, ↓oPowI, ↓oSubB, ↓oCmpI, ↓oNeg, ↓oEq, ↓oNe, ↓oIsN, ↓oNotN, ↓oIsB, ↓oIx, ↓cLen, ↓lenQ, ↓D.len?, ↓cAbs, ↓cInt, ↓cMax2, ↓cMin2, ↓cGcd, ↓cSum, ↓cStr, ↓okEq_int, ↓okEq_bl, ↓okEq_non, ↓eqD_int, ↓eqD_bl, ↓eqD_intTup, ↓atI0, ↓atI1, ↓atI2, ↓atI3, ↓ty_int, ↓ty_bl, ↓ty_non, ↓ty_str, ↓ty_tup, ↓ty_lst, ↓endsOf, List.length_cons, List.length_nil, List.map_cons, List.map_nil, Bool.not_true, Bool.not_false, Bool.true_and, Bool.and_true, Bool.false_and, Bool.or_true, Bool.true_or, Bool.false_or, Bool.or_false, ite_true, ite_false, if_true, if_false, Bool.false_eq_true, reduceCtorEq, decide_true, decide_false, true_and, and_true, Bool.not_not, Option.isSome_some, if_false_left, decide_eq_true_eq, Bool.decide_eq_true, ↓isT_non_non, ↓isT_non_bool, ↓isT_non_int, ↓isT_non_str, ↓isT_non_tuple, ↓isT_non_list, ↓isT_non_dict, ↓isT_bool_non, ↓isT_bool_bool, ↓isT_bool_int, ↓isT_bool_str, ↓isT_bool_tuple, ↓isT_bool_list, ↓isT_bool_dict, ↓isT_int_non, ↓isT_int_bool, ↓isT_int_int, ↓isT_int_str, ↓isT_int_tuple, ↓isT_int_list, ↓isT_int_dict, ↓isT_str_non, ↓isT_str_bool, ↓isT_str_int, ↓isT_str_str, ↓isT_str_tuple, ↓isT_str_list, ↓isT_str_dict, ↓isT_tuple_non, ↓isT_tuple_bool, ↓isT_tuple_int, ↓isT_tuple_str, ↓isT_tuple_tuple, ↓isT_tuple_list, ↓isT_tuple_dict, ↓isT_list_non, ↓isT_list_bool, ↓isT_list_int, ↓isT_list_str, ↓isT_list_tuple, ↓isT_list_list, ↓isT_list_dict, ↓isT_dict_non, ↓isT_dict_bool, ↓isT_dict_int, ↓isT_dict_str, ↓isT_dict_tuple, ↓isT_dict_list, ↓isT_dict_dict, ↓slot_0, ↓slot_1, ↓slot_2, ↓slot_3, ↓slot_4, ↓slot_5, ↓slot_6, ↓slot_7, ↓slot_8, ↓slot_9, ↓slot_10, ↓slot_11, ↓slot_12, ↓slot_13, ↓slot_14, ↓slot_15, ↓slot_16, ↓slot_17, ↓set_0, ↓set_1, ↓set_2, ↓set_3, ↓set_4, ↓set_5, ↓set_6, ↓set_7, ↓set_8, ↓set_9, ↓set_10, ↓set_11, ↓set_12, ↓set_13, ↓set_14, ↓set_15, ↓set_16, ↓set_17, ↓t_law_minus]
  exact ⟨⟨sz60 hx.n1 (by decide), sz60 hy.n2 (by decide)⟩, ⟨sz60 hy.n1 (by decide), sz60 hx.n2 (by decide)⟩, ⟨sz60 hx.n2 (by decide), sz60 hy.n2 (by decide)⟩, _, _, rfl, den_ne hx hy, up_sz (mul_sz hx.n2 hy.n2) (by decide), _, .refl _, q⟩
theorem p_law_times (ds M Q E) (h : sp_law_times ds M Q E) : t_law_times K sp_law_low (endsOf Q E) ⟨startD N_law_times.length ds, M⟩ := by
  obtain ⟨⟨a, b⟩, ⟨c, d⟩, ⟨rfl, hx, hy⟩, q⟩ := h
  show t_law_times K sp_law_low (endsOf Q E) ⟨[some (.tup [.int a, .int b]), some (.tup [.int c, .int d])], M⟩
  simp only [↓dSeq_eq, ↓wnx_nx, ↓wnx_rt, ↓wnx_bk, ↓wnx_ct, ↓wnx_ex, ↓wlp_nx, ↓wlp_rt, ↓wlp_bk, ↓wlp_ct, ↓wlp_ex, ↓wex_nx, ↓wex_rt, ↓wex_bk, ↓wex_ct, ↓wex_ex, ↓en_nx, ↓en_rt, ↓en_ex, ↓forGo_nil, ↓forGo_cons, ↓dNext, ↓dBreak, ↓dCont, ↓dDrop, ↓dRet, ↓dRetN, ↓dIfS, ↓hName, ↓hNil, ↓hCons, ↓hTup, ↓dAsg, ↓dPar, ↓dTest, ↓dAnd, ↓dOr, ↓dNot, ↓dAndV, ↓dOrV, ↓dNotV, ↓dIf, ↓dVar, ↓dC, ↓dOp, ↓dUn, ↓dNil, ↓dCons, ↓dTup, ↓dLst, ↓dLstM, ↓dCall, ↓dCallK, ↓pick, ↓dCB, ↓dSeqI, ↓dFor, ↓dRange1, ↓dRange2, ↓dRaise, ↓dRaise0, ↓dIsi, ↓dIsi2, ↓oAdd, ↓oSubI, ↓oMulI, ↓oDivI, ↓oModI, ↓oPowI, ↓oSubB, ↓oCmpI, ↓oNeg, ↓oEq, ↓oNe, ↓oIsN, ↓oNotN, ↓oIsB, ↓oIx, ↓cLen, ↓lenQ, ↓D.len?, ↓cAbs, ↓cInt, ↓cMax2, ↓cMin2, ↓cGcd, ↓cSum, ↓cStr, ↓okEq_int, ↓okEq_bl, ↓okEq_non, ↓eqD_int, ↓eqD_bl, ↓eqD_intTup, ↓atI0, ↓atI1, ↓atI2, ↓atI3, ↓ty_int, ↓ty_bl, ↓ty_non, ↓ty_str, ↓ty_tup, ↓ty_lst, ↓endsOf, List.length_cons, List.length_nil, List.map_cons, List.map_nil, Bool.not_true, Bool.not_false, Bool.true_and, Bool.and_true, Bool.false_and, Bool.or_true, Bool.true_or, Bool.false_or, Bool.or_false, ite_true, ite_false, if_true, if_false, Bool.false_eq_true, reduceCtorEq, decide_true, decide_false, true_and, and_true, Bool.not_not, Option.isSome_some, if_false_left, decide_eq_true_eq, Bool.decide_eq_true, ↓isT_non_non, ↓isT_non_bool, ↓isT_non_int, ↓isT_non_str, ↓isT_non_tuple, ↓isT_non_list, ↓isT_non_dict, ↓isT_bool_non, ↓isT_bool_bool, ↓isT_bool_int, ↓isT_bool_str, ↓isT_bool_tuple, ↓isT_bool_list, ↓isT_bool_dict, ↓isT_int_non, ↓isT_int_bool, ↓isT_int_int, ↓isT_int_str, ↓isT_int_tuple, ↓isT_int_list, ↓isT_int_dict, ↓isT_str_non, ↓isT_str_bool, ↓isT_str_int, ↓isT_str_str, ↓isT_str_tuple, ↓isT_str_list, ↓isT_str_dict, ↓isT_tuple_non, ↓isT_tuple_bool, ↓isT_tuple_int, ↓isT_tuple_str, ↓isT_tuple_tuple, ↓isT_tuple_list, ↓isT_tuple_dict, ↓isT_list_non, ↓isT_list_bool, ↓isT_list_int, ↓isT_list_str, ↓isT_list_tuple, ↓isT_list_list, ↓isT_list_dict, ↓isT_dict_non, ↓isT_dict_bool, ↓isT_dict_int, ↓isT_dict_str, ↓isT_dict_tuple, ↓isT_dict_list, ↓isT_dict_dict, ↓slot_0, ↓slot_1, ↓slot_2, ↓slot_3, ↓slot_4, ↓slot_5, ↓slot_6, ↓slot_7, ↓slot_8, ↓slot_9, ↓slot_10, ↓slot_11, ↓slot_12, ↓slot_13, ↓slot_14, ↓slot_15, ↓slot_16, ↓slot_17, ↓set_0, ↓set_1, ↓set_2, ↓set_3, ↓set_4, ↓set_5, ↓set_6, ↓set_7, ↓set_8, ↓set_9, ↓set_10, ↓set_11, ↓set_12, ↓set_13, ↓set_14, ↓set_15, ↓set_16, ↓set_17, ↓t_law_times]
  exact ⟨⟨sz60 hx.n1 (by decide), sz60 hy.n1 (by decide)⟩, ⟨sz60 hx.n2 (by decide), sz60 hy.n2 (by decide)⟩, _, _, rfl, den_ne hx hy, up_sz (mul_sz hx.n2 hy.n2) (by decide), _, .refl _, q⟩
theorem p_law_over (ds M Q E) (h : sp_law_over ds M Q E) : t_law_over K sp_law_low (endsOf Q E) ⟨startD N_law_over.length ds, M⟩ := by
  obtain ⟨⟨a, b⟩, ⟨c, d⟩, ⟨rfl, hx, hy⟩, h0, q⟩ := h
  show t_law_over K sp_law_low (endsOf Q E) ⟨[some (.tup [.int a, .int b]), some (.tup [.int c, .int d])], M⟩
  simp only [↓dSeq_eq, ↓wnx_nx, ↓wnx_rt, ↓wnx_bk, ↓wnx_ct, ↓wnx_ex, ↓wlp_nx, ↓wlp_rt, ↓wlp_bk, ↓wlp_ct, ↓wlp_ex, ↓wex_nx, ↓wex_rt, ↓wex_bk, ↓wex_ct, ↓wex_ex, ↓en_nx, ↓en_rt, ↓en_ex, ↓forGo_nil, ↓forGo_cons, ↓dNext, ↓dBreak, ↓dCont, ↓dDrop, ↓dRet, ↓dRetN, ↓dIfS, ↓hName, ↓hNil, ↓hCons, ↓hTup, ↓dAsg, ↓dPar, ↓dTest, ↓dAnd, ↓dOr, ↓dNot, ↓dAndV, ↓dOrV, ↓dNotV, ↓dIf, ↓dVar, ↓dC, ↓dOp, ↓dUn, ↓dNil, ↓dCons, ↓dTup, ↓dLst, ↓dLstM, ↓dCall, ↓dCallK, ↓pick, ↓dCB, ↓dSeqI, ↓dFor, ↓dRange1, ↓dRange2, ↓dRaise, ↓dRaise0, ↓dIsi, ↓dIsi2, ↓oAdd, ↓oSubI, ↓oMulI, ↓oDivI, ↓oModI, ↓oPowI, ↓oSubB, ↓oCmpI, ↓oNeg, ↓oEq, ↓oNe, ↓oIsN, ↓oNotN, ↓oIsB, ↓oIx, ↓cLen, ↓lenQ, ↓D.len?, ↓cAbs, ↓cInt, ↓cMax2, ↓cMin2, ↓cGcd, ↓cSum, ↓cStr, ↓okEq_int, ↓okEq_bl, ↓okEq_non, ↓eqD_int, ↓eqD_bl, ↓eqD_intTup, ↓atI0, ↓atI1, ↓atI2, ↓atI3, ↓ty_int, ↓ty_bl, ↓ty_non, ↓ty_str, ↓ty_tup, ↓ty_lst, ↓endsOf, List.length_cons, List.length_nil, List.map_cons, List.map_nil, Bool.not_true, Bool.not_false, Bool.true_and, Bool.and_true, Bool.false_and, Bool.or_true, Bool.true_or, Bool.false_or, Bool.or_false, ite_true, ite_false, if_true, if_false, Bool.false_eq_true, reduceCtorEq, decide_true, decide_false, true_and, and_true, Bool.not_not, Option.isSome_some, if_false_left, decide_eq_true_eq, Bool.decide_eq_true, ↓isT_non_non, ↓isT_non_bool, ↓isT_non_int, ↓isT_non_str, ↓isT_non_tuple, ↓isT_non_list, ↓isT_non_dict, ↓isT_bool_non, ↓isT_bool_bool, ↓isT_bool_int, ↓isT_bool_str, ↓isT_bool_tuple, ↓isT_bool_list, ↓isT_bool_dict, ↓isT_int_non, ↓isT_int_bool, ↓isT_int_int, ↓isT_int_str, ↓isT_int_tuple, ↓isT_int_list, ↓isT_int_dict, ↓isT_str_non, ↓isT_str_bool, ↓isT_str_int, ↓isT_str_str, ↓isT_str_tuple, ↓isT_str_list, ↓isT_str_dict, ↓isT_tuple_non, ↓isT_tuple_bool, ↓isT_tuple_int, ↓isT_tuple_str, ↓isT_tuple_tuple, ↓isT_tuple_list, ↓isT_tuple_dict, ↓isT_list_non, ↓isT_list_bool, ↓isT_list_int, ↓isT_list_str, ↓isT_list_tuple, ↓isT_list_list, ↓isT_list_dict, ↓isT_dict_non, ↓isT_dict_bool, ↓isT_dict_int, ↓isT_dict_str, ↓isT_dict_tuple, ↓isT_dict_list, ↓isT_dict_dict, ↓slot_0, ↓slot_1, ↓slot_2, ↓slot_3, ↓slot_4, ↓slot_5, ↓slot_6, ↓slot_7, ↓slot_8, ↓slot_9, ↓slot_10, ↓slot_11, ↓slot_12, ↓slot_13, ↓slot_14, ↓slot_15, ↓slot_16, ↓slot_17, ↓set_0, ↓set_1, ↓set_2, ↓set_3, ↓set_4, ↓set_5, ↓set_6, ↓set_7, ↓set_8, ↓set_9, ↓set_10, ↓set_11, ↓set_12, ↓set_13, ↓set_14, ↓set_15, ↓set_16, ↓set_17, ↓t_law_over]
  exact ⟨⟨sz60 hx.n1 (by decide), sz60 hy.n2 (by decide)⟩, ⟨sz60 hx.n2 (by decide), sz60 hy.n1 (by decide)⟩, _, _, rfl, Int.mul_ne_zero (by have : 0 < b := hx.pos; omega) h0, up_sz (mul_sz hx.n2 hy.n1) (by decide), _, .refl _, q⟩
end K01
end
section
set_option maxRecDepth 100000
set_option maxHeartbeats 1000000
set_option exponentiation.threshold 100
namespace K01
open PySem PySem.Spec L2 DL
variable {K : PySem.W.Frag}
def goodS (z : Str) : Prop := z.length ≤ 100000 ∧ ∀ c ∈ z.cps.toList, c < 0x110000
/-- what the law's own comparing can walk, n deep -/
def WF : Nat → Mst → D → Prop
  | 0, _, _ => False
  | n + 1, M, d => match d with
    | .non => True
    | .bl _ => True
    | .int _ => True
    | .str z => goodS z
    | .tup l => l.length ≤ 100000 ∧ ∀ x ∈ l, WF n M x
    | .lst l => l.length ≤ 100000 ∧ ∀ x ∈ l, WF n M x
    | .ref p => (∃ l, M p = some (.lst l) ∧ l.length ≤ 100000 ∧ ∀ x ∈ l, WF n M x) ∨ (∃ l, M p = some (.dct l) ∧ l.length ≤ 1000 ∧ ndK l = true ∧ (l.map (·.1)).Nodup ∧ ∀ kv ∈ l, ∀ M', WF n M' kv.2)
    | _ => False
def sp_same (n : Nat) : SpD := fun ds M Q _ => ∃ x y, ds = [x, y] ∧ NDM M ∧ ((x = y ∧ WF n M x ∧ Q (.bl true) M) ∨ (∃ i j, x = .int i ∧ y = .int j ∧ 1 ≤ n ∧ Q (.bl (decide (i = j))) M) ∨
  ∃ a b c d, x = .tup [.int a, .int b] ∧ y = .tup [.int c, .int d] ∧ 2 ≤ n ∧ Q (.bl (decide (a = c) && decide (b = d))) M)
theorem lcGo_none {i : Nat} {tt : TTd} {te : TEd} {τ : List (Option D)} {vs : List Nat} {M : Mst} {acc : List D} {Q : List D → Mst → Prop} (hq : Q acc M) : ∀ (ds : List D),
    (∀ d ∈ ds, ∀ R : Bool → DS → Prop, (∀ τ', R false ⟨τ', M⟩) → tt ⟨(wipeD τ vs).set i (some d), M⟩ R fun _ _ => False) → lcGo (.one i) tt te τ vs ds M acc Q
  | [], _ => hq
  | d :: ds, h => by
    show tt ⟨(wipeD τ vs).set i (some d), M⟩ _ _
    refine h d (.head _) _ fun τ' => ?_
    exact lcGo_none hq ds fun d' hd' => h d' (.tail _ hd')
theorem eq_nil : okEq (.lst []) = true ∧ eqD (.lst []) (.lst []) = true := ⟨rfl, rfl⟩
theorem rangeD_mem {n : Nat} {d : D} (h : d ∈ rangeD 0 n) : ∃ k : Nat, k < n ∧ d = .int (k : Int) := by
  unfold rangeD at h
  rw [List.mem_map] at h
  obtain ⟨k, hk, rfl⟩ := h
  exact ⟨k, List.mem_range.mp hk, by rw [Int.zero_add]⟩
theorem cut_one {z : Str} {k c : Nat} (h : z.cps.toList[k]? = some c) : cutS z (some (k : Int)) (some ((k : Int) + 1)) = ⟨#[c]⟩ := by
  have hl : k < z.cps.toList.length := (List.getElem?_eq_some_iff.mp h).1
  have hz : z.length = z.cps.toList.length := by show z.cps.size = _; simp
  unfold cutS
  have e : ((k : Int) + 1) = ((k + 1 : Nat) : Int) := by omega
  rw [e, HT.sIx_nat, HT.sIx_nat, hz, Nat.min_eq_left (by omega), Nat.min_eq_left (by omega), drop_cons h]
  have e2 : k + 1 - k = 1 := by omega
  rw [e2]
  rfl
theorem eqD_refl_str {a : Str} : eqD (.str a) (.str a) = true := by rw [eqD_str]; simp
theorem okEq_one {c : Nat} (h : c < 0x110000) : okEq (.str ⟨#[c]⟩) = true := by
  have : PyData.strOk ⟨#[c]⟩ = true := by
    unfold PyData.strOk
    simp [h]
  show (true && ((PyData.canLay0 (.str ⟨#[c]⟩)) && decide ((PyData.str ⟨#[c]⟩).depth ≤ 64))) = true
  unfold PyData.canLay0
  rw [this]
  rfl
theorem same_str {sp : SpD} {z : Str} {M : Mst} {Q : D → Mst → Prop} {E} (hz : goodS z) (q : Q (.bl true) M) : t_law_same K sp (endsOf Q E) ⟨[some (.str z), some (.str z), none, none], M⟩ := by
  unfold t_law_same
  refine skip_if (fun R E hR => ?_) (skip_if (fun R E hR => ?_) (skip_if (fun R E hR => ?_) (seq_stop fun R => if_t (S' := ⟨[some (.str z), some (.str z), none, none], M⟩) (fun R hR => ?_) ?_)))
  · simp only [↓dSeq_eq, ↓wnx_nx, ↓wnx_rt, ↓wnx_bk, ↓wnx_ct, ↓wnx_ex, ↓wlp_nx, ↓wlp_rt, ↓wlp_bk, ↓wlp_ct, ↓wlp_ex, ↓wex_nx, ↓wex_rt, ↓wex_bk, ↓wex_ct, ↓wex_ex, ↓en_nx, ↓en_rt, ↓en_ex, ↓forGo_nil, ↓forGo_cons, ↓dNext, ↓dBreak, ↓dCont, ↓dDrop, ↓dRet, ↓dRetN, ↓dIfS, ↓hName, ↓hNil, ↓hCons, ↓hTup, ↓dAsg, ↓dPar, ↓dTest, ↓dAnd, ↓dOr, ↓dNot, ↓dAndV, ↓dOrV, ↓dNotV, ↓dIf, ↓dVar, ↓dC, ↓dOp, ↓dUn, ↓dNil, ↓dCons, ↓dTup, ↓dLst, ↓dLstM, ↓dCall, ↓dCallK, ↓pick, ↓dCB, ↓dSeqI, ↓dFor, ↓dRange1, ↓dRange2, ↓dRaise, ↓dRaise0, ↓dIsi, ↓dIsi2, ↓oAdd, ↓oSubI, ↓oMulI, ↓oDivI, ↓oModI, ↓oPowI, ↓oSubB, ↓oCmpI, ↓oNeg, ↓oEq, ↓oNe, ↓oIsN, ↓oNotN, ↓oIsB, ↓oIx, ↓cLen, ↓lenQ, ↓D.len?, ↓cAbs, ↓cInt, ↓cMax2, ↓cMin2, ↓cGcd, ↓cSum, ↓cStr, ↓okEq_int, ↓okEq_bl, ↓okEq_non, ↓eqD_int, ↓eqD_bl, ↓eqD_intTup, ↓atI0, ↓atI1, ↓atI2, ↓atI3, ↓ty_int, ↓ty_bl, ↓ty_non, ↓ty_str, ↓ty_tup, ↓ty_lst, ↓endsOf, List.length_cons, List.length_nil, List.map_cons, List.map_nil, Bool.not_true, Bool.not_false, Bool.true_and, Bool.and_true, Bool.false_and, Bool.or_true, Bool.true_or, Bool.false_or, Bool.or_false, ite_true, ite_false, if_true, if_false, Bool.false_eq_true, reduceCtorEq, decide_true, decide_false, true_and, and_true, Bool.not_not, Option.isSome_some, if_false_left, decide_eq_true_eq, Bool.decide_eq_true, ↓isT_non_non, ↓isT_non_bool, ↓isT_non_int, ↓isT_non_str, ↓isT_non_tuple, ↓isT_non_list, ↓isT_non_dict, ↓isT_bool_non, ↓isT_bool_bool, ↓isT_bool_int, ↓isT_bool_str, ↓isT_bool_tuple, ↓isT_bool_list, ↓isT_bool_dict, ↓isT_int_non, ↓isT_int_bool, ↓isT_int_int, ↓isT_int_str, ↓isT_int_tuple, ↓isT_int_list, ↓isT_int_dict, ↓isT_str_non, ↓isT_str_bool, ↓isT_str_int, ↓isT_str_str, ↓isT_str_tuple, ↓isT_str_list, ↓isT_str_dict, ↓isT_tuple_non, ↓isT_tuple_bool, ↓isT_tuple_int, ↓isT_tuple_str, ↓isT_tuple_tuple, ↓isT_tuple_list, ↓isT_tuple_dict, ↓isT_list_non, ↓isT_list_bool, ↓isT_list_int, ↓isT_list_str, ↓isT_list_tuple, ↓isT_list_list, ↓isT_list_dict, ↓isT_dict_non, ↓isT_dict_bool, ↓isT_dict_int, ↓isT_dict_str, ↓isT_dict_tuple, ↓isT_dict_list, ↓isT_dict_dict, ↓slot_0, ↓slot_1, ↓slot_2, ↓slot_3, ↓slot_4, ↓slot_5, ↓slot_6, ↓slot_7, ↓slot_8, ↓slot_9, ↓slot_10, ↓slot_11, ↓slot_12, ↓slot_13, ↓slot_14, ↓slot_15, ↓slot_16, ↓slot_17, ↓set_0, ↓set_1, ↓set_2, ↓set_3, ↓set_4, ↓set_5, ↓set_6, ↓set_7, ↓set_8, ↓set_9, ↓set_10, ↓set_11, ↓set_12, ↓set_13, ↓set_14, ↓set_15, ↓set_16, ↓set_17, ↓D.isNon]; exact hR
  · simp only [↓dSeq_eq, ↓wnx_nx, ↓wnx_rt, ↓wnx_bk, ↓wnx_ct, ↓wnx_ex, ↓wlp_nx, ↓wlp_rt, ↓wlp_bk, ↓wlp_ct, ↓wlp_ex, ↓wex_nx, ↓wex_rt, ↓wex_bk, ↓wex_ct, ↓wex_ex, ↓en_nx, ↓en_rt, ↓en_ex, ↓forGo_nil, ↓forGo_cons, ↓dNext, ↓dBreak, ↓dCont, ↓dDrop, ↓dRet, ↓dRetN, ↓dIfS, ↓hName, ↓hNil, ↓hCons, ↓hTup, ↓dAsg, ↓dPar, ↓dTest, ↓dAnd, ↓dOr, ↓dNot, ↓dAndV, ↓dOrV, ↓dNotV, ↓dIf, ↓dVar, ↓dC, ↓dOp, ↓dUn, ↓dNil, ↓dCons, ↓dTup, ↓dLst, ↓dLstM, ↓dCall, ↓dCallK, ↓pick, ↓dCB, ↓dSeqI, ↓dFor, ↓dRange1, ↓dRange2, ↓dRaise, ↓dRaise0, ↓dIsi, ↓dIsi2, ↓oAdd, ↓oSubI, ↓oMulI, ↓oDivI, ↓oModI, ↓oPowI, ↓oSubB, ↓oCmpI, ↓oNeg, ↓oEq, ↓oNe, ↓oIsN, ↓oNotN, ↓oIsB, ↓oIx, ↓cLen, ↓lenQ, ↓D.len?, ↓cAbs, ↓cInt, ↓cMax2, ↓cMin2, ↓cGcd, ↓cSum, ↓cStr, ↓okEq_int, ↓okEq_bl, ↓okEq_non, ↓eqD_int, ↓eqD_bl, ↓eqD_intTup, ↓atI0, ↓atI1, ↓atI2, ↓atI3, ↓ty_int, ↓ty_bl, ↓ty_non, ↓ty_str, ↓ty_tup, ↓ty_lst, ↓endsOf, List.length_cons, List.length_nil, List.map_cons, List.map_nil, Bool.not_true, Bool.not_false, Bool.true_and, Bool.and_true, Bool.false_and, Bool.or_true, Bool.true_or, Bool.false_or, Bool.or_false, ite_true, ite_false, if_true, if_false, Bool.false_eq_true, reduceCtorEq, decide_true, decide_false, true_and, and_true, Bool.not_not, Option.isSome_some, if_false_left, decide_eq_true_eq, Bool.decide_eq_true, ↓isT_non_non, ↓isT_non_bool, ↓isT_non_int, ↓isT_non_str, ↓isT_non_tuple, ↓isT_non_list, ↓isT_non_dict, ↓isT_bool_non, ↓isT_bool_bool, ↓isT_bool_int, ↓isT_bool_str, ↓isT_bool_tuple, ↓isT_bool_list, ↓isT_bool_dict, ↓isT_int_non, ↓isT_int_bool, ↓isT_int_int, ↓isT_int_str, ↓isT_int_tuple, ↓isT_int_list, ↓isT_int_dict, ↓isT_str_non, ↓isT_str_bool, ↓isT_str_int, ↓isT_str_str, ↓isT_str_tuple, ↓isT_str_list, ↓isT_str_dict, ↓isT_tuple_non, ↓isT_tuple_bool, ↓isT_tuple_int, ↓isT_tuple_str, ↓isT_tuple_tuple, ↓isT_tuple_list, ↓isT_tuple_dict, ↓isT_list_non, ↓isT_list_bool, ↓isT_list_int, ↓isT_list_str, ↓isT_list_tuple, ↓isT_list_list, ↓isT_list_dict, ↓isT_dict_non, ↓isT_dict_bool, ↓isT_dict_int, ↓isT_dict_str, ↓isT_dict_tuple, ↓isT_dict_list, ↓isT_dict_dict, ↓slot_0, ↓slot_1, ↓slot_2, ↓slot_3, ↓slot_4, ↓slot_5, ↓slot_6, ↓slot_7, ↓slot_8, ↓slot_9, ↓slot_10, ↓slot_11, ↓slot_12, ↓slot_13, ↓slot_14, ↓slot_15, ↓slot_16, ↓slot_17, ↓set_0, ↓set_1, ↓set_2, ↓set_3, ↓set_4, ↓set_5, ↓set_6, ↓set_7, ↓set_8, ↓set_9, ↓set_10, ↓set_11, ↓set_12, ↓set_13, ↓set_14, ↓set_15, ↓set_16, ↓set_17]; exact hR
  · simp only [↓dSeq_eq, ↓wnx_nx, ↓wnx_rt, ↓wnx_bk, ↓wnx_ct, ↓wnx_ex, ↓wlp_nx, ↓wlp_rt, ↓wlp_bk, ↓wlp_ct, ↓wlp_ex, ↓wex_nx, ↓wex_rt, ↓wex_bk, ↓wex_ct, ↓wex_ex, ↓en_nx, ↓en_rt, ↓en_ex, ↓forGo_nil, ↓forGo_cons, ↓dNext, ↓dBreak, ↓dCont, ↓dDrop, ↓dRet, ↓dRetN, ↓dIfS, ↓hName, ↓hNil, ↓hCons, ↓hTup, ↓dAsg, ↓dPar, ↓dTest, ↓dAnd, ↓dOr, ↓dNot, ↓dAndV, ↓dOrV, ↓dNotV, ↓dIf, ↓dVar, ↓dC, ↓dOp, ↓dUn, ↓dNil, ↓dCons, ↓dTup, ↓dLst, ↓dLstM, ↓dCall, ↓dCallK, ↓pick, ↓dCB, ↓dSeqI, ↓dFor, ↓dRange1, ↓dRange2, ↓dRaise, ↓dRaise0, ↓dIsi, ↓dIsi2, ↓oAdd, ↓oSubI, ↓oMulI, ↓oDivI, ↓oModI, ↓oPowI, ↓oSubB, ↓oCmpI, ↓oNeg, ↓oEq, ↓oNe, ↓oIsN, ↓oNotN, ↓oIsB, ↓oIx, ↓cLen, ↓lenQ, ↓D.len?, ↓cAbs, ↓cInt, ↓cMax2, ↓cMin2, ↓cGcd, ↓cSum, ↓cStr, ↓okEq_int, ↓okEq_bl, ↓okEq_non, ↓eqD_int, ↓eqD_bl, ↓eqD_intTup, ↓atI0, ↓atI1, ↓atI2, ↓atI3, ↓ty_int, ↓ty_bl, ↓ty_non, ↓ty_str, ↓ty_tup, ↓ty_lst, ↓endsOf, List.length_cons, List.length_nil, List.map_cons, List.map_nil, Bool.not_true, Bool.not_false, Bool.true_and, Bool.and_true, Bool.false_and, Bool.or_true, Bool.true_or, Bool.false_or, Bool.or_false, ite_true, ite_false, if_true, if_false, Bool.false_eq_true, reduceCtorEq, decide_true, decide_false, true_and, and_true, Bool.not_not, Option.isSome_some, if_false_left, decide_eq_true_eq, Bool.decide_eq_true, ↓isT_non_non, ↓isT_non_bool, ↓isT_non_int, ↓isT_non_str, ↓isT_non_tuple, ↓isT_non_list, ↓isT_non_dict, ↓isT_bool_non, ↓isT_bool_bool, ↓isT_bool_int, ↓isT_bool_str, ↓isT_bool_tuple, ↓isT_bool_list, ↓isT_bool_dict, ↓isT_int_non, ↓isT_int_bool, ↓isT_int_int, ↓isT_int_str, ↓isT_int_tuple, ↓isT_int_list, ↓isT_int_dict, ↓isT_str_non, ↓isT_str_bool, ↓isT_str_int, ↓isT_str_str, ↓isT_str_tuple, ↓isT_str_list, ↓isT_str_dict, ↓isT_tuple_non, ↓isT_tuple_bool, ↓isT_tuple_int, ↓isT_tuple_str, ↓isT_tuple_tuple, ↓isT_tuple_list, ↓isT_tuple_dict, ↓isT_list_non, ↓isT_list_bool, ↓isT_list_int, ↓isT_list_str, ↓isT_list_tuple, ↓isT_list_list, ↓isT_list_dict, ↓isT_dict_non, ↓isT_dict_bool, ↓isT_dict_int, ↓isT_dict_str, ↓isT_dict_tuple, ↓isT_dict_list, ↓isT_dict_dict, ↓slot_0, ↓slot_1, ↓slot_2, ↓slot_3, ↓slot_4, ↓slot_5, ↓slot_6, ↓slot_7, ↓slot_8, ↓slot_9, ↓slot_10, ↓slot_11, ↓slot_12, ↓slot_13, ↓slot_14, ↓slot_15, ↓slot_16, ↓slot_17, ↓set_0, ↓set_1, ↓set_2, ↓set_3, ↓set_4, ↓set_5, ↓set_6, ↓set_7, ↓set_8, ↓set_9, ↓set_10, ↓set_11, ↓set_12, ↓set_13, ↓set_14, ↓set_15, ↓set_16, ↓set_17]; exact hR
  · simp only [↓dSeq_eq, ↓wnx_nx, ↓wnx_rt, ↓wnx_bk, ↓wnx_ct, ↓wnx_ex, ↓wlp_nx, ↓wlp_rt, ↓wlp_bk, ↓wlp_ct, ↓wlp_ex, ↓wex_nx, ↓wex_rt, ↓wex_bk, ↓wex_ct, ↓wex_ex, ↓en_nx, ↓en_rt, ↓en_ex, ↓forGo_nil, ↓forGo_cons, ↓dNext, ↓dBreak, ↓dCont, ↓dDrop, ↓dRet, ↓dRetN, ↓dIfS, ↓hName, ↓hNil, ↓hCons, ↓hTup, ↓dAsg, ↓dPar, ↓dTest, ↓dAnd, ↓dOr, ↓dNot, ↓dAndV, ↓dOrV, ↓dNotV, ↓dIf, ↓dVar, ↓dC, ↓dOp, ↓dUn, ↓dNil, ↓dCons, ↓dTup, ↓dLst, ↓dLstM, ↓dCall, ↓dCallK, ↓pick, ↓dCB, ↓dSeqI, ↓dFor, ↓dRange1, ↓dRange2, ↓dRaise, ↓dRaise0, ↓dIsi, ↓dIsi2, ↓oAdd, ↓oSubI, ↓oMulI, ↓oDivI, ↓oModI, ↓oPowI, ↓oSubB, ↓oCmpI, ↓oNeg, ↓oEq, ↓oNe, ↓oIsN, ↓oNotN, ↓oIsB, ↓oIx, ↓cLen, ↓lenQ, ↓D.len?, ↓cAbs, ↓cInt, ↓cMax2, ↓cMin2, ↓cGcd, ↓cSum, ↓cStr, ↓okEq_int, ↓okEq_bl, ↓okEq_non, ↓eqD_int, ↓eqD_bl, ↓eqD_intTup, ↓atI0, ↓atI1, ↓atI2, ↓atI3, ↓ty_int, ↓ty_bl, ↓ty_non, ↓ty_str, ↓ty_tup, ↓ty_lst, ↓endsOf, List.length_cons, List.length_nil, List.map_cons, List.map_nil, Bool.not_true, Bool.not_false, Bool.true_and, Bool.and_true, Bool.false_and, Bool.or_true, Bool.true_or, Bool.false_or, Bool.or_false, ite_true, ite_false, if_true, if_false, Bool.false_eq_true, reduceCtorEq, decide_true, decide_false, true_and, and_true, Bool.not_not, Option.isSome_some, if_false_left, decide_eq_true_eq, Bool.decide_eq_true, ↓isT_non_non, ↓isT_non_bool, ↓isT_non_int, ↓isT_non_str, ↓isT_non_tuple, ↓isT_non_list, ↓isT_non_dict, ↓isT_bool_non, ↓isT_bool_bool, ↓isT_bool_int, ↓isT_bool_str, ↓isT_bool_tuple, ↓isT_bool_list, ↓isT_bool_dict, ↓isT_int_non, ↓isT_int_bool, ↓isT_int_int, ↓isT_int_str, ↓isT_int_tuple, ↓isT_int_list, ↓isT_int_dict, ↓isT_str_non, ↓isT_str_bool, ↓isT_str_int, ↓isT_str_str, ↓isT_str_tuple, ↓isT_str_list, ↓isT_str_dict, ↓isT_tuple_non, ↓isT_tuple_bool, ↓isT_tuple_int, ↓isT_tuple_str, ↓isT_tuple_tuple, ↓isT_tuple_list, ↓isT_tuple_dict, ↓isT_list_non, ↓isT_list_bool, ↓isT_list_int, ↓isT_list_str, ↓isT_list_tuple, ↓isT_list_list, ↓isT_list_dict, ↓isT_dict_non, ↓isT_dict_bool, ↓isT_dict_int, ↓isT_dict_str, ↓isT_dict_tuple, ↓isT_dict_list, ↓isT_dict_dict, ↓slot_0, ↓slot_1, ↓slot_2, ↓slot_3, ↓slot_4, ↓slot_5, ↓slot_6, ↓slot_7, ↓slot_8, ↓slot_9, ↓slot_10, ↓slot_11, ↓slot_12, ↓slot_13, ↓slot_14, ↓slot_15, ↓slot_16, ↓slot_17, ↓set_0, ↓set_1, ↓set_2, ↓set_3, ↓set_4, ↓set_5, ↓set_6, ↓set_7, ↓set_8, ↓set_9, ↓set_10, ↓set_11, ↓set_12, ↓set_13, ↓set_14, ↓set_15, ↓set_16, ↓set_17]; exact hR
  simp only [↓dSeq_eq, ↓wnx_nx, ↓wnx_rt, ↓wnx_bk, ↓wnx_ct, ↓wnx_ex, ↓wlp_nx, ↓wlp_rt, ↓wlp_bk, ↓wlp_ct, ↓wlp_ex, ↓wex_nx, ↓wex_rt, ↓wex_bk, ↓wex_ct, ↓wex_ex, ↓en_nx, ↓en_rt, ↓en_ex, ↓forGo_nil, ↓forGo_cons, ↓dNext, ↓dBreak, ↓dCont, ↓dDrop, ↓dRet, ↓dRetN, ↓dIfS, ↓hName, ↓hNil, ↓hCons, ↓hTup, ↓dAsg, ↓dPar, ↓dTest, ↓dAnd, ↓dOr, ↓dNot, ↓dAndV, ↓dOrV, ↓dNotV, ↓dIf, ↓dVar, ↓dC, ↓dOp, ↓dUn, ↓dNil, ↓dCons, ↓dTup, ↓dLst, ↓dLstM, ↓dCall, ↓dCallK, ↓pick, ↓dCB, ↓dSeqI, ↓dFor, ↓dRange1, ↓dRange2, ↓dRaise, ↓dRaise0, ↓dIsi, ↓dIsi2, ↓oAdd, ↓oSubI, ↓oMulI, ↓oDivI, ↓oModI, ↓oPowI, ↓oSubB, ↓oCmpI, ↓oNeg, ↓oEq, ↓oNe, ↓oIsN, ↓oNotN, ↓oIsB, ↓oIx, ↓cLen, ↓lenQ, ↓D.len?, ↓cAbs, ↓cInt, ↓cMax2, ↓cMin2, ↓cGcd, ↓cSum, ↓cStr, ↓okEq_int, ↓okEq_bl, ↓okEq_non, ↓eqD_int, ↓eqD_bl, ↓eqD_intTup, ↓atI0, ↓atI1, ↓atI2, ↓atI3, ↓ty_int, ↓ty_bl, ↓ty_non, ↓ty_str, ↓ty_tup, ↓ty_lst, ↓endsOf, List.length_cons, List.length_nil, List.map_cons, List.map_nil, Bool.not_true, Bool.not_false, Bool.true_and, Bool.and_true, Bool.false_and, Bool.or_true, Bool.true_or, Bool.false_or, Bool.or_false, ite_true, ite_false, if_true, if_false, Bool.false_eq_true, reduceCtorEq, decide_true, decide_false, true_and, and_true, Bool.not_not, Option.isSome_some, if_false_left, decide_eq_true_eq, Bool.decide_eq_true, ↓isT_non_non, ↓isT_non_bool, ↓isT_non_int, ↓isT_non_str, ↓isT_non_tuple, ↓isT_non_list, ↓isT_non_dict, ↓isT_bool_non, ↓isT_bool_bool, ↓isT_bool_int, ↓isT_bool_str, ↓isT_bool_tuple, ↓isT_bool_list, ↓isT_bool_dict, ↓isT_int_non, ↓isT_int_bool, ↓isT_int_int, ↓isT_int_str, ↓isT_int_tuple, ↓isT_int_list, ↓isT_int_dict, ↓isT_str_non, ↓isT_str_bool, ↓isT_str_int, ↓isT_str_str, ↓isT_str_tuple, ↓isT_str_list, ↓isT_str_dict, ↓isT_tuple_non, ↓isT_tuple_bool, ↓isT_tuple_int, ↓isT_tuple_str, ↓isT_tuple_tuple, ↓isT_tuple_list, ↓isT_tuple_dict, ↓isT_list_non, ↓isT_list_bool, ↓isT_list_int, ↓isT_list_str, ↓isT_list_tuple, ↓isT_list_list, ↓isT_list_dict, ↓isT_dict_non, ↓isT_dict_bool, ↓isT_dict_int, ↓isT_dict_str, ↓isT_dict_tuple, ↓isT_dict_list, ↓isT_dict_dict, ↓slot_0, ↓slot_1, ↓slot_2, ↓slot_3, ↓slot_4, ↓slot_5, ↓slot_6, ↓slot_7, ↓slot_8, ↓slot_9, ↓slot_10, ↓slot_11, ↓slot_12, ↓slot_13, ↓slot_14, ↓slot_15, ↓slot_16, ↓slot_17, ↓set_0, ↓set_1, ↓set_2, ↓set_3, ↓set_4, ↓set_5, ↓set_6, ↓set_7, ↓set_8, ↓set_9, ↓set_10, ↓set_11, ↓set_12, ↓set_13, ↓set_14, ↓set_15, ↓set_16, ↓set_17, ↓dLc, hz.1]
  refine ⟨by have := hz.1; omega, by omega, ?_⟩
  refine lcGo_none ?_ _ fun d hd R hR => ?_
  · simp only [↓dSeq_eq, ↓wnx_nx, ↓wnx_rt, ↓wnx_bk, ↓wnx_ct, ↓wnx_ex, ↓wlp_nx, ↓wlp_rt, ↓wlp_bk, ↓wlp_ct, ↓wlp_ex, ↓wex_nx, ↓wex_rt, ↓wex_bk, ↓wex_ct, ↓wex_ex, ↓en_nx, ↓en_rt, ↓en_ex, ↓forGo_nil, ↓forGo_cons, ↓dNext, ↓dBreak, ↓dCont, ↓dDrop, ↓dRet, ↓dRetN, ↓dIfS, ↓hName, ↓hNil, ↓hCons, ↓hTup, ↓dAsg, ↓dPar, ↓dTest, ↓dAnd, ↓dOr, ↓dNot, ↓dAndV, ↓dOrV, ↓dNotV, ↓dIf, ↓dVar, ↓dC, ↓dOp, ↓dUn, ↓dNil, ↓dCons, ↓dTup, ↓dLst, ↓dLstM, ↓dCall, ↓dCallK, ↓pick, ↓dCB, ↓dSeqI, ↓dFor, ↓dRange1, ↓dRange2, ↓dRaise, ↓dRaise0, ↓dIsi, ↓dIsi2, ↓oAdd, ↓oSubI, ↓oMulI, ↓oDivI, ↓oModI, ↓oPowI, ↓oSubB, ↓oCmpI, ↓oNeg, ↓oEq, ↓oNe, ↓oIsN, ↓oNotN, ↓oIsB, ↓oIx, ↓cLen, ↓lenQ, ↓D.len?, ↓cAbs, ↓cInt, ↓cMax2, ↓cMin2, ↓cGcd, ↓cSum, ↓cStr, ↓okEq_int, ↓okEq_bl, ↓okEq_non, ↓eqD_int, ↓eqD_bl, ↓eqD_intTup, ↓atI0, ↓atI1, ↓atI2, ↓atI3, ↓ty_int, ↓ty_bl, ↓ty_non, ↓ty_str, ↓ty_tup, ↓ty_lst, ↓endsOf, List.length_cons, List.length_nil, List.map_cons, List.map_nil, Bool.not_true, Bool.not_false, Bool.true_and, Bool.and_true, Bool.false_and, Bool.or_true, Bool.true_or, Bool.false_or, Bool.or_false, ite_true, ite_false, if_true, if_false, Bool.false_eq_true, reduceCtorEq, decide_true, decide_false, true_and, and_true, Bool.not_not, Option.isSome_some, if_false_left, decide_eq_true_eq, Bool.decide_eq_true, ↓isT_non_non, ↓isT_non_bool, ↓isT_non_int, ↓isT_non_str, ↓isT_non_tuple, ↓isT_non_list, ↓isT_non_dict, ↓isT_bool_non, ↓isT_bool_bool, ↓isT_bool_int, ↓isT_bool_str, ↓isT_bool_tuple, ↓isT_bool_list, ↓isT_bool_dict, ↓isT_int_non, ↓isT_int_bool, ↓isT_int_int, ↓isT_int_str, ↓isT_int_tuple, ↓isT_int_list, ↓isT_int_dict, ↓isT_str_non, ↓isT_str_bool, ↓isT_str_int, ↓isT_str_str, ↓isT_str_tuple, ↓isT_str_list, ↓isT_str_dict, ↓isT_tuple_non, ↓isT_tuple_bool, ↓isT_tuple_int, ↓isT_tuple_str, ↓isT_tuple_tuple, ↓isT_tuple_list, ↓isT_tuple_dict, ↓isT_list_non, ↓isT_list_bool, ↓isT_list_int, ↓isT_list_str, ↓isT_list_tuple, ↓isT_list_list, ↓isT_list_dict, ↓isT_dict_non, ↓isT_dict_bool, ↓isT_dict_int, ↓isT_dict_str, ↓isT_dict_tuple, ↓isT_dict_list, ↓isT_dict_dict, ↓slot_0, ↓slot_1, ↓slot_2, ↓slot_3, ↓slot_4, ↓slot_5, ↓slot_6, ↓slot_7, ↓slot_8, ↓slot_9, ↓slot_10, ↓slot_11, ↓slot_12, ↓slot_13, ↓slot_14, ↓slot_15, ↓slot_16, ↓slot_17, ↓set_0, ↓set_1, ↓set_2, ↓set_3, ↓set_4, ↓set_5, ↓set_6, ↓set_7, ↓set_8, ↓set_9, ↓set_10, ↓set_11, ↓set_12, ↓set_13, ↓set_14, ↓set_15, ↓set_16, ↓set_17, eq_nil.1, eq_nil.2]
    exact ⟨by decide, _, .refl _, q⟩
  · obtain ⟨k, hk, rfl⟩ := rangeD_mem hd
    have hk2 : k < z.cps.toList.length := by
      have e : z.length = z.cps.toList.length := by show z.cps.size = _; simp
      have : (z.length : Int).toNat = z.length := by omega
      omega
    have e := List.getElem?_eq_getElem hk2
    have e1 := atI_nat e
    have e2 := cut_one e
    have e3 := okEq_one (hz.2 _ (List.getElem_mem hk2))
    simp only [↓dSeq_eq, ↓wnx_nx, ↓wnx_rt, ↓wnx_bk, ↓wnx_ct, ↓wnx_ex, ↓wlp_nx, ↓wlp_rt, ↓wlp_bk, ↓wlp_ct, ↓wlp_ex, ↓wex_nx, ↓wex_rt, ↓wex_bk, ↓wex_ct, ↓wex_ex, ↓en_nx, ↓en_rt, ↓en_ex, ↓forGo_nil, ↓forGo_cons, ↓dNext, ↓dBreak, ↓dCont, ↓dDrop, ↓dRet, ↓dRetN, ↓dIfS, ↓hName, ↓hNil, ↓hCons, ↓hTup, ↓dAsg, ↓dPar, ↓dTest, ↓dAnd, ↓dOr, ↓dNot, ↓dAndV, ↓dOrV, ↓dNotV, ↓dIf, ↓dVar, ↓dC, ↓dOp, ↓dUn, ↓dNil, ↓dCons, ↓dTup, ↓dLst, ↓dLstM, ↓dCall, ↓dCallK, ↓pick, ↓dCB, ↓dSeqI, ↓dFor, ↓dRange1, ↓dRange2, ↓dRaise, ↓dRaise0, ↓dIsi, ↓dIsi2, ↓oAdd, ↓oSubI, ↓oMulI, ↓oDivI, ↓oModI, ↓oPowI, ↓oSubB, ↓oCmpI, ↓oNeg, ↓oEq, ↓oNe, ↓oIsN, ↓oNotN, ↓oIsB, ↓oIx, ↓cLen, ↓lenQ, ↓D.len?, ↓cAbs, ↓cInt, ↓cMax2, ↓cMin2, ↓cGcd, ↓cSum, ↓cStr, ↓okEq_int, ↓okEq_bl, ↓okEq_non, ↓eqD_int, ↓eqD_bl, ↓eqD_intTup, ↓atI0, ↓atI1, ↓atI2, ↓atI3, ↓ty_int, ↓ty_bl, ↓ty_non, ↓ty_str, ↓ty_tup, ↓ty_lst, ↓endsOf, List.length_cons, List.length_nil, List.map_cons, List.map_nil, Bool.not_true, Bool.not_false, Bool.true_and, Bool.and_true, Bool.false_and, Bool.or_true, Bool.true_or, Bool.false_or, Bool.or_false, ite_true, ite_false, if_true, if_false, Bool.false_eq_true, reduceCtorEq, decide_true, decide_false, true_and, and_true, Bool.not_not, Option.isSome_some, if_false_left, decide_eq_true_eq, Bool.decide_eq_true, ↓isT_non_non, ↓isT_non_bool, ↓isT_non_int, ↓isT_non_str, ↓isT_non_tuple, ↓isT_non_list, ↓isT_non_dict, ↓isT_bool_non, ↓isT_bool_bool, ↓isT_bool_int, ↓isT_bool_str, ↓isT_bool_tuple, ↓isT_bool_list, ↓isT_bool_dict, ↓isT_int_non, ↓isT_int_bool, ↓isT_int_int, ↓isT_int_str, ↓isT_int_tuple, ↓isT_int_list, ↓isT_int_dict, ↓isT_str_non, ↓isT_str_bool, ↓isT_str_int, ↓isT_str_str, ↓isT_str_tuple, ↓isT_str_list, ↓isT_str_dict, ↓isT_tuple_non, ↓isT_tuple_bool, ↓isT_tuple_int, ↓isT_tuple_str, ↓isT_tuple_tuple, ↓isT_tuple_list, ↓isT_tuple_dict, ↓isT_list_non, ↓isT_list_bool, ↓isT_list_int, ↓isT_list_str, ↓isT_list_tuple, ↓isT_list_list, ↓isT_list_dict, ↓isT_dict_non, ↓isT_dict_bool, ↓isT_dict_int, ↓isT_dict_str, ↓isT_dict_tuple, ↓isT_dict_list, ↓isT_dict_dict, ↓slot_0, ↓slot_1, ↓slot_2, ↓slot_3, ↓slot_4, ↓slot_5, ↓slot_6, ↓slot_7, ↓slot_8, ↓slot_9, ↓slot_10, ↓slot_11, ↓slot_12, ↓slot_13, ↓slot_14, ↓slot_15, ↓slot_16, ↓slot_17, ↓set_0, ↓set_1, ↓set_2, ↓set_3, ↓set_4, ↓set_5, ↓set_6, ↓set_7, ↓set_8, ↓set_9, ↓set_10, ↓set_11, ↓set_12, ↓set_13, ↓set_14, ↓set_15, ↓set_16, ↓set_17, ↓wipeD, ↓dSl, ↓dPart, ↓oSl, hz.1, e1, e2, e3, ↓eqD_refl_str]
    exact hR _
theorem atI_same {l : List D} {k : Nat} (h : k < l.length) : ∃ x, x ∈ l ∧ atI l (k : Int) = some x := ⟨_, List.getElem_mem h, atI_nat (List.getElem?_eq_getElem h)⟩
theorem same_head {sp : SpD} {M : Mst} {Q : D → Mst → Prop} {E : Er → Mst → Prop} {x : D} {t : Ty} (ht : x.ty M = some t) (hl : t = .tuple ∨ t = .list)
    (h : (dSeq (dIfS (dOr (dTest (dOp oNe (dIsi .list (dVar 0)) (dIsi .list (dVar 1)))) (dTest (dOp oNe (dCB cLen (dCons (dVar 0) dNil)) (dCB cLen (dCons (dVar 1) dNil))))) (dRet (dC (.bl false))) dNext)
 (dRet (dOp oEq (dLc (dRange1 (dCons (dCB cLen (dCons (dVar 1) dNil)) dNil)) (.one 2) (dNot (dTest (dCall sp (dCons (dOp oIx (dVar 0) (dVar 2)) (dCons (dOp oIx (dVar 1) (dVar 2)) dNil))))) (dVar 2) [2]) (dLst dNil)))) (endsOf Q E) ⟨[some x, some x, none, none], M⟩) :
    t_law_same K sp (endsOf Q E) ⟨[some x, some x, none, none], M⟩ := by
  have hn : x.isNon = false := by
    cases x <;> first | rfl | (cases ht; rcases hl with e | e <;> cases e)
  unfold t_law_same
  refine skip_if (fun R E hR => ?_) ?_
  · have nn : D.isNon .non = true := rfl
    simp only [↓dSeq_eq, ↓wnx_nx, ↓wnx_rt, ↓wnx_bk, ↓wnx_ct, ↓wnx_ex, ↓wlp_nx, ↓wlp_rt, ↓wlp_bk, ↓wlp_ct, ↓wlp_ex, ↓wex_nx, ↓wex_rt, ↓wex_bk, ↓wex_ct, ↓wex_ex, ↓en_nx, ↓en_rt, ↓en_ex, ↓forGo_nil, ↓forGo_cons, ↓dNext, ↓dBreak, ↓dCont, ↓dDrop, ↓dRet, ↓dRetN, ↓dIfS, ↓hName, ↓hNil, ↓hCons, ↓hTup, ↓dAsg, ↓dPar, ↓dTest, ↓dAnd, ↓dOr, ↓dNot, ↓dAndV, ↓dOrV, ↓dNotV, ↓dIf, ↓dVar, ↓dC, ↓dOp, ↓dUn, ↓dNil, ↓dCons, ↓dTup, ↓dLst, ↓dLstM, ↓dCall, ↓dCallK, ↓pick, ↓dCB, ↓dSeqI, ↓dFor, ↓dRange1, ↓dRange2, ↓dRaise, ↓dRaise0, ↓dIsi, ↓dIsi2, ↓oAdd, ↓oSubI, ↓oMulI, ↓oDivI, ↓oModI, ↓oPowI, ↓oSubB, ↓oCmpI, ↓oNeg, ↓oEq, ↓oNe, ↓oIsN, ↓oNotN, ↓oIsB, ↓oIx, ↓cLen, ↓lenQ, ↓D.len?, ↓cAbs, ↓cInt, ↓cMax2, ↓cMin2, ↓cGcd, ↓cSum, ↓cStr, ↓okEq_int, ↓okEq_bl, ↓okEq_non, ↓eqD_int, ↓eqD_bl, ↓eqD_intTup, ↓atI0, ↓atI1, ↓atI2, ↓atI3, ↓ty_int, ↓ty_bl, ↓ty_non, ↓ty_str, ↓ty_tup, ↓ty_lst, ↓endsOf, List.length_cons, List.length_nil, List.map_cons, List.map_nil, Bool.not_true, Bool.not_false, Bool.true_and, Bool.and_true, Bool.false_and, Bool.or_true, Bool.true_or, Bool.false_or, Bool.or_false, ite_true, ite_false, if_true, if_false, Bool.false_eq_true, reduceCtorEq, decide_true, decide_false, true_and, and_true, Bool.not_not, Option.isSome_some, if_false_left, decide_eq_true_eq, Bool.decide_eq_true, ↓isT_non_non, ↓isT_non_bool, ↓isT_non_int, ↓isT_non_str, ↓isT_non_tuple, ↓isT_non_list, ↓isT_non_dict, ↓isT_bool_non, ↓isT_bool_bool, ↓isT_bool_int, ↓isT_bool_str, ↓isT_bool_tuple, ↓isT_bool_list, ↓isT_bool_dict, ↓isT_int_non, ↓isT_int_bool, ↓isT_int_int, ↓isT_int_str, ↓isT_int_tuple, ↓isT_int_list, ↓isT_int_dict, ↓isT_str_non, ↓isT_str_bool, ↓isT_str_int, ↓isT_str_str, ↓isT_str_tuple, ↓isT_str_list, ↓isT_str_dict, ↓isT_tuple_non, ↓isT_tuple_bool, ↓isT_tuple_int, ↓isT_tuple_str, ↓isT_tuple_tuple, ↓isT_tuple_list, ↓isT_tuple_dict, ↓isT_list_non, ↓isT_list_bool, ↓isT_list_int, ↓isT_list_str, ↓isT_list_tuple, ↓isT_list_list, ↓isT_list_dict, ↓isT_dict_non, ↓isT_dict_bool, ↓isT_dict_int, ↓isT_dict_str, ↓isT_dict_tuple, ↓isT_dict_list, ↓isT_dict_dict, ↓slot_0, ↓slot_1, ↓slot_2, ↓slot_3, ↓slot_4, ↓slot_5, ↓slot_6, ↓slot_7, ↓slot_8, ↓slot_9, ↓slot_10, ↓slot_11, ↓slot_12, ↓slot_13, ↓slot_14, ↓slot_15, ↓slot_16, ↓slot_17, ↓set_0, ↓set_1, ↓set_2, ↓set_3, ↓set_4, ↓set_5, ↓set_6, ↓set_7, ↓set_8, ↓set_9, ↓set_10, ↓set_11, ↓set_12, ↓set_13, ↓set_14, ↓set_15, ↓set_16, ↓set_17, hn, nn]; exact hR
  rcases hl with rfl | rfl
  · refine skip_if (fun R E hR => ?_) (skip_if (fun R E hR => ?_) (skip_if (fun R E hR => ?_) (skip_if (fun R E hR => ?_) (skip_if (fun R E hR => ?_) h))))
    · simp only [↓dSeq_eq, ↓wnx_nx, ↓wnx_rt, ↓wnx_bk, ↓wnx_ct, ↓wnx_ex, ↓wlp_nx, ↓wlp_rt, ↓wlp_bk, ↓wlp_ct, ↓wlp_ex, ↓wex_nx, ↓wex_rt, ↓wex_bk, ↓wex_ct, ↓wex_ex, ↓en_nx, ↓en_rt, ↓en_ex, ↓forGo_nil, ↓forGo_cons, ↓dNext, ↓dBreak, ↓dCont, ↓dDrop, ↓dRet, ↓dRetN, ↓dIfS, ↓hName, ↓hNil, ↓hCons, ↓hTup, ↓dAsg, ↓dPar, ↓dTest, ↓dAnd, ↓dOr, ↓dNot, ↓dAndV, ↓dOrV, ↓dNotV, ↓dIf, ↓dVar, ↓dC, ↓dOp, ↓dUn, ↓dNil, ↓dCons, ↓dTup, ↓dLst, ↓dLstM, ↓dCall, ↓dCallK, ↓pick, ↓dCB, ↓dSeqI, ↓dFor, ↓dRange1, ↓dRange2, ↓dRaise, ↓dRaise0, ↓dIsi, ↓dIsi2, ↓oAdd, ↓oSubI, ↓oMulI, ↓oDivI, ↓oModI, ↓oPowI, ↓oSubB, ↓oCmpI, ↓oNeg, ↓oEq, ↓oNe, ↓oIsN, ↓oNotN, ↓oIsB, ↓oIx, ↓cLen, ↓lenQ, ↓D.len?, ↓cAbs, ↓cInt, ↓cMax2, ↓cMin2, ↓cGcd, ↓cSum, ↓cStr, ↓okEq_int, ↓okEq_bl, ↓okEq_non, ↓eqD_int, ↓eqD_bl, ↓eqD_intTup, ↓atI0, ↓atI1, ↓atI2, ↓atI3, ↓ty_int, ↓ty_bl, ↓ty_non, ↓ty_str, ↓ty_tup, ↓ty_lst, ↓endsOf, List.length_cons, List.length_nil, List.map_cons, List.map_nil, Bool.not_true, Bool.not_false, Bool.true_and, Bool.and_true, Bool.false_and, Bool.or_true, Bool.true_or, Bool.false_or, Bool.or_false, ite_true, ite_false, if_true, if_false, Bool.false_eq_true, reduceCtorEq, decide_true, decide_false, true_and, and_true, Bool.not_not, Option.isSome_some, if_false_left, decide_eq_true_eq, Bool.decide_eq_true, ↓isT_non_non, ↓isT_non_bool, ↓isT_non_int, ↓isT_non_str, ↓isT_non_tuple, ↓isT_non_list, ↓isT_non_dict, ↓isT_bool_non, ↓isT_bool_bool, ↓isT_bool_int, ↓isT_bool_str, ↓isT_bool_tuple, ↓isT_bool_list, ↓isT_bool_dict, ↓isT_int_non, ↓isT_int_bool, ↓isT_int_int, ↓isT_int_str, ↓isT_int_tuple, ↓isT_int_list, ↓isT_int_dict, ↓isT_str_non, ↓isT_str_bool, ↓isT_str_int, ↓isT_str_str, ↓isT_str_tuple, ↓isT_str_list, ↓isT_str_dict, ↓isT_tuple_non, ↓isT_tuple_bool, ↓isT_tuple_int, ↓isT_tuple_str, ↓isT_tuple_tuple, ↓isT_tuple_list, ↓isT_tuple_dict, ↓isT_list_non, ↓isT_list_bool, ↓isT_list_int, ↓isT_list_str, ↓isT_list_tuple, ↓isT_list_list, ↓isT_list_dict, ↓isT_dict_non, ↓isT_dict_bool, ↓isT_dict_int, ↓isT_dict_str, ↓isT_dict_tuple, ↓isT_dict_list, ↓isT_dict_dict, ↓slot_0, ↓slot_1, ↓slot_2, ↓slot_3, ↓slot_4, ↓slot_5, ↓slot_6, ↓slot_7, ↓slot_8, ↓slot_9, ↓slot_10, ↓slot_11, ↓slot_12, ↓slot_13, ↓slot_14, ↓slot_15, ↓slot_16, ↓slot_17, ↓set_0, ↓set_1, ↓set_2, ↓set_3, ↓set_4, ↓set_5, ↓set_6, ↓set_7, ↓set_8, ↓set_9, ↓set_10, ↓set_11, ↓set_12, ↓set_13, ↓set_14, ↓set_15, ↓set_16, ↓set_17, ht]; exact hR
    · simp only [↓dSeq_eq, ↓wnx_nx, ↓wnx_rt, ↓wnx_bk, ↓wnx_ct, ↓wnx_ex, ↓wlp_nx, ↓wlp_rt, ↓wlp_bk, ↓wlp_ct, ↓wlp_ex, ↓wex_nx, ↓wex_rt, ↓wex_bk, ↓wex_ct, ↓wex_ex, ↓en_nx, ↓en_rt, ↓en_ex, ↓forGo_nil, ↓forGo_cons, ↓dNext, ↓dBreak, ↓dCont, ↓dDrop, ↓dRet, ↓dRetN, ↓dIfS, ↓hName, ↓hNil, ↓hCons, ↓hTup, ↓dAsg, ↓dPar, ↓dTest, ↓dAnd, ↓dOr, ↓dNot, ↓dAndV, ↓dOrV, ↓dNotV, ↓dIf, ↓dVar, ↓dC, ↓dOp, ↓dUn, ↓dNil, ↓dCons, ↓dTup, ↓dLst, ↓dLstM, ↓dCall, ↓dCallK, ↓pick, ↓dCB, ↓dSeqI, ↓dFor, ↓dRange1, ↓dRange2, ↓dRaise, ↓dRaise0, ↓dIsi, ↓dIsi2, ↓oAdd, ↓oSubI, ↓oMulI, ↓oDivI, ↓oModI, ↓oPowI, ↓oSubB, ↓oCmpI, ↓oNeg, ↓oEq, ↓oNe, ↓oIsN, ↓oNotN, ↓oIsB, ↓oIx, ↓cLen, ↓lenQ, ↓D.len?, ↓cAbs, ↓cInt, ↓cMax2, ↓cMin2, ↓cGcd, ↓cSum, ↓cStr, ↓okEq_int, ↓okEq_bl, ↓okEq_non, ↓eqD_int, ↓eqD_bl, ↓eqD_intTup, ↓atI0, ↓atI1, ↓atI2, ↓atI3, ↓ty_int, ↓ty_bl, ↓ty_non, ↓ty_str, ↓ty_tup, ↓ty_lst, ↓endsOf, List.length_cons, List.length_nil, List.map_cons, List.map_nil, Bool.not_true, Bool.not_false, Bool.true_and, Bool.and_true, Bool.false_and, Bool.or_true, Bool.true_or, Bool.false_or, Bool.or_false, ite_true, ite_false, if_true, if_false, Bool.false_eq_true, reduceCtorEq, decide_true, decide_false, true_and, and_true, Bool.not_not, Option.isSome_some, if_false_left, decide_eq_true_eq, Bool.decide_eq_true, ↓isT_non_non, ↓isT_non_bool, ↓isT_non_int, ↓isT_non_str, ↓isT_non_tuple, ↓isT_non_list, ↓isT_non_dict, ↓isT_bool_non, ↓isT_bool_bool, ↓isT_bool_int, ↓isT_bool_str, ↓isT_bool_tuple, ↓isT_bool_list, ↓isT_bool_dict, ↓isT_int_non, ↓isT_int_bool, ↓isT_int_int, ↓isT_int_str, ↓isT_int_tuple, ↓isT_int_list, ↓isT_int_dict, ↓isT_str_non, ↓isT_str_bool, ↓isT_str_int, ↓isT_str_str, ↓isT_str_tuple, ↓isT_str_list, ↓isT_str_dict, ↓isT_tuple_non, ↓isT_tuple_bool, ↓isT_tuple_int, ↓isT_tuple_str, ↓isT_tuple_tuple, ↓isT_tuple_list, ↓isT_tuple_dict, ↓isT_list_non, ↓isT_list_bool, ↓isT_list_int, ↓isT_list_str, ↓isT_list_tuple, ↓isT_list_list, ↓isT_list_dict, ↓isT_dict_non, ↓isT_dict_bool, ↓isT_dict_int, ↓isT_dict_str, ↓isT_dict_tuple, ↓isT_dict_list, ↓isT_dict_dict, ↓slot_0, ↓slot_1, ↓slot_2, ↓slot_3, ↓slot_4, ↓slot_5, ↓slot_6, ↓slot_7, ↓slot_8, ↓slot_9, ↓slot_10, ↓slot_11, ↓slot_12, ↓slot_13, ↓slot_14, ↓slot_15, ↓slot_16, ↓slot_17, ↓set_0, ↓set_1, ↓set_2, ↓set_3, ↓set_4, ↓set_5, ↓set_6, ↓set_7, ↓set_8, ↓set_9, ↓set_10, ↓set_11, ↓set_12, ↓set_13, ↓set_14, ↓set_15, ↓set_16, ↓set_17, ht]; exact hR
    · simp only [↓dSeq_eq, ↓wnx_nx, ↓wnx_rt, ↓wnx_bk, ↓wnx_ct, ↓wnx_ex, ↓wlp_nx, ↓wlp_rt, ↓wlp_bk, ↓wlp_ct, ↓wlp_ex, ↓wex_nx, ↓wex_rt, ↓wex_bk, ↓wex_ct, ↓wex_ex, ↓en_nx, ↓en_rt, ↓en_ex, ↓forGo_nil, ↓forGo_cons, ↓dNext, ↓dBreak, ↓dCont, ↓dDrop, ↓dRet, ↓dRetN, ↓dIfS, ↓hName, ↓hNil, ↓hCons, ↓hTup, ↓dAsg, ↓dPar, ↓dTest, ↓dAnd, ↓dOr, ↓dNot, ↓dAndV, ↓dOrV, ↓dNotV, ↓dIf, ↓dVar, ↓dC, ↓dOp, ↓dUn, ↓dNil, ↓dCons, ↓dTup, ↓dLst, ↓dLstM, ↓dCall, ↓dCallK, ↓pick, ↓dCB, ↓dSeqI, ↓dFor, ↓dRange1, ↓dRange2, ↓dRaise, ↓dRaise0, ↓dIsi, ↓dIsi2, ↓oAdd, ↓oSubI, ↓oMulI, ↓oDivI, ↓oModI, ↓oPowI, ↓oSubB, ↓oCmpI, ↓oNeg, ↓oEq, ↓oNe, ↓oIsN, ↓oNotN, ↓oIsB, ↓oIx, ↓cLen, ↓lenQ, ↓D.len?, ↓cAbs, ↓cInt, ↓cMax2, ↓cMin2, ↓cGcd, ↓cSum, ↓cStr, ↓okEq_int, ↓okEq_bl, ↓okEq_non, ↓eqD_int, ↓eqD_bl, ↓eqD_intTup, ↓atI0, ↓atI1, ↓atI2, ↓atI3, ↓ty_int, ↓ty_bl, ↓ty_non, ↓ty_str, ↓ty_tup, ↓ty_lst, ↓endsOf, List.length_cons, List.length_nil, List.map_cons, List.map_nil, Bool.not_true, Bool.not_false, Bool.true_and, Bool.and_true, Bool.false_and, Bool.or_true, Bool.true_or, Bool.false_or, Bool.or_false, ite_true, ite_false, if_true, if_false, Bool.false_eq_true, reduceCtorEq, decide_true, decide_false, true_and, and_true, Bool.not_not, Option.isSome_some, if_false_left, decide_eq_true_eq, Bool.decide_eq_true, ↓isT_non_non, ↓isT_non_bool, ↓isT_non_int, ↓isT_non_str, ↓isT_non_tuple, ↓isT_non_list, ↓isT_non_dict, ↓isT_bool_non, ↓isT_bool_bool, ↓isT_bool_int, ↓isT_bool_str, ↓isT_bool_tuple, ↓isT_bool_list, ↓isT_bool_dict, ↓isT_int_non, ↓isT_int_bool, ↓isT_int_int, ↓isT_int_str, ↓isT_int_tuple, ↓isT_int_list, ↓isT_int_dict, ↓isT_str_non, ↓isT_str_bool, ↓isT_str_int, ↓isT_str_str, ↓isT_str_tuple, ↓isT_str_list, ↓isT_str_dict, ↓isT_tuple_non, ↓isT_tuple_bool, ↓isT_tuple_int, ↓isT_tuple_str, ↓isT_tuple_tuple, ↓isT_tuple_list, ↓isT_tuple_dict, ↓isT_list_non, ↓isT_list_bool, ↓isT_list_int, ↓isT_list_str, ↓isT_list_tuple, ↓isT_list_list, ↓isT_list_dict, ↓isT_dict_non, ↓isT_dict_bool, ↓isT_dict_int, ↓isT_dict_str, ↓isT_dict_tuple, ↓isT_dict_list, ↓isT_dict_dict, ↓slot_0, ↓slot_1, ↓slot_2, ↓slot_3, ↓slot_4, ↓slot_5, ↓slot_6, ↓slot_7, ↓slot_8, ↓slot_9, ↓slot_10, ↓slot_11, ↓slot_12, ↓slot_13, ↓slot_14, ↓slot_15, ↓slot_16, ↓slot_17, ↓set_0, ↓set_1, ↓set_2, ↓set_3, ↓set_4, ↓set_5, ↓set_6, ↓set_7, ↓set_8, ↓set_9, ↓set_10, ↓set_11, ↓set_12, ↓set_13, ↓set_14, ↓set_15, ↓set_16, ↓set_17, ht]; exact hR
    · simp only [↓dSeq_eq, ↓wnx_nx, ↓wnx_rt, ↓wnx_bk, ↓wnx_ct, ↓wnx_ex, ↓wlp_nx, ↓wlp_rt, ↓wlp_bk, ↓wlp_ct, ↓wlp_ex, ↓wex_nx, ↓wex_rt, ↓wex_bk, ↓wex_ct, ↓wex_ex, ↓en_nx, ↓en_rt, ↓en_ex, ↓forGo_nil, ↓forGo_cons, ↓dNext, ↓dBreak, ↓dCont, ↓dDrop, ↓dRet, ↓dRetN, ↓dIfS, ↓hName, ↓hNil, ↓hCons, ↓hTup, ↓dAsg, ↓dPar, ↓dTest, ↓dAnd, ↓dOr, ↓dNot, ↓dAndV, ↓dOrV, ↓dNotV, ↓dIf, ↓dVar, ↓dC, ↓dOp, ↓dUn, ↓dNil, ↓dCons, ↓dTup, ↓dLst, ↓dLstM, ↓dCall, ↓dCallK, ↓pick, ↓dCB, ↓dSeqI, ↓dFor, ↓dRange1, ↓dRange2, ↓dRaise, ↓dRaise0, ↓dIsi, ↓dIsi2, ↓oAdd, ↓oSubI, ↓oMulI, ↓oDivI, ↓oModI, ↓oPowI, ↓oSubB, ↓oCmpI, ↓oNeg, ↓oEq, ↓oNe, ↓oIsN, ↓oNotN, ↓oIsB, ↓oIx, ↓cLen, ↓lenQ, ↓D.len?, ↓cAbs, ↓cInt, ↓cMax2, ↓cMin2, ↓cGcd, ↓cSum, ↓cStr, ↓okEq_int, ↓okEq_bl, ↓okEq_non, ↓eqD_int, ↓eqD_bl, ↓eqD_intTup, ↓atI0, ↓atI1, ↓atI2, ↓atI3, ↓ty_int, ↓ty_bl, ↓ty_non, ↓ty_str, ↓ty_tup, ↓ty_lst, ↓endsOf, List.length_cons, List.length_nil, List.map_cons, List.map_nil, Bool.not_true, Bool.not_false, Bool.true_and, Bool.and_true, Bool.false_and, Bool.or_true, Bool.true_or, Bool.false_or, Bool.or_false, ite_true, ite_false, if_true, if_false, Bool.false_eq_true, reduceCtorEq, decide_true, decide_false, true_and, and_true, Bool.not_not, Option.isSome_some, if_false_left, decide_eq_true_eq, Bool.decide_eq_true, ↓isT_non_non, ↓isT_non_bool, ↓isT_non_int, ↓isT_non_str, ↓isT_non_tuple, ↓isT_non_list, ↓isT_non_dict, ↓isT_bool_non, ↓isT_bool_bool, ↓isT_bool_int, ↓isT_bool_str, ↓isT_bool_tuple, ↓isT_bool_list, ↓isT_bool_dict, ↓isT_int_non, ↓isT_int_bool, ↓isT_int_int, ↓isT_int_str, ↓isT_int_tuple, ↓isT_int_list, ↓isT_int_dict, ↓isT_str_non, ↓isT_str_bool, ↓isT_str_int, ↓isT_str_str, ↓isT_str_tuple, ↓isT_str_list, ↓isT_str_dict, ↓isT_tuple_non, ↓isT_tuple_bool, ↓isT_tuple_int, ↓isT_tuple_str, ↓isT_tuple_tuple, ↓isT_tuple_list, ↓isT_tuple_dict, ↓isT_list_non, ↓isT_list_bool, ↓isT_list_int, ↓isT_list_str, ↓isT_list_tuple, ↓isT_list_list, ↓isT_list_dict, ↓isT_dict_non, ↓isT_dict_bool, ↓isT_dict_int, ↓isT_dict_str, ↓isT_dict_tuple, ↓isT_dict_list, ↓isT_dict_dict, ↓slot_0, ↓slot_1, ↓slot_2, ↓slot_3, ↓slot_4, ↓slot_5, ↓slot_6, ↓slot_7, ↓slot_8, ↓slot_9, ↓slot_10, ↓slot_11, ↓slot_12, ↓slot_13, ↓slot_14, ↓slot_15, ↓slot_16, ↓slot_17, ↓set_0, ↓set_1, ↓set_2, ↓set_3, ↓set_4, ↓set_5, ↓set_6, ↓set_7, ↓set_8, ↓set_9, ↓set_10, ↓set_11, ↓set_12, ↓set_13, ↓set_14, ↓set_15, ↓set_16, ↓set_17, ht]; exact hR
    · simp only [↓dSeq_eq, ↓wnx_nx, ↓wnx_rt, ↓wnx_bk, ↓wnx_ct, ↓wnx_ex, ↓wlp_nx, ↓wlp_rt, ↓wlp_bk, ↓wlp_ct, ↓wlp_ex, ↓wex_nx, ↓wex_rt, ↓wex_bk, ↓wex_ct, ↓wex_ex, ↓en_nx, ↓en_rt, ↓en_ex, ↓forGo_nil, ↓forGo_cons, ↓dNext, ↓dBreak, ↓dCont, ↓dDrop, ↓dRet, ↓dRetN, ↓dIfS, ↓hName, ↓hNil, ↓hCons, ↓hTup, ↓dAsg, ↓dPar, ↓dTest, ↓dAnd, ↓dOr, ↓dNot, ↓dAndV, ↓dOrV, ↓dNotV, ↓dIf, ↓dVar, ↓dC, ↓dOp, ↓dUn, ↓dNil, ↓dCons, ↓dTup, ↓dLst, ↓dLstM, ↓dCall, ↓dCallK, ↓pick, ↓dCB, ↓dSeqI, ↓dFor, ↓dRange1, ↓dRange2, ↓dRaise, ↓dRaise0, ↓dIsi, ↓dIsi2, ↓oAdd, ↓oSubI, ↓oMulI, ↓oDivI, ↓oModI, ↓oPowI, ↓oSubB, ↓oCmpI, ↓oNeg, ↓oEq, ↓oNe, ↓oIsN, ↓oNotN, ↓oIsB, ↓oIx, ↓cLen, ↓lenQ, ↓D.len?, ↓cAbs, ↓cInt, ↓cMax2, ↓cMin2, ↓cGcd, ↓cSum, ↓cStr, ↓okEq_int, ↓okEq_bl, ↓okEq_non, ↓eqD_int, ↓eqD_bl, ↓eqD_intTup, ↓atI0, ↓atI1, ↓atI2, ↓atI3, ↓ty_int, ↓ty_bl, ↓ty_non, ↓ty_str, ↓ty_tup, ↓ty_lst, ↓endsOf, List.length_cons, List.length_nil, List.map_cons, List.map_nil, Bool.not_true, Bool.not_false, Bool.true_and, Bool.and_true, Bool.false_and, Bool.or_true, Bool.true_or, Bool.false_or, Bool.or_false, ite_true, ite_false, if_true, if_false, Bool.false_eq_true, reduceCtorEq, decide_true, decide_false, true_and, and_true, Bool.not_not, Option.isSome_some, if_false_left, decide_eq_true_eq, Bool.decide_eq_true, ↓isT_non_non, ↓isT_non_bool, ↓isT_non_int, ↓isT_non_str, ↓isT_non_tuple, ↓isT_non_list, ↓isT_non_dict, ↓isT_bool_non, ↓isT_bool_bool, ↓isT_bool_int, ↓isT_bool_str, ↓isT_bool_tuple, ↓isT_bool_list, ↓isT_bool_dict, ↓isT_int_non, ↓isT_int_bool, ↓isT_int_int, ↓isT_int_str, ↓isT_int_tuple, ↓isT_int_list, ↓isT_int_dict, ↓isT_str_non, ↓isT_str_bool, ↓isT_str_int, ↓isT_str_str, ↓isT_str_tuple, ↓isT_str_list, ↓isT_str_dict, ↓isT_tuple_non, ↓isT_tuple_bool, ↓isT_tuple_int, ↓isT_tuple_str, ↓isT_tuple_tuple, ↓isT_tuple_list, ↓isT_tuple_dict, ↓isT_list_non, ↓isT_list_bool, ↓isT_list_int, ↓isT_list_str, ↓isT_list_tuple, ↓isT_list_list, ↓isT_list_dict, ↓isT_dict_non, ↓isT_dict_bool, ↓isT_dict_int, ↓isT_dict_str, ↓isT_dict_tuple, ↓isT_dict_list, ↓isT_dict_dict, ↓slot_0, ↓slot_1, ↓slot_2, ↓slot_3, ↓slot_4, ↓slot_5, ↓slot_6, ↓slot_7, ↓slot_8, ↓slot_9, ↓slot_10, ↓slot_11, ↓slot_12, ↓slot_13, ↓slot_14, ↓slot_15, ↓slot_16, ↓slot_17, ↓set_0, ↓set_1, ↓set_2, ↓set_3, ↓set_4, ↓set_5, ↓set_6, ↓set_7, ↓set_8, ↓set_9, ↓set_10, ↓set_11, ↓set_12, ↓set_13, ↓set_14, ↓set_15, ↓set_16, ↓set_17, ht]; exact hR
  · refine skip_if (fun R E hR => ?_) (skip_if (fun R E hR => ?_) (skip_if (fun R E hR => ?_) (skip_if (fun R E hR => ?_) (skip_if (fun R E hR => ?_) h))))
    · simp only [↓dSeq_eq, ↓wnx_nx, ↓wnx_rt, ↓wnx_bk, ↓wnx_ct, ↓wnx_ex, ↓wlp_nx, ↓wlp_rt, ↓wlp_bk, ↓wlp_ct, ↓wlp_ex, ↓wex_nx, ↓wex_rt, ↓wex_bk, ↓wex_ct, ↓wex_ex, ↓en_nx, ↓en_rt, ↓en_ex, ↓forGo_nil, ↓forGo_cons, ↓dNext, ↓dBreak, ↓dCont, ↓dDrop, ↓dRet, ↓dRetN, ↓dIfS, ↓hName, ↓hNil, ↓hCons, ↓hTup, ↓dAsg, ↓dPar, ↓dTest, ↓dAnd, ↓dOr, ↓dNot, ↓dAndV, ↓dOrV, ↓dNotV, ↓dIf, ↓dVar, ↓dC, ↓dOp, ↓dUn, ↓dNil, ↓dCons, ↓dTup, ↓dLst, ↓dLstM, ↓dCall, ↓dCallK, ↓pick, ↓dCB, ↓dSeqI, ↓dFor, ↓dRange1, ↓dRange2, ↓dRaise, ↓dRaise0, ↓dIsi, ↓dIsi2, ↓oAdd, ↓oSubI, ↓oMulI, ↓oDivI, ↓oModI, ↓oPowI, ↓oSubB, ↓oCmpI, ↓oNeg, ↓oEq, ↓oNe, ↓oIsN, ↓oNotN, ↓oIsB, ↓oIx, ↓cLen, ↓lenQ, ↓D.len?, ↓cAbs, ↓cInt, ↓cMax2, ↓cMin2, ↓cGcd, ↓cSum, ↓cStr, ↓okEq_int, ↓okEq_bl, ↓okEq_non, ↓eqD_int, ↓eqD_bl, ↓eqD_intTup, ↓atI0, ↓atI1, ↓atI2, ↓atI3, ↓ty_int, ↓ty_bl, ↓ty_non, ↓ty_str, ↓ty_tup, ↓ty_lst, ↓endsOf, List.length_cons, List.length_nil, List.map_cons, List.map_nil, Bool.not_true, Bool.not_false, Bool.true_and, Bool.and_true, Bool.false_and, Bool.or_true, Bool.true_or, Bool.false_or, Bool.or_false, ite_true, ite_false, if_true, if_false, Bool.false_eq_true, reduceCtorEq, decide_true, decide_false, true_and, and_true, Bool.not_not, Option.isSome_some, if_false_left, decide_eq_true_eq, Bool.decide_eq_true, ↓isT_non_non, ↓isT_non_bool, ↓isT_non_int, ↓isT_non_str, ↓isT_non_tuple, ↓isT_non_list, ↓isT_non_dict, ↓isT_bool_non, ↓isT_bool_bool, ↓isT_bool_int, ↓isT_bool_str, ↓isT_bool_tuple, ↓isT_bool_list, ↓isT_bool_dict, ↓isT_int_non, ↓isT_int_bool, ↓isT_int_int, ↓isT_int_str, ↓isT_int_tuple, ↓isT_int_list, ↓isT_int_dict, ↓isT_str_non, ↓isT_str_bool, ↓isT_str_int, ↓isT_str_str, ↓isT_str_tuple, ↓isT_str_list, ↓isT_str_dict, ↓isT_tuple_non, ↓isT_tuple_bool, ↓isT_tuple_int, ↓isT_tuple_str, ↓isT_tuple_tuple, ↓isT_tuple_list, ↓isT_tuple_dict, ↓isT_list_non, ↓isT_list_bool, ↓isT_list_int, ↓isT_list_str, ↓isT_list_tuple, ↓isT_list_list, ↓isT_list_dict, ↓isT_dict_non, ↓isT_dict_bool, ↓isT_dict_int, ↓isT_dict_str, ↓isT_dict_tuple, ↓isT_dict_list, ↓isT_dict_dict, ↓slot_0, ↓slot_1, ↓slot_2, ↓slot_3, ↓slot_4, ↓slot_5, ↓slot_6, ↓slot_7, ↓slot_8, ↓slot_9, ↓slot_10, ↓slot_11, ↓slot_12, ↓slot_13, ↓slot_14, ↓slot_15, ↓slot_16, ↓slot_17, ↓set_0, ↓set_1, ↓set_2, ↓set_3, ↓set_4, ↓set_5, ↓set_6, ↓set_7, ↓set_8, ↓set_9, ↓set_10, ↓set_11, ↓set_12, ↓set_13, ↓set_14, ↓set_15, ↓set_16, ↓set_17, ht]; exact hR
    · simp only [↓dSeq_eq, ↓wnx_nx, ↓wnx_rt, ↓wnx_bk, ↓wnx_ct, ↓wnx_ex, ↓wlp_nx, ↓wlp_rt, ↓wlp_bk, ↓wlp_ct, ↓wlp_ex, ↓wex_nx, ↓wex_rt, ↓wex_bk, ↓wex_ct, ↓wex_ex, ↓en_nx, ↓en_rt, ↓en_ex, ↓forGo_nil, ↓forGo_cons, ↓dNext, ↓dBreak, ↓dCont, ↓dDrop, ↓dRet, ↓dRetN, ↓dIfS, ↓hName, ↓hNil, ↓hCons, ↓hTup, ↓dAsg, ↓dPar, ↓dTest, ↓dAnd, ↓dOr, ↓dNot, ↓dAndV, ↓dOrV, ↓dNotV, ↓dIf, ↓dVar, ↓dC, ↓dOp, ↓dUn, ↓dNil, ↓dCons, ↓dTup, ↓dLst, ↓dLstM, ↓dCall, ↓dCallK, ↓pick, ↓dCB, ↓dSeqI, ↓dFor, ↓dRange1, ↓dRange2, ↓dRaise, ↓dRaise0, ↓dIsi, ↓dIsi2, ↓oAdd, ↓oSubI, ↓oMulI, ↓oDivI, ↓oModI, ↓oPowI, ↓oSubB, ↓oCmpI, ↓oNeg, ↓oEq, ↓oNe, ↓oIsN, ↓oNotN, ↓oIsB, ↓oIx, ↓cLen, ↓lenQ, ↓D.len?, ↓cAbs, ↓cInt, ↓cMax2, ↓cMin2, ↓cGcd, ↓cSum, ↓cStr, ↓okEq_int, ↓okEq_bl, ↓okEq_non, ↓eqD_int, ↓eqD_bl, ↓eqD_intTup, ↓atI0, ↓atI1, ↓atI2, ↓atI3, ↓ty_int, ↓ty_bl, ↓ty_non, ↓ty_str, ↓ty_tup, ↓ty_lst, ↓endsOf, List.length_cons, List.length_nil, List.map_cons, List.map_nil, Bool.not_true, Bool.not_false, Bool.true_and, Bool.and_true, Bool.false_and, Bool.or_true, Bool.true_or, Bool.false_or, Bool.or_false, ite_true, ite_false, if_true, if_false, Bool.false_eq_true, reduceCtorEq, decide_true, decide_false, true_and, and_true, Bool.not_not, Option.isSome_some, if_false_left, decide_eq_true_eq, Bool.decide_eq_true, ↓isT_non_non, ↓isT_non_bool, ↓isT_non_int, ↓isT_non_str, ↓isT_non_tuple, ↓isT_non_list, ↓isT_non_dict, ↓isT_bool_non, ↓isT_bool_bool, ↓isT_bool_int, ↓isT_bool_str, ↓isT_bool_tuple, ↓isT_bool_list, ↓isT_bool_dict, ↓isT_int_non, ↓isT_int_bool, ↓isT_int_int, ↓isT_int_str, ↓isT_int_tuple, ↓isT_int_list, ↓isT_int_dict, ↓isT_str_non, ↓isT_str_bool, ↓isT_str_int, ↓isT_str_str, ↓isT_str_tuple, ↓isT_str_list, ↓isT_str_dict, ↓isT_tuple_non, ↓isT_tuple_bool, ↓isT_tuple_int, ↓isT_tuple_str, ↓isT_tuple_tuple, ↓isT_tuple_list, ↓isT_tuple_dict, ↓isT_list_non, ↓isT_list_bool, ↓isT_list_int, ↓isT_list_str, ↓isT_list_tuple, ↓isT_list_list, ↓isT_list_dict, ↓isT_dict_non, ↓isT_dict_bool, ↓isT_dict_int, ↓isT_dict_str, ↓isT_dict_tuple, ↓isT_dict_list, ↓isT_dict_dict, ↓slot_0, ↓slot_1, ↓slot_2, ↓slot_3, ↓slot_4, ↓slot_5, ↓slot_6, ↓slot_7, ↓slot_8, ↓slot_9, ↓slot_10, ↓slot_11, ↓slot_12, ↓slot_13, ↓slot_14, ↓slot_15, ↓slot_16, ↓slot_17, ↓set_0, ↓set_1, ↓set_2, ↓set_3, ↓set_4, ↓set_5, ↓set_6, ↓set_7, ↓set_8, ↓set_9, ↓set_10, ↓set_11, ↓set_12, ↓set_13, ↓set_14, ↓set_15, ↓set_16, ↓set_17, ht]; exact hR
    · simp only [↓dSeq_eq, ↓wnx_nx, ↓wnx_rt, ↓wnx_bk, ↓wnx_ct, ↓wnx_ex, ↓wlp_nx, ↓wlp_rt, ↓wlp_bk, ↓wlp_ct, ↓wlp_ex, ↓wex_nx, ↓wex_rt, ↓wex_bk, ↓wex_ct, ↓wex_ex, ↓en_nx, ↓en_rt, ↓en_ex, ↓forGo_nil, ↓forGo_cons, ↓dNext, ↓dBreak, ↓dCont, ↓dDrop, ↓dRet, ↓dRetN, ↓dIfS, ↓hName, ↓hNil, ↓hCons, ↓hTup, ↓dAsg, ↓dPar, ↓dTest, ↓dAnd, ↓dOr, ↓dNot, ↓dAndV, ↓dOrV, ↓dNotV, ↓dIf, ↓dVar, ↓dC, ↓dOp, ↓dUn, ↓dNil, ↓dCons, ↓dTup, ↓dLst, ↓dLstM, ↓dCall, ↓dCallK, ↓pick, ↓dCB, ↓dSeqI, ↓dFor, ↓dRange1, ↓dRange2, ↓dRaise, ↓dRaise0, ↓dIsi, ↓dIsi2, ↓oAdd, ↓oSubI, ↓oMulI, ↓oDivI, ↓oModI, ↓oPowI, ↓oSubB, ↓oCmpI, ↓oNeg, ↓oEq, ↓oNe, ↓oIsN, ↓oNotN, ↓oIsB, ↓oIx, ↓cLen, ↓lenQ, ↓D.len?, ↓cAbs, ↓cInt, ↓cMax2, ↓cMin2, ↓cGcd, ↓cSum, ↓cStr, ↓okEq_int, ↓okEq_bl, ↓okEq_non, ↓eqD_int, ↓eqD_bl, ↓eqD_intTup, ↓atI0, ↓atI1, ↓atI2, ↓atI3, ↓ty_int, ↓ty_bl, ↓ty_non, ↓ty_str, ↓ty_tup, ↓ty_lst, ↓endsOf, List.length_cons, List.length_nil, List.map_cons, List.map_nil, Bool.not_true, Bool.not_false, Bool.true_and, Bool.and_true, Bool.false_and, Bool.or_true, Bool.true_or, Bool.false_or, Bool.or_false, ite_true, ite_false, if_true, if_false, Bool.false_eq_true, reduceCtorEq, decide_true, decide_false, true_and, and_true, Bool.not_not, Option.isSome_some, if_false_left, decide_eq_true_eq, Bool.decide_eq_true, ↓isT_non_non, ↓isT_non_bool, ↓isT_non_int, ↓isT_non_str, ↓isT_non_tuple, ↓isT_non_list, ↓isT_non_dict, ↓isT_bool_non, ↓isT_bool_bool, ↓isT_bool_int, ↓isT_bool_str, ↓isT_bool_tuple, ↓isT_bool_list, ↓isT_bool_dict, ↓isT_int_non, ↓isT_int_bool, ↓isT_int_int, ↓isT_int_str, ↓isT_int_tuple, ↓isT_int_list, ↓isT_int_dict, ↓isT_str_non, ↓isT_str_bool, ↓isT_str_int, ↓isT_str_str, ↓isT_str_tuple, ↓isT_str_list, ↓isT_str_dict, ↓isT_tuple_non, ↓isT_tuple_bool, ↓isT_tuple_int, ↓isT_tuple_str, ↓isT_tuple_tuple, ↓isT_tuple_list, ↓isT_tuple_dict, ↓isT_list_non, ↓isT_list_bool, ↓isT_list_int, ↓isT_list_str, ↓isT_list_tuple, ↓isT_list_list, ↓isT_list_dict, ↓isT_dict_non, ↓isT_dict_bool, ↓isT_dict_int, ↓isT_dict_str, ↓isT_dict_tuple, ↓isT_dict_list, ↓isT_dict_dict, ↓slot_0, ↓slot_1, ↓slot_2, ↓slot_3, ↓slot_4, ↓slot_5, ↓slot_6, ↓slot_7, ↓slot_8, ↓slot_9, ↓slot_10, ↓slot_11, ↓slot_12, ↓slot_13, ↓slot_14, ↓slot_15, ↓slot_16, ↓slot_17, ↓set_0, ↓set_1, ↓set_2, ↓set_3, ↓set_4, ↓set_5, ↓set_6, ↓set_7, ↓set_8, ↓set_9, ↓set_10, ↓set_11, ↓set_12, ↓set_13, ↓set_14, ↓set_15, ↓set_16, ↓set_17, ht]; exact hR
    · simp only [↓dSeq_eq, ↓wnx_nx, ↓wnx_rt, ↓wnx_bk, ↓wnx_ct, ↓wnx_ex, ↓wlp_nx, ↓wlp_rt, ↓wlp_bk, ↓wlp_ct, ↓wlp_ex, ↓wex_nx, ↓wex_rt, ↓wex_bk, ↓wex_ct, ↓wex_ex, ↓en_nx, ↓en_rt, ↓en_ex, ↓forGo_nil, ↓forGo_cons, ↓dNext, ↓dBreak, ↓dCont, ↓dDrop, ↓dRet, ↓dRetN, ↓dIfS, ↓hName, ↓hNil, ↓hCons, ↓hTup, ↓dAsg, ↓dPar, ↓dTest, ↓dAnd, ↓dOr, ↓dNot, ↓dAndV, ↓dOrV, ↓dNotV, ↓dIf, ↓dVar, ↓dC, ↓dOp, ↓dUn, ↓dNil, ↓dCons, ↓dTup, ↓dLst, ↓dLstM, ↓dCall, ↓dCallK, ↓pick, ↓dCB, ↓dSeqI, ↓dFor, ↓dRange1, ↓dRange2, ↓dRaise, ↓dRaise0, ↓dIsi, ↓dIsi2, ↓oAdd, ↓oSubI, ↓oMulI, ↓oDivI, ↓oModI, ↓oPowI, ↓oSubB, ↓oCmpI, ↓oNeg, ↓oEq, ↓oNe, ↓oIsN, ↓oNotN, ↓oIsB, ↓oIx, ↓cLen, ↓lenQ, ↓D.len?, ↓cAbs, ↓cInt, ↓cMax2, ↓cMin2, ↓cGcd, ↓cSum, ↓cStr, ↓okEq_int, ↓okEq_bl, ↓okEq_non, ↓eqD_int, ↓eqD_bl, ↓eqD_intTup, ↓atI0, ↓atI1, ↓atI2, ↓atI3, ↓ty_int, ↓ty_bl, ↓ty_non, ↓ty_str, ↓ty_tup, ↓ty_lst, ↓endsOf, List.length_cons, List.length_nil, List.map_cons, List.map_nil, Bool.not_true, Bool.not_false, Bool.true_and, Bool.and_true, Bool.false_and, Bool.or_true, Bool.true_or, Bool.false_or, Bool.or_false, ite_true, ite_false, if_true, if_false, Bool.false_eq_true, reduceCtorEq, decide_true, decide_false, true_and, and_true, Bool.not_not, Option.isSome_some, if_false_left, decide_eq_true_eq, Bool.decide_eq_true, ↓isT_non_non, ↓isT_non_bool, ↓isT_non_int, ↓isT_non_str, ↓isT_non_tuple, ↓isT_non_list, ↓isT_non_dict, ↓isT_bool_non, ↓isT_bool_bool, ↓isT_bool_int, ↓isT_bool_str, ↓isT_bool_tuple, ↓isT_bool_list, ↓isT_bool_dict, ↓isT_int_non, ↓isT_int_bool, ↓isT_int_int, ↓isT_int_str, ↓isT_int_tuple, ↓isT_int_list, ↓isT_int_dict, ↓isT_str_non, ↓isT_str_bool, ↓isT_str_int, ↓isT_str_str, ↓isT_str_tuple, ↓isT_str_list, ↓isT_str_dict, ↓isT_tuple_non, ↓isT_tuple_bool, ↓isT_tuple_int, ↓isT_tuple_str, ↓isT_tuple_tuple, ↓isT_tuple_list, ↓isT_tuple_dict, ↓isT_list_non, ↓isT_list_bool, ↓isT_list_int, ↓isT_list_str, ↓isT_list_tuple, ↓isT_list_list, ↓isT_list_dict, ↓isT_dict_non, ↓isT_dict_bool, ↓isT_dict_int, ↓isT_dict_str, ↓isT_dict_tuple, ↓isT_dict_list, ↓isT_dict_dict, ↓slot_0, ↓slot_1, ↓slot_2, ↓slot_3, ↓slot_4, ↓slot_5, ↓slot_6, ↓slot_7, ↓slot_8, ↓slot_9, ↓slot_10, ↓slot_11, ↓slot_12, ↓slot_13, ↓slot_14, ↓slot_15, ↓slot_16, ↓slot_17, ↓set_0, ↓set_1, ↓set_2, ↓set_3, ↓set_4, ↓set_5, ↓set_6, ↓set_7, ↓set_8, ↓set_9, ↓set_10, ↓set_11, ↓set_12, ↓set_13, ↓set_14, ↓set_15, ↓set_16, ↓set_17, ht]; exact hR
    · simp only [↓dSeq_eq, ↓wnx_nx, ↓wnx_rt, ↓wnx_bk, ↓wnx_ct, ↓wnx_ex, ↓wlp_nx, ↓wlp_rt, ↓wlp_bk, ↓wlp_ct, ↓wlp_ex, ↓wex_nx, ↓wex_rt, ↓wex_bk, ↓wex_ct, ↓wex_ex, ↓en_nx, ↓en_rt, ↓en_ex, ↓forGo_nil, ↓forGo_cons, ↓dNext, ↓dBreak, ↓dCont, ↓dDrop, ↓dRet, ↓dRetN, ↓dIfS, ↓hName, ↓hNil, ↓hCons, ↓hTup, ↓dAsg, ↓dPar, ↓dTest, ↓dAnd, ↓dOr, ↓dNot, ↓dAndV, ↓dOrV, ↓dNotV, ↓dIf, ↓dVar, ↓dC, ↓dOp, ↓dUn, ↓dNil, ↓dCons, ↓dTup, ↓dLst, ↓dLstM, ↓dCall, ↓dCallK, ↓pick, ↓dCB, ↓dSeqI, ↓dFor, ↓dRange1, ↓dRange2, ↓dRaise, ↓dRaise0, ↓dIsi, ↓dIsi2, ↓oAdd, ↓oSubI, ↓oMulI, ↓oDivI, ↓oModI, ↓oPowI, ↓oSubB, ↓oCmpI, ↓oNeg, ↓oEq, ↓oNe, ↓oIsN, ↓oNotN, ↓oIsB, ↓oIx, ↓cLen, ↓lenQ, ↓D.len?, ↓cAbs, ↓cInt, ↓cMax2, ↓cMin2, ↓cGcd, ↓cSum, ↓cStr, ↓okEq_int, ↓okEq_bl, ↓okEq_non, ↓eqD_int, ↓eqD_bl, ↓eqD_intTup, ↓atI0, ↓atI1, ↓atI2, ↓atI3, ↓ty_int, ↓ty_bl, ↓ty_non, ↓ty_str, ↓ty_tup, ↓ty_lst, ↓endsOf, List.length_cons, List.length_nil, List.map_cons, List.map_nil, Bool.not_true, Bool.not_false, Bool.true_and, Bool.and_true, Bool.false_and, Bool.or_true, Bool.true_or, Bool.false_or, Bool.or_false, ite_true, ite_false, if_true, if_false, Bool.false_eq_true, reduceCtorEq, decide_true, decide_false, true_and, and_true, Bool.not_not, Option.isSome_some, if_false_left, decide_eq_true_eq, Bool.decide_eq_true, ↓isT_non_non, ↓isT_non_bool, ↓isT_non_int, ↓isT_non_str, ↓isT_non_tuple, ↓isT_non_list, ↓isT_non_dict, ↓isT_bool_non, ↓isT_bool_bool, ↓isT_bool_int, ↓isT_bool_str, ↓isT_bool_tuple, ↓isT_bool_list, ↓isT_bool_dict, ↓isT_int_non, ↓isT_int_bool, ↓isT_int_int, ↓isT_int_str, ↓isT_int_tuple, ↓isT_int_list, ↓isT_int_dict, ↓isT_str_non, ↓isT_str_bool, ↓isT_str_int, ↓isT_str_str, ↓isT_str_tuple, ↓isT_str_list, ↓isT_str_dict, ↓isT_tuple_non, ↓isT_tuple_bool, ↓isT_tuple_int, ↓isT_tuple_str, ↓isT_tuple_tuple, ↓isT_tuple_list, ↓isT_tuple_dict, ↓isT_list_non, ↓isT_list_bool, ↓isT_list_int, ↓isT_list_str, ↓isT_list_tuple, ↓isT_list_list, ↓isT_list_dict, ↓isT_dict_non, ↓isT_dict_bool, ↓isT_dict_int, ↓isT_dict_str, ↓isT_dict_tuple, ↓isT_dict_list, ↓isT_dict_dict, ↓slot_0, ↓slot_1, ↓slot_2, ↓slot_3, ↓slot_4, ↓slot_5, ↓slot_6, ↓slot_7, ↓slot_8, ↓slot_9, ↓slot_10, ↓slot_11, ↓slot_12, ↓slot_13, ↓slot_14, ↓slot_15, ↓slot_16, ↓slot_17, ↓set_0, ↓set_1, ↓set_2, ↓set_3, ↓set_4, ↓set_5, ↓set_6, ↓set_7, ↓set_8, ↓set_9, ↓set_10, ↓set_11, ↓set_12, ↓set_13, ↓set_14, ↓set_15, ↓set_16, ↓set_17, ht]; exact hR
theorem same_tup {n : Nat} {l : List D} {M : Mst} {Q : D → Mst → Prop} {E} (hn : NDM M) (hl : l.length ≤ 100000 ∧ ∀ x ∈ l, WF n M x) (q : Q (.bl true) M) : t_law_same K (sp_same n) (endsOf Q E) ⟨[some (.tup l), some (.tup l), none, none], M⟩ := by
  refine same_head (t := .tuple) rfl (.inl rfl) (skip_if (fun R E hR => ?_) ?_)
  · simp only [↓dSeq_eq, ↓wnx_nx, ↓wnx_rt, ↓wnx_bk, ↓wnx_ct, ↓wnx_ex, ↓wlp_nx, ↓wlp_rt, ↓wlp_bk, ↓wlp_ct, ↓wlp_ex, ↓wex_nx, ↓wex_rt, ↓wex_bk, ↓wex_ct, ↓wex_ex, ↓en_nx, ↓en_rt, ↓en_ex, ↓forGo_nil, ↓forGo_cons, ↓dNext, ↓dBreak, ↓dCont, ↓dDrop, ↓dRet, ↓dRetN, ↓dIfS, ↓hName, ↓hNil, ↓hCons, ↓hTup, ↓dAsg, ↓dPar, ↓dTest, ↓dAnd, ↓dOr, ↓dNot, ↓dAndV, ↓dOrV, ↓dNotV, ↓dIf, ↓dVar, ↓dC, ↓dOp, ↓dUn, ↓dNil, ↓dCons, ↓dTup, ↓dLst, ↓dLstM, ↓dCall, ↓dCallK, ↓pick, ↓dCB, ↓dSeqI, ↓dFor, ↓dRange1, ↓dRange2, ↓dRaise, ↓dRaise0, ↓dIsi, ↓dIsi2, ↓oAdd, ↓oSubI, ↓oMulI, ↓oDivI, ↓oModI, ↓oPowI, ↓oSubB, ↓oCmpI, ↓oNeg, ↓oEq, ↓oNe, ↓oIsN, ↓oNotN, ↓oIsB, ↓oIx, ↓cLen, ↓lenQ, ↓D.len?, ↓cAbs, ↓cInt, ↓cMax2, ↓cMin2, ↓cGcd, ↓cSum, ↓cStr, ↓okEq_int, ↓okEq_bl, ↓okEq_non, ↓eqD_int, ↓eqD_bl, ↓eqD_intTup, ↓atI0, ↓atI1, ↓atI2, ↓atI3, ↓ty_int, ↓ty_bl, ↓ty_non, ↓ty_str, ↓ty_tup, ↓ty_lst, ↓endsOf, List.length_cons, List.length_nil, List.map_cons, List.map_nil, Bool.not_true, Bool.not_false, Bool.true_and, Bool.and_true, Bool.false_and, Bool.or_true, Bool.true_or, Bool.false_or, Bool.or_false, ite_true, ite_false, if_true, if_false, Bool.false_eq_true, reduceCtorEq, decide_true, decide_false, true_and, and_true, Bool.not_not, Option.isSome_some, if_false_left, decide_eq_true_eq, Bool.decide_eq_true, ↓isT_non_non, ↓isT_non_bool, ↓isT_non_int, ↓isT_non_str, ↓isT_non_tuple, ↓isT_non_list, ↓isT_non_dict, ↓isT_bool_non, ↓isT_bool_bool, ↓isT_bool_int, ↓isT_bool_str, ↓isT_bool_tuple, ↓isT_bool_list, ↓isT_bool_dict, ↓isT_int_non, ↓isT_int_bool, ↓isT_int_int, ↓isT_int_str, ↓isT_int_tuple, ↓isT_int_list, ↓isT_int_dict, ↓isT_str_non, ↓isT_str_bool, ↓isT_str_int, ↓isT_str_str, ↓isT_str_tuple, ↓isT_str_list, ↓isT_str_dict, ↓isT_tuple_non, ↓isT_tuple_bool, ↓isT_tuple_int, ↓isT_tuple_str, ↓isT_tuple_tuple, ↓isT_tuple_list, ↓isT_tuple_dict, ↓isT_list_non, ↓isT_list_bool, ↓isT_list_int, ↓isT_list_str, ↓isT_list_tuple, ↓isT_list_list, ↓isT_list_dict, ↓isT_dict_non, ↓isT_dict_bool, ↓isT_dict_int, ↓isT_dict_str, ↓isT_dict_tuple, ↓isT_dict_list, ↓isT_dict_dict, ↓slot_0, ↓slot_1, ↓slot_2, ↓slot_3, ↓slot_4, ↓slot_5, ↓slot_6, ↓slot_7, ↓slot_8, ↓slot_9, ↓slot_10, ↓slot_11, ↓slot_12, ↓slot_13, ↓slot_14, ↓slot_15, ↓slot_16, ↓slot_17, ↓set_0, ↓set_1, ↓set_2, ↓set_3, ↓set_4, ↓set_5, ↓set_6, ↓set_7, ↓set_8, ↓set_9, ↓set_10, ↓set_11, ↓set_12, ↓set_13, ↓set_14, ↓set_15, ↓set_16, ↓set_17, ne_eq, not_true_eq_false]; exact hR
  simp only [↓dSeq_eq, ↓wnx_nx, ↓wnx_rt, ↓wnx_bk, ↓wnx_ct, ↓wnx_ex, ↓wlp_nx, ↓wlp_rt, ↓wlp_bk, ↓wlp_ct, ↓wlp_ex, ↓wex_nx, ↓wex_rt, ↓wex_bk, ↓wex_ct, ↓wex_ex, ↓en_nx, ↓en_rt, ↓en_ex, ↓forGo_nil, ↓forGo_cons, ↓dNext, ↓dBreak, ↓dCont, ↓dDrop, ↓dRet, ↓dRetN, ↓dIfS, ↓hName, ↓hNil, ↓hCons, ↓hTup, ↓dAsg, ↓dPar, ↓dTest, ↓dAnd, ↓dOr, ↓dNot, ↓dAndV, ↓dOrV, ↓dNotV, ↓dIf, ↓dVar, ↓dC, ↓dOp, ↓dUn, ↓dNil, ↓dCons, ↓dTup, ↓dLst, ↓dLstM, ↓dCall, ↓dCallK, ↓pick, ↓dCB, ↓dSeqI, ↓dFor, ↓dRange1, ↓dRange2, ↓dRaise, ↓dRaise0, ↓dIsi, ↓dIsi2, ↓oAdd, ↓oSubI, ↓oMulI, ↓oDivI, ↓oModI, ↓oPowI, ↓oSubB, ↓oCmpI, ↓oNeg, ↓oEq, ↓oNe, ↓oIsN, ↓oNotN, ↓oIsB, ↓oIx, ↓cLen, ↓lenQ, ↓D.len?, ↓cAbs, ↓cInt, ↓cMax2, ↓cMin2, ↓cGcd, ↓cSum, ↓cStr, ↓okEq_int, ↓okEq_bl, ↓okEq_non, ↓eqD_int, ↓eqD_bl, ↓eqD_intTup, ↓atI0, ↓atI1, ↓atI2, ↓atI3, ↓ty_int, ↓ty_bl, ↓ty_non, ↓ty_str, ↓ty_tup, ↓ty_lst, ↓endsOf, List.length_cons, List.length_nil, List.map_cons, List.map_nil, Bool.not_true, Bool.not_false, Bool.true_and, Bool.and_true, Bool.false_and, Bool.or_true, Bool.true_or, Bool.false_or, Bool.or_false, ite_true, ite_false, if_true, if_false, Bool.false_eq_true, reduceCtorEq, decide_true, decide_false, true_and, and_true, Bool.not_not, Option.isSome_some, if_false_left, decide_eq_true_eq, Bool.decide_eq_true, ↓isT_non_non, ↓isT_non_bool, ↓isT_non_int, ↓isT_non_str, ↓isT_non_tuple, ↓isT_non_list, ↓isT_non_dict, ↓isT_bool_non, ↓isT_bool_bool, ↓isT_bool_int, ↓isT_bool_str, ↓isT_bool_tuple, ↓isT_bool_list, ↓isT_bool_dict, ↓isT_int_non, ↓isT_int_bool, ↓isT_int_int, ↓isT_int_str, ↓isT_int_tuple, ↓isT_int_list, ↓isT_int_dict, ↓isT_str_non, ↓isT_str_bool, ↓isT_str_int, ↓isT_str_str, ↓isT_str_tuple, ↓isT_str_list, ↓isT_str_dict, ↓isT_tuple_non, ↓isT_tuple_bool, ↓isT_tuple_int, ↓isT_tuple_str, ↓isT_tuple_tuple, ↓isT_tuple_list, ↓isT_tuple_dict, ↓isT_list_non, ↓isT_list_bool, ↓isT_list_int, ↓isT_list_str, ↓isT_list_tuple, ↓isT_list_list, ↓isT_list_dict, ↓isT_dict_non, ↓isT_dict_bool, ↓isT_dict_int, ↓isT_dict_str, ↓isT_dict_tuple, ↓isT_dict_list, ↓isT_dict_dict, ↓slot_0, ↓slot_1, ↓slot_2, ↓slot_3, ↓slot_4, ↓slot_5, ↓slot_6, ↓slot_7, ↓slot_8, ↓slot_9, ↓slot_10, ↓slot_11, ↓slot_12, ↓slot_13, ↓slot_14, ↓slot_15, ↓slot_16, ↓slot_17, ↓set_0, ↓set_1, ↓set_2, ↓set_3, ↓set_4, ↓set_5, ↓set_6, ↓set_7, ↓set_8, ↓set_9, ↓set_10, ↓set_11, ↓set_12, ↓set_13, ↓set_14, ↓set_15, ↓set_16, ↓set_17, ↓dLc]
  refine ⟨by have := hl.1; omega, by omega, ?_⟩
  refine lcGo_none ?_ _ fun d hd R hR => ?_
  · simp only [↓dSeq_eq, ↓wnx_nx, ↓wnx_rt, ↓wnx_bk, ↓wnx_ct, ↓wnx_ex, ↓wlp_nx, ↓wlp_rt, ↓wlp_bk, ↓wlp_ct, ↓wlp_ex, ↓wex_nx, ↓wex_rt, ↓wex_bk, ↓wex_ct, ↓wex_ex, ↓en_nx, ↓en_rt, ↓en_ex, ↓forGo_nil, ↓forGo_cons, ↓dNext, ↓dBreak, ↓dCont, ↓dDrop, ↓dRet, ↓dRetN, ↓dIfS, ↓hName, ↓hNil, ↓hCons, ↓hTup, ↓dAsg, ↓dPar, ↓dTest, ↓dAnd, ↓dOr, ↓dNot, ↓dAndV, ↓dOrV, ↓dNotV, ↓dIf, ↓dVar, ↓dC, ↓dOp, ↓dUn, ↓dNil, ↓dCons, ↓dTup, ↓dLst, ↓dLstM, ↓dCall, ↓dCallK, ↓pick, ↓dCB, ↓dSeqI, ↓dFor, ↓dRange1, ↓dRange2, ↓dRaise, ↓dRaise0, ↓dIsi, ↓dIsi2, ↓oAdd, ↓oSubI, ↓oMulI, ↓oDivI, ↓oModI, ↓oPowI, ↓oSubB, ↓oCmpI, ↓oNeg, ↓oEq, ↓oNe, ↓oIsN, ↓oNotN, ↓oIsB, ↓oIx, ↓cLen, ↓lenQ, ↓D.len?, ↓cAbs, ↓cInt, ↓cMax2, ↓cMin2, ↓cGcd, ↓cSum, ↓cStr, ↓okEq_int, ↓okEq_bl, ↓okEq_non, ↓eqD_int, ↓eqD_bl, ↓eqD_intTup, ↓atI0, ↓atI1, ↓atI2, ↓atI3, ↓ty_int, ↓ty_bl, ↓ty_non, ↓ty_str, ↓ty_tup, ↓ty_lst, ↓endsOf, List.length_cons, List.length_nil, List.map_cons, List.map_nil, Bool.not_true, Bool.not_false, Bool.true_and, Bool.and_true, Bool.false_and, Bool.or_true, Bool.true_or, Bool.false_or, Bool.or_false, ite_true, ite_false, if_true, if_false, Bool.false_eq_true, reduceCtorEq, decide_true, decide_false, true_and, and_true, Bool.not_not, Option.isSome_some, if_false_left, decide_eq_true_eq, Bool.decide_eq_true, ↓isT_non_non, ↓isT_non_bool, ↓isT_non_int, ↓isT_non_str, ↓isT_non_tuple, ↓isT_non_list, ↓isT_non_dict, ↓isT_bool_non, ↓isT_bool_bool, ↓isT_bool_int, ↓isT_bool_str, ↓isT_bool_tuple, ↓isT_bool_list, ↓isT_bool_dict, ↓isT_int_non, ↓isT_int_bool, ↓isT_int_int, ↓isT_int_str, ↓isT_int_tuple, ↓isT_int_list, ↓isT_int_dict, ↓isT_str_non, ↓isT_str_bool, ↓isT_str_int, ↓isT_str_str, ↓isT_str_tuple, ↓isT_str_list, ↓isT_str_dict, ↓isT_tuple_non, ↓isT_tuple_bool, ↓isT_tuple_int, ↓isT_tuple_str, ↓isT_tuple_tuple, ↓isT_tuple_list, ↓isT_tuple_dict, ↓isT_list_non, ↓isT_list_bool, ↓isT_list_int, ↓isT_list_str, ↓isT_list_tuple, ↓isT_list_list, ↓isT_list_dict, ↓isT_dict_non, ↓isT_dict_bool, ↓isT_dict_int, ↓isT_dict_str, ↓isT_dict_tuple, ↓isT_dict_list, ↓isT_dict_dict, ↓slot_0, ↓slot_1, ↓slot_2, ↓slot_3, ↓slot_4, ↓slot_5, ↓slot_6, ↓slot_7, ↓slot_8, ↓slot_9, ↓slot_10, ↓slot_11, ↓slot_12, ↓slot_13, ↓slot_14, ↓slot_15, ↓slot_16, ↓slot_17, ↓set_0, ↓set_1, ↓set_2, ↓set_3, ↓set_4, ↓set_5, ↓set_6, ↓set_7, ↓set_8, ↓set_9, ↓set_10, ↓set_11, ↓set_12, ↓set_13, ↓set_14, ↓set_15, ↓set_16, ↓set_17, eq_nil.1, eq_nil.2]
    exact ⟨by decide, _, .refl _, q⟩
  · obtain ⟨k, hk, rfl⟩ := rangeD_mem hd
    obtain ⟨x, hx, e⟩ := atI_same (l := l) (k := k) (by omega)
    simp only [↓dSeq_eq, ↓wnx_nx, ↓wnx_rt, ↓wnx_bk, ↓wnx_ct, ↓wnx_ex, ↓wlp_nx, ↓wlp_rt, ↓wlp_bk, ↓wlp_ct, ↓wlp_ex, ↓wex_nx, ↓wex_rt, ↓wex_bk, ↓wex_ct, ↓wex_ex, ↓en_nx, ↓en_rt, ↓en_ex, ↓forGo_nil, ↓forGo_cons, ↓dNext, ↓dBreak, ↓dCont, ↓dDrop, ↓dRet, ↓dRetN, ↓dIfS, ↓hName, ↓hNil, ↓hCons, ↓hTup, ↓dAsg, ↓dPar, ↓dTest, ↓dAnd, ↓dOr, ↓dNot, ↓dAndV, ↓dOrV, ↓dNotV, ↓dIf, ↓dVar, ↓dC, ↓dOp, ↓dUn, ↓dNil, ↓dCons, ↓dTup, ↓dLst, ↓dLstM, ↓dCall, ↓dCallK, ↓pick, ↓dCB, ↓dSeqI, ↓dFor, ↓dRange1, ↓dRange2, ↓dRaise, ↓dRaise0, ↓dIsi, ↓dIsi2, ↓oAdd, ↓oSubI, ↓oMulI, ↓oDivI, ↓oModI, ↓oPowI, ↓oSubB, ↓oCmpI, ↓oNeg, ↓oEq, ↓oNe, ↓oIsN, ↓oNotN, ↓oIsB, ↓oIx, ↓cLen, ↓lenQ, ↓D.len?, ↓cAbs, ↓cInt, ↓cMax2, ↓cMin2, ↓cGcd, ↓cSum, ↓cStr, ↓okEq_int, ↓okEq_bl, ↓okEq_non, ↓eqD_int, ↓eqD_bl, ↓eqD_intTup, ↓atI0, ↓atI1, ↓atI2, ↓atI3, ↓ty_int, ↓ty_bl, ↓ty_non, ↓ty_str, ↓ty_tup, ↓ty_lst, ↓endsOf, List.length_cons, List.length_nil, List.map_cons, List.map_nil, Bool.not_true, Bool.not_false, Bool.true_and, Bool.and_true, Bool.false_and, Bool.or_true, Bool.true_or, Bool.false_or, Bool.or_false, ite_true, ite_false, if_true, if_false, Bool.false_eq_true, reduceCtorEq, decide_true, decide_false, true_and, and_true, Bool.not_not, Option.isSome_some, if_false_left, decide_eq_true_eq, Bool.decide_eq_true, ↓isT_non_non, ↓isT_non_bool, ↓isT_non_int, ↓isT_non_str, ↓isT_non_tuple, ↓isT_non_list, ↓isT_non_dict, ↓isT_bool_non, ↓isT_bool_bool, ↓isT_bool_int, ↓isT_bool_str, ↓isT_bool_tuple, ↓isT_bool_list, ↓isT_bool_dict, ↓isT_int_non, ↓isT_int_bool, ↓isT_int_int, ↓isT_int_str, ↓isT_int_tuple, ↓isT_int_list, ↓isT_int_dict, ↓isT_str_non, ↓isT_str_bool, ↓isT_str_int, ↓isT_str_str, ↓isT_str_tuple, ↓isT_str_list, ↓isT_str_dict, ↓isT_tuple_non, ↓isT_tuple_bool, ↓isT_tuple_int, ↓isT_tuple_str, ↓isT_tuple_tuple, ↓isT_tuple_list, ↓isT_tuple_dict, ↓isT_list_non, ↓isT_list_bool, ↓isT_list_int, ↓isT_list_str, ↓isT_list_tuple, ↓isT_list_list, ↓isT_list_dict, ↓isT_dict_non, ↓isT_dict_bool, ↓isT_dict_int, ↓isT_dict_str, ↓isT_dict_tuple, ↓isT_dict_list, ↓isT_dict_dict, ↓slot_0, ↓slot_1, ↓slot_2, ↓slot_3, ↓slot_4, ↓slot_5, ↓slot_6, ↓slot_7, ↓slot_8, ↓slot_9, ↓slot_10, ↓slot_11, ↓slot_12, ↓slot_13, ↓slot_14, ↓slot_15, ↓slot_16, ↓slot_17, ↓set_0, ↓set_1, ↓set_2, ↓set_3, ↓set_4, ↓set_5, ↓set_6, ↓set_7, ↓set_8, ↓set_9, ↓set_10, ↓set_11, ↓set_12, ↓set_13, ↓set_14, ↓set_15, ↓set_16, ↓set_17, ↓wipeD, e]
    exact ⟨x, x, rfl, hn, .inl ⟨rfl, hl.2 x hx, by simp only [↓dSeq_eq, ↓wnx_nx, ↓wnx_rt, ↓wnx_bk, ↓wnx_ct, ↓wnx_ex, ↓wlp_nx, ↓wlp_rt, ↓wlp_bk, ↓wlp_ct, ↓wlp_ex, ↓wex_nx, ↓wex_rt, ↓wex_bk, ↓wex_ct, ↓wex_ex, ↓en_nx, ↓en_rt, ↓en_ex, ↓forGo_nil, ↓forGo_cons, ↓dNext, ↓dBreak, ↓dCont, ↓dDrop, ↓dRet, ↓dRetN, ↓dIfS, ↓hName, ↓hNil, ↓hCons, ↓hTup, ↓dAsg, ↓dPar, ↓dTest, ↓dAnd, ↓dOr, ↓dNot, ↓dAndV, ↓dOrV, ↓dNotV, ↓dIf, ↓dVar, ↓dC, ↓dOp, ↓dUn, ↓dNil, ↓dCons, ↓dTup, ↓dLst, ↓dLstM, ↓dCall, ↓dCallK, ↓pick, ↓dCB, ↓dSeqI, ↓dFor, ↓dRange1, ↓dRange2, ↓dRaise, ↓dRaise0, ↓dIsi, ↓dIsi2, ↓oAdd, ↓oSubI, ↓oMulI, ↓oDivI, ↓oModI, ↓oPowI, ↓oSubB, ↓oCmpI, ↓oNeg, ↓oEq, ↓oNe, ↓oIsN, ↓oNotN, ↓oIsB, ↓oIx, ↓cLen, ↓lenQ, ↓D.len?, ↓cAbs, ↓cInt, ↓cMax2, ↓cMin2, ↓cGcd, ↓cSum, ↓cStr, ↓okEq_int, ↓okEq_bl, ↓okEq_non, ↓eqD_int, ↓eqD_bl, ↓eqD_intTup, ↓atI0, ↓atI1, ↓atI2, ↓atI3, ↓ty_int, ↓ty_bl, ↓ty_non, ↓ty_str, ↓ty_tup, ↓ty_lst, ↓endsOf, List.length_cons, List.length_nil, List.map_cons, List.map_nil, Bool.not_true, Bool.not_false, Bool.true_and, Bool.and_true, Bool.false_and, Bool.or_true, Bool.true_or, Bool.false_or, Bool.or_false, ite_true, ite_false, if_true, if_false, Bool.false_eq_true, reduceCtorEq, decide_true, decide_false, true_and, and_true, Bool.not_not, Option.isSome_some, if_false_left, decide_eq_true_eq, Bool.decide_eq_true, ↓isT_non_non, ↓isT_non_bool, ↓isT_non_int, ↓isT_non_str, ↓isT_non_tuple, ↓isT_non_list, ↓isT_non_dict, ↓isT_bool_non, ↓isT_bool_bool, ↓isT_bool_int, ↓isT_bool_str, ↓isT_bool_tuple, ↓isT_bool_list, ↓isT_bool_dict, ↓isT_int_non, ↓isT_int_bool, ↓isT_int_int, ↓isT_int_str, ↓isT_int_tuple, ↓isT_int_list, ↓isT_int_dict, ↓isT_str_non, ↓isT_str_bool, ↓isT_str_int, ↓isT_str_str, ↓isT_str_tuple, ↓isT_str_list, ↓isT_str_dict, ↓isT_tuple_non, ↓isT_tuple_bool, ↓isT_tuple_int, ↓isT_tuple_str, ↓isT_tuple_tuple, ↓isT_tuple_list, ↓isT_tuple_dict, ↓isT_list_non, ↓isT_list_bool, ↓isT_list_int, ↓isT_list_str, ↓isT_list_tuple, ↓isT_list_list, ↓isT_list_dict, ↓isT_dict_non, ↓isT_dict_bool, ↓isT_dict_int, ↓isT_dict_str, ↓isT_dict_tuple, ↓isT_dict_list, ↓isT_dict_dict, ↓slot_0, ↓slot_1, ↓slot_2, ↓slot_3, ↓slot_4, ↓slot_5, ↓slot_6, ↓slot_7, ↓slot_8, ↓slot_9, ↓slot_10, ↓slot_11, ↓slot_12, ↓slot_13, ↓slot_14, ↓slot_15, ↓slot_16, ↓slot_17, ↓set_0, ↓set_1, ↓set_2, ↓set_3, ↓set_4, ↓set_5, ↓set_6, ↓set_7, ↓set_8, ↓set_9, ↓set_10, ↓set_11, ↓set_12, ↓set_13, ↓set_14, ↓set_15, ↓set_16, ↓set_17]; exact hR _⟩⟩
theorem same_lst {n : Nat} {l : List D} {M : Mst} {Q : D → Mst → Prop} {E} (hn : NDM M) (hl : l.length ≤ 100000 ∧ ∀ x ∈ l, WF n M x) (q : Q (.bl true) M) : t_law_same K (sp_same n) (endsOf Q E) ⟨[some (.lst l), some (.lst l), none, none], M⟩ := by
  refine same_head (t := .list) rfl (.inr rfl) (skip_if (fun R E hR => ?_) ?_)
  · simp only [↓dSeq_eq, ↓wnx_nx, ↓wnx_rt, ↓wnx_bk, ↓wnx_ct, ↓wnx_ex, ↓wlp_nx, ↓wlp_rt, ↓wlp_bk, ↓wlp_ct, ↓wlp_ex, ↓wex_nx, ↓wex_rt, ↓wex_bk, ↓wex_ct, ↓wex_ex, ↓en_nx, ↓en_rt, ↓en_ex, ↓forGo_nil, ↓forGo_cons, ↓dNext, ↓dBreak, ↓dCont, ↓dDrop, ↓dRet, ↓dRetN, ↓dIfS, ↓hName, ↓hNil, ↓hCons, ↓hTup, ↓dAsg, ↓dPar, ↓dTest, ↓dAnd, ↓dOr, ↓dNot, ↓dAndV, ↓dOrV, ↓dNotV, ↓dIf, ↓dVar, ↓dC, ↓dOp, ↓dUn, ↓dNil, ↓dCons, ↓dTup, ↓dLst, ↓dLstM, ↓dCall, ↓dCallK, ↓pick, ↓dCB, ↓dSeqI, ↓dFor, ↓dRange1, ↓dRange2, ↓dRaise, ↓dRaise0, ↓dIsi, ↓dIsi2, ↓oAdd, ↓oSubI, ↓oMulI, ↓oDivI, ↓oModI, ↓oPowI, ↓oSubB, ↓oCmpI, ↓oNeg, ↓oEq, ↓oNe, ↓oIsN, ↓oNotN, ↓oIsB, ↓oIx, ↓cLen, ↓lenQ, ↓D.len?, ↓cAbs, ↓cInt, ↓cMax2, ↓cMin2, ↓cGcd, ↓cSum, ↓cStr, ↓okEq_int, ↓okEq_bl, ↓okEq_non, ↓eqD_int, ↓eqD_bl, ↓eqD_intTup, ↓atI0, ↓atI1, ↓atI2, ↓atI3, ↓ty_int, ↓ty_bl, ↓ty_non, ↓ty_str, ↓ty_tup, ↓ty_lst, ↓endsOf, List.length_cons, List.length_nil, List.map_cons, List.map_nil, Bool.not_true, Bool.not_false, Bool.true_and, Bool.and_true, Bool.false_and, Bool.or_true, Bool.true_or, Bool.false_or, Bool.or_false, ite_true, ite_false, if_true, if_false, Bool.false_eq_true, reduceCtorEq, decide_true, decide_false, true_and, and_true, Bool.not_not, Option.isSome_some, if_false_left, decide_eq_true_eq, Bool.decide_eq_true, ↓isT_non_non, ↓isT_non_bool, ↓isT_non_int, ↓isT_non_str, ↓isT_non_tuple, ↓isT_non_list, ↓isT_non_dict, ↓isT_bool_non, ↓isT_bool_bool, ↓isT_bool_int, ↓isT_bool_str, ↓isT_bool_tuple, ↓isT_bool_list, ↓isT_bool_dict, ↓isT_int_non, ↓isT_int_bool, ↓isT_int_int, ↓isT_int_str, ↓isT_int_tuple, ↓isT_int_list, ↓isT_int_dict, ↓isT_str_non, ↓isT_str_bool, ↓isT_str_int, ↓isT_str_str, ↓isT_str_tuple, ↓isT_str_list, ↓isT_str_dict, ↓isT_tuple_non, ↓isT_tuple_bool, ↓isT_tuple_int, ↓isT_tuple_str, ↓isT_tuple_tuple, ↓isT_tuple_list, ↓isT_tuple_dict, ↓isT_list_non, ↓isT_list_bool, ↓isT_list_int, ↓isT_list_str, ↓isT_list_tuple, ↓isT_list_list, ↓isT_list_dict, ↓isT_dict_non, ↓isT_dict_bool, ↓isT_dict_int, ↓isT_dict_str, ↓isT_dict_tuple, ↓isT_dict_list, ↓isT_dict_dict, ↓slot_0, ↓slot_1, ↓slot_2, ↓slot_3, ↓slot_4, ↓slot_5, ↓slot_6, ↓slot_7, ↓slot_8, ↓slot_9, ↓slot_10, ↓slot_11, ↓slot_12, ↓slot_13, ↓slot_14, ↓slot_15, ↓slot_16, ↓slot_17, ↓set_0, ↓set_1, ↓set_2, ↓set_3, ↓set_4, ↓set_5, ↓set_6, ↓set_7, ↓set_8, ↓set_9, ↓set_10, ↓set_11, ↓set_12, ↓set_13, ↓set_14, ↓set_15, ↓set_16, ↓set_17, ne_eq, not_true_eq_false]; exact hR
  simp only [↓dSeq_eq, ↓wnx_nx, ↓wnx_rt, ↓wnx_bk, ↓wnx_ct, ↓wnx_ex, ↓wlp_nx, ↓wlp_rt, ↓wlp_bk, ↓wlp_ct, ↓wlp_ex, ↓wex_nx, ↓wex_rt, ↓wex_bk, ↓wex_ct, ↓wex_ex, ↓en_nx, ↓en_rt, ↓en_ex, ↓forGo_nil, ↓forGo_cons, ↓dNext, ↓dBreak, ↓dCont, ↓dDrop, ↓dRet, ↓dRetN, ↓dIfS, ↓hName, ↓hNil, ↓hCons, ↓hTup, ↓dAsg, ↓dPar, ↓dTest, ↓dAnd, ↓dOr, ↓dNot, ↓dAndV, ↓dOrV, ↓dNotV, ↓dIf, ↓dVar, ↓dC, ↓dOp, ↓dUn, ↓dNil, ↓dCons, ↓dTup, ↓dLst, ↓dLstM, ↓dCall, ↓dCallK, ↓pick, ↓dCB, ↓dSeqI, ↓dFor, ↓dRange1, ↓dRange2, ↓dRaise, ↓dRaise0, ↓dIsi, ↓dIsi2, ↓oAdd, ↓oSubI, ↓oMulI, ↓oDivI, ↓oModI, ↓oPowI, ↓oSubB, ↓oCmpI, ↓oNeg, ↓oEq, ↓oNe, ↓oIsN, ↓oNotN, ↓oIsB, ↓oIx, ↓cLen, ↓lenQ, ↓D.len?, ↓cAbs, ↓cInt, ↓cMax2, ↓cMin2, ↓cGcd, ↓cSum, ↓cStr, ↓okEq_int, ↓okEq_bl, ↓okEq_non, ↓eqD_int, ↓eqD_bl, ↓eqD_intTup, ↓atI0, ↓atI1, ↓atI2, ↓atI3, ↓ty_int, ↓ty_bl, ↓ty_non, ↓ty_str, ↓ty_tup, ↓ty_lst, ↓endsOf, List.length_cons, List.length_nil, List.map_cons, List.map_nil, Bool.not_true, Bool.not_false, Bool.true_and, Bool.and_true, Bool.false_and, Bool.or_true, Bool.true_or, Bool.false_or, Bool.or_false, ite_true, ite_false, if_true, if_false, Bool.false_eq_true, reduceCtorEq, decide_true, decide_false, true_and, and_true, Bool.not_not, Option.isSome_some, if_false_left, decide_eq_true_eq, Bool.decide_eq_true, ↓isT_non_non, ↓isT_non_bool, ↓isT_non_int, ↓isT_non_str, ↓isT_non_tuple, ↓isT_non_list, ↓isT_non_dict, ↓isT_bool_non, ↓isT_bool_bool, ↓isT_bool_int, ↓isT_bool_str, ↓isT_bool_tuple, ↓isT_bool_list, ↓isT_bool_dict, ↓isT_int_non, ↓isT_int_bool, ↓isT_int_int, ↓isT_int_str, ↓isT_int_tuple, ↓isT_int_list, ↓isT_int_dict, ↓isT_str_non, ↓isT_str_bool, ↓isT_str_int, ↓isT_str_str, ↓isT_str_tuple, ↓isT_str_list, ↓isT_str_dict, ↓isT_tuple_non, ↓isT_tuple_bool, ↓isT_tuple_int, ↓isT_tuple_str, ↓isT_tuple_tuple, ↓isT_tuple_list, ↓isT_tuple_dict, ↓isT_list_non, ↓isT_list_bool, ↓isT_list_int, ↓isT_list_str, ↓isT_list_tuple, ↓isT_list_list, ↓isT_list_dict, ↓isT_dict_non, ↓isT_dict_bool, ↓isT_dict_int, ↓isT_dict_str, ↓isT_dict_tuple, ↓isT_dict_list, ↓isT_dict_dict, ↓slot_0, ↓slot_1, ↓slot_2, ↓slot_3, ↓slot_4, ↓slot_5, ↓slot_6, ↓slot_7, ↓slot_8, ↓slot_9, ↓slot_10, ↓slot_11, ↓slot_12, ↓slot_13, ↓slot_14, ↓slot_15, ↓slot_16, ↓slot_17, ↓set_0, ↓set_1, ↓set_2, ↓set_3, ↓set_4, ↓set_5, ↓set_6, ↓set_7, ↓set_8, ↓set_9, ↓set_10, ↓set_11, ↓set_12, ↓set_13, ↓set_14, ↓set_15, ↓set_16, ↓set_17, ↓dLc]
  refine ⟨by have := hl.1; omega, by omega, ?_⟩
  refine lcGo_none ?_ _ fun d hd R hR => ?_
  · simp only [↓dSeq_eq, ↓wnx_nx, ↓wnx_rt, ↓wnx_bk, ↓wnx_ct, ↓wnx_ex, ↓wlp_nx, ↓wlp_rt, ↓wlp_bk, ↓wlp_ct, ↓wlp_ex, ↓wex_nx, ↓wex_rt, ↓wex_bk, ↓wex_ct, ↓wex_ex, ↓en_nx, ↓en_rt, ↓en_ex, ↓forGo_nil, ↓forGo_cons, ↓dNext, ↓dBreak, ↓dCont, ↓dDrop, ↓dRet, ↓dRetN, ↓dIfS, ↓hName, ↓hNil, ↓hCons, ↓hTup, ↓dAsg, ↓dPar, ↓dTest, ↓dAnd, ↓dOr, ↓dNot, ↓dAndV, ↓dOrV, ↓dNotV, ↓dIf, ↓dVar, ↓dC, ↓dOp, ↓dUn, ↓dNil, ↓dCons, ↓dTup, ↓dLst, ↓dLstM, ↓dCall, ↓dCallK, ↓pick, ↓dCB, ↓dSeqI, ↓dFor, ↓dRange1, ↓dRange2, ↓dRaise, ↓dRaise0, ↓dIsi, ↓dIsi2, ↓oAdd, ↓oSubI, ↓oMulI, ↓oDivI, ↓oModI, ↓oPowI, ↓oSubB, ↓oCmpI, ↓oNeg, ↓oEq, ↓oNe, ↓oIsN, ↓oNotN, ↓oIsB, ↓oIx, ↓cLen, ↓lenQ, ↓D.len?, ↓cAbs, ↓cInt, ↓cMax2, ↓cMin2, ↓cGcd, ↓cSum, ↓cStr, ↓okEq_int, ↓okEq_bl, ↓okEq_non, ↓eqD_int, ↓eqD_bl, ↓eqD_intTup, ↓atI0, ↓atI1, ↓atI2, ↓atI3, ↓ty_int, ↓ty_bl, ↓ty_non, ↓ty_str, ↓ty_tup, ↓ty_lst, ↓endsOf, List.length_cons, List.length_nil, List.map_cons, List.map_nil, Bool.not_true, Bool.not_false, Bool.true_and, Bool.and_true, Bool.false_and, Bool.or_true, Bool.true_or, Bool.false_or, Bool.or_false, ite_true, ite_false, if_true, if_false, Bool.false_eq_true, reduceCtorEq, decide_true, decide_false, true_and, and_true, Bool.not_not, Option.isSome_some, if_false_left, decide_eq_true_eq, Bool.decide_eq_true, ↓isT_non_non, ↓isT_non_bool, ↓isT_non_int, ↓isT_non_str, ↓isT_non_tuple, ↓isT_non_list, ↓isT_non_dict, ↓isT_bool_non, ↓isT_bool_bool, ↓isT_bool_int, ↓isT_bool_str, ↓isT_bool_tuple, ↓isT_bool_list, ↓isT_bool_dict, ↓isT_int_non, ↓isT_int_bool, ↓isT_int_int, ↓isT_int_str, ↓isT_int_tuple, ↓isT_int_list, ↓isT_int_dict, ↓isT_str_non, ↓isT_str_bool, ↓isT_str_int, ↓isT_str_str, ↓isT_str_tuple, ↓isT_str_list, ↓isT_str_dict, ↓isT_tuple_non, ↓isT_tuple_bool, ↓isT_tuple_int, ↓isT_tuple_str, ↓isT_tuple_tuple, ↓isT_tuple_list, ↓isT_tuple_dict, ↓isT_list_non, ↓isT_list_bool, ↓isT_list_int, ↓isT_list_str, ↓isT_list_tuple, ↓isT_list_list, ↓isT_list_dict, ↓isT_dict_non, ↓isT_dict_bool, ↓isT_dict_int, ↓isT_dict_str, ↓isT_dict_tuple, ↓isT_dict_list, ↓isT_dict_dict, ↓slot_0, ↓slot_1, ↓slot_2, ↓slot_3, ↓slot_4, ↓slot_5, ↓slot_6, ↓slot_7, ↓slot_8, ↓slot_9, ↓slot_10, ↓slot_11, ↓slot_12, ↓slot_13, ↓slot_14, ↓slot_15, ↓slot_16, ↓slot_17, ↓set_0, ↓set_1, ↓set_2, ↓set_3, ↓set_4, ↓set_5, ↓set_6, ↓set_7, ↓set_8, ↓set_9, ↓set_10, ↓set_11, ↓set_12, ↓set_13, ↓set_14, ↓set_15, ↓set_16, ↓set_17, eq_nil.1, eq_nil.2]
    exact ⟨by decide, _, .refl _, q⟩
  · obtain ⟨k, hk, rfl⟩ := rangeD_mem hd
    obtain ⟨x, hx, e⟩ := atI_same (l := l) (k := k) (by omega)
    simp only [↓dSeq_eq, ↓wnx_nx, ↓wnx_rt, ↓wnx_bk, ↓wnx_ct, ↓wnx_ex, ↓wlp_nx, ↓wlp_rt, ↓wlp_bk, ↓wlp_ct, ↓wlp_ex, ↓wex_nx, ↓wex_rt, ↓wex_bk, ↓wex_ct, ↓wex_ex, ↓en_nx, ↓en_rt, ↓en_ex, ↓forGo_nil, ↓forGo_cons, ↓dNext, ↓dBreak, ↓dCont, ↓dDrop, ↓dRet, ↓dRetN, ↓dIfS, ↓hName, ↓hNil, ↓hCons, ↓hTup, ↓dAsg, ↓dPar, ↓dTest, ↓dAnd, ↓dOr, ↓dNot, ↓dAndV, ↓dOrV, ↓dNotV, ↓dIf, ↓dVar, ↓dC, ↓dOp, ↓dUn, ↓dNil, ↓dCons, ↓dTup, ↓dLst, ↓dLstM, ↓dCall, ↓dCallK, ↓pick, ↓dCB, ↓dSeqI, ↓dFor, ↓dRange1, ↓dRange2, ↓dRaise, ↓dRaise0, ↓dIsi, ↓dIsi2, ↓oAdd, ↓oSubI, ↓oMulI, ↓oDivI, ↓oModI, ↓oPowI, ↓oSubB, ↓oCmpI, ↓oNeg, ↓oEq, ↓oNe, ↓oIsN, ↓oNotN, ↓oIsB, ↓oIx, ↓cLen, ↓lenQ, ↓D.len?, ↓cAbs, ↓cInt, ↓cMax2, ↓cMin2, ↓cGcd, ↓cSum, ↓cStr, ↓okEq_int, ↓okEq_bl, ↓okEq_non, ↓eqD_int, ↓eqD_bl, ↓eqD_intTup, ↓atI0, ↓atI1, ↓atI2, ↓atI3, ↓ty_int, ↓ty_bl, ↓ty_non, ↓ty_str, ↓ty_tup, ↓ty_lst, ↓endsOf, List.length_cons, List.length_nil, List.map_cons, List.map_nil, Bool.not_true, Bool.not_false, Bool.true_and, Bool.and_true, Bool.false_and, Bool.or_true, Bool.true_or, Bool.false_or, Bool.or_false, ite_true, ite_false, if_true, if_false, Bool.false_eq_true, reduceCtorEq, decide_true, decide_false, true_and, and_true, Bool.not_not, Option.isSome_some, if_false_left, decide_eq_true_eq, Bool.decide_eq_true, ↓isT_non_non, ↓isT_non_bool, ↓isT_non_int, ↓isT_non_str, ↓isT_non_tuple, ↓isT_non_list, ↓isT_non_dict, ↓isT_bool_non, ↓isT_bool_bool, ↓isT_bool_int, ↓isT_bool_str, ↓isT_bool_tuple, ↓isT_bool_list, ↓isT_bool_dict, ↓isT_int_non, ↓isT_int_bool, ↓isT_int_int, ↓isT_int_str, ↓isT_int_tuple, ↓isT_int_list, ↓isT_int_dict, ↓isT_str_non, ↓isT_str_bool, ↓isT_str_int, ↓isT_str_str, ↓isT_str_tuple, ↓isT_str_list, ↓isT_str_dict, ↓isT_tuple_non, ↓isT_tuple_bool, ↓isT_tuple_int, ↓isT_tuple_str, ↓isT_tuple_tuple, ↓isT_tuple_list, ↓isT_tuple_dict, ↓isT_list_non, ↓isT_list_bool, ↓isT_list_int, ↓isT_list_str, ↓isT_list_tuple, ↓isT_list_list, ↓isT_list_dict, ↓isT_dict_non, ↓isT_dict_bool, ↓isT_dict_int, ↓isT_dict_str, ↓isT_dict_tuple, ↓isT_dict_list, ↓isT_dict_dict, ↓slot_0, ↓slot_1, ↓slot_2, ↓slot_3, ↓slot_4, ↓slot_5, ↓slot_6, ↓slot_7, ↓slot_8, ↓slot_9, ↓slot_10, ↓slot_11, ↓slot_12, ↓slot_13, ↓slot_14, ↓slot_15, ↓slot_16, ↓slot_17, ↓set_0, ↓set_1, ↓set_2, ↓set_3, ↓set_4, ↓set_5, ↓set_6, ↓set_7, ↓set_8, ↓set_9, ↓set_10, ↓set_11, ↓set_12, ↓set_13, ↓set_14, ↓set_15, ↓set_16, ↓set_17, ↓wipeD, e]
    exact ⟨x, x, rfl, hn, .inl ⟨rfl, hl.2 x hx, by simp only [↓dSeq_eq, ↓wnx_nx, ↓wnx_rt, ↓wnx_bk, ↓wnx_ct, ↓wnx_ex, ↓wlp_nx, ↓wlp_rt, ↓wlp_bk, ↓wlp_ct, ↓wlp_ex, ↓wex_nx, ↓wex_rt, ↓wex_bk, ↓wex_ct, ↓wex_ex, ↓en_nx, ↓en_rt, ↓en_ex, ↓forGo_nil, ↓forGo_cons, ↓dNext, ↓dBreak, ↓dCont, ↓dDrop, ↓dRet, ↓dRetN, ↓dIfS, ↓hName, ↓hNil, ↓hCons, ↓hTup, ↓dAsg, ↓dPar, ↓dTest, ↓dAnd, ↓dOr, ↓dNot, ↓dAndV, ↓dOrV, ↓dNotV, ↓dIf, ↓dVar, ↓dC, ↓dOp, ↓dUn, ↓dNil, ↓dCons, ↓dTup, ↓dLst, ↓dLstM, ↓dCall, ↓dCallK, ↓pick, ↓dCB, ↓dSeqI, ↓dFor, ↓dRange1, ↓dRange2, ↓dRaise, ↓dRaise0, ↓dIsi, ↓dIsi2, ↓oAdd, ↓oSubI, ↓oMulI, ↓oDivI, ↓oModI, ↓oPowI, ↓oSubB, ↓oCmpI, ↓oNeg, ↓oEq, ↓oNe, ↓oIsN, ↓oNotN, ↓oIsB, ↓oIx, ↓cLen, ↓lenQ, ↓D.len?, ↓cAbs, ↓cInt, ↓cMax2, ↓cMin2, ↓cGcd, ↓cSum, ↓cStr, ↓okEq_int, ↓okEq_bl, ↓okEq_non, ↓eqD_int, ↓eqD_bl, ↓eqD_intTup, ↓atI0, ↓atI1, ↓atI2, ↓atI3, ↓ty_int, ↓ty_bl, ↓ty_non, ↓ty_str, ↓ty_tup, ↓ty_lst, ↓endsOf, List.length_cons, List.length_nil, List.map_cons, List.map_nil, Bool.not_true, Bool.not_false, Bool.true_and, Bool.and_true, Bool.false_and, Bool.or_true, Bool.true_or, Bool.false_or, Bool.or_false, ite_true, ite_false, if_true, if_false, Bool.false_eq_true, reduceCtorEq, decide_true, decide_false, true_and, and_true, Bool.not_not, Option.isSome_some, if_false_left, decide_eq_true_eq, Bool.decide_eq_true, ↓isT_non_non, ↓isT_non_bool, ↓isT_non_int, ↓isT_non_str, ↓isT_non_tuple, ↓isT_non_list, ↓isT_non_dict, ↓isT_bool_non, ↓isT_bool_bool, ↓isT_bool_int, ↓isT_bool_str, ↓isT_bool_tuple, ↓isT_bool_list, ↓isT_bool_dict, ↓isT_int_non, ↓isT_int_bool, ↓isT_int_int, ↓isT_int_str, ↓isT_int_tuple, ↓isT_int_list, ↓isT_int_dict, ↓isT_str_non, ↓isT_str_bool, ↓isT_str_int, ↓isT_str_str, ↓isT_str_tuple, ↓isT_str_list, ↓isT_str_dict, ↓isT_tuple_non, ↓isT_tuple_bool, ↓isT_tuple_int, ↓isT_tuple_str, ↓isT_tuple_tuple, ↓isT_tuple_list, ↓isT_tuple_dict, ↓isT_list_non, ↓isT_list_bool, ↓isT_list_int, ↓isT_list_str, ↓isT_list_tuple, ↓isT_list_list, ↓isT_list_dict, ↓isT_dict_non, ↓isT_dict_bool, ↓isT_dict_int, ↓isT_dict_str, ↓isT_dict_tuple, ↓isT_dict_list, ↓isT_dict_dict, ↓slot_0, ↓slot_1, ↓slot_2, ↓slot_3, ↓slot_4, ↓slot_5, ↓slot_6, ↓slot_7, ↓slot_8, ↓slot_9, ↓slot_10, ↓slot_11, ↓slot_12, ↓slot_13, ↓slot_14, ↓slot_15, ↓slot_16, ↓slot_17, ↓set_0, ↓set_1, ↓set_2, ↓set_3, ↓set_4, ↓set_5, ↓set_6, ↓set_7, ↓set_8, ↓set_9, ↓set_10, ↓set_11, ↓set_12, ↓set_13, ↓set_14, ↓set_15, ↓set_16, ↓set_17]; exact hR _⟩⟩
theorem ty_lc {M : Mst} {p : Addr} {l : List D} (h : M p = some (.lst l)) : D.ty M (.ref p) = some .list := by
  show (match M p with | some (.lst _) => some Ty.list | some (.box _) => some Ty.list | some (.dct _) => some Ty.dict | _ => none) = _
  rw [h]
theorem ty_dc {M : Mst} {p : Addr} {l : List (Key × D)} (h : M p = some (.dct l)) : D.ty M (.ref p) = some .dict := by
  show (match M p with | some (.lst _) => some Ty.list | some (.box _) => some Ty.list | some (.dct _) => some Ty.dict | _ => none) = _
  rw [h]
theorem same_rl {n : Nat} {p : Addr} {l : List D} {M : Mst} {Q : D → Mst → Prop} {E} (hn : NDM M) (hm : M p = some (.lst l)) (hl : l.length ≤ 100000 ∧ ∀ x ∈ l, WF n M x) (q : Q (.bl true) M) : t_law_same K (sp_same n) (endsOf Q E) ⟨[some (.ref p), some (.ref p), none, none], M⟩ := by
  refine same_head (t := .list) (ty_lc hm) (.inr rfl) (skip_if (fun R E hR => ?_) ?_)
  · simp only [↓dSeq_eq, ↓wnx_nx, ↓wnx_rt, ↓wnx_bk, ↓wnx_ct, ↓wnx_ex, ↓wlp_nx, ↓wlp_rt, ↓wlp_bk, ↓wlp_ct, ↓wlp_ex, ↓wex_nx, ↓wex_rt, ↓wex_bk, ↓wex_ct, ↓wex_ex, ↓en_nx, ↓en_rt, ↓en_ex, ↓forGo_nil, ↓forGo_cons, ↓dNext, ↓dBreak, ↓dCont, ↓dDrop, ↓dRet, ↓dRetN, ↓dIfS, ↓hName, ↓hNil, ↓hCons, ↓hTup, ↓dAsg, ↓dPar, ↓dTest, ↓dAnd, ↓dOr, ↓dNot, ↓dAndV, ↓dOrV, ↓dNotV, ↓dIf, ↓dVar, ↓dC, ↓dOp, ↓dUn, ↓dNil, ↓dCons, ↓dTup, ↓dLst, ↓dLstM, ↓dCall, ↓dCallK, ↓pick, ↓dCB, ↓dSeqI, ↓dFor, ↓dRange1, ↓dRange2, ↓dRaise, ↓dRaise0, ↓dIsi, ↓dIsi2, ↓oAdd, ↓oSubI, ↓oMulI, ↓oDivI, ↓oModI, ↓oPowI, ↓oSubB, ↓oCmpI, ↓oNeg, ↓oEq, ↓oNe, ↓oIsN, ↓oNotN, ↓oIsB, ↓oIx, ↓cLen, ↓lenQ, ↓D.len?, ↓cAbs, ↓cInt, ↓cMax2, ↓cMin2, ↓cGcd, ↓cSum, ↓cStr, ↓okEq_int, ↓okEq_bl, ↓okEq_non, ↓eqD_int, ↓eqD_bl, ↓eqD_intTup, ↓atI0, ↓atI1, ↓atI2, ↓atI3, ↓ty_int, ↓ty_bl, ↓ty_non, ↓ty_str, ↓ty_tup, ↓ty_lst, ↓endsOf, List.length_cons, List.length_nil, List.map_cons, List.map_nil, Bool.not_true, Bool.not_false, Bool.true_and, Bool.and_true, Bool.false_and, Bool.or_true, Bool.true_or, Bool.false_or, Bool.or_false, ite_true, ite_false, if_true, if_false, Bool.false_eq_true, reduceCtorEq, decide_true, decide_false, true_and, and_true, Bool.not_not, Option.isSome_some, if_false_left, decide_eq_true_eq, Bool.decide_eq_true, ↓isT_non_non, ↓isT_non_bool, ↓isT_non_int, ↓isT_non_str, ↓isT_non_tuple, ↓isT_non_list, ↓isT_non_dict, ↓isT_bool_non, ↓isT_bool_bool, ↓isT_bool_int, ↓isT_bool_str, ↓isT_bool_tuple, ↓isT_bool_list, ↓isT_bool_dict, ↓isT_int_non, ↓isT_int_bool, ↓isT_int_int, ↓isT_int_str, ↓isT_int_tuple, ↓isT_int_list, ↓isT_int_dict, ↓isT_str_non, ↓isT_str_bool, ↓isT_str_int, ↓isT_str_str, ↓isT_str_tuple, ↓isT_str_list, ↓isT_str_dict, ↓isT_tuple_non, ↓isT_tuple_bool, ↓isT_tuple_int, ↓isT_tuple_str, ↓isT_tuple_tuple, ↓isT_tuple_list, ↓isT_tuple_dict, ↓isT_list_non, ↓isT_list_bool, ↓isT_list_int, ↓isT_list_str, ↓isT_list_tuple, ↓isT_list_list, ↓isT_list_dict, ↓isT_dict_non, ↓isT_dict_bool, ↓isT_dict_int, ↓isT_dict_str, ↓isT_dict_tuple, ↓isT_dict_list, ↓isT_dict_dict, ↓slot_0, ↓slot_1, ↓slot_2, ↓slot_3, ↓slot_4, ↓slot_5, ↓slot_6, ↓slot_7, ↓slot_8, ↓slot_9, ↓slot_10, ↓slot_11, ↓slot_12, ↓slot_13, ↓slot_14, ↓slot_15, ↓slot_16, ↓slot_17, ↓set_0, ↓set_1, ↓set_2, ↓set_3, ↓set_4, ↓set_5, ↓set_6, ↓set_7, ↓set_8, ↓set_9, ↓set_10, ↓set_11, ↓set_12, ↓set_13, ↓set_14, ↓set_15, ↓set_16, ↓set_17, ne_eq, not_true_eq_false, ↓ty_lc hm, hm]; exact hR
  simp only [↓dSeq_eq, ↓wnx_nx, ↓wnx_rt, ↓wnx_bk, ↓wnx_ct, ↓wnx_ex, ↓wlp_nx, ↓wlp_rt, ↓wlp_bk, ↓wlp_ct, ↓wlp_ex, ↓wex_nx, ↓wex_rt, ↓wex_bk, ↓wex_ct, ↓wex_ex, ↓en_nx, ↓en_rt, ↓en_ex, ↓forGo_nil, ↓forGo_cons, ↓dNext, ↓dBreak, ↓dCont, ↓dDrop, ↓dRet, ↓dRetN, ↓dIfS, ↓hName, ↓hNil, ↓hCons, ↓hTup, ↓dAsg, ↓dPar, ↓dTest, ↓dAnd, ↓dOr, ↓dNot, ↓dAndV, ↓dOrV, ↓dNotV, ↓dIf, ↓dVar, ↓dC, ↓dOp, ↓dUn, ↓dNil, ↓dCons, ↓dTup, ↓dLst, ↓dLstM, ↓dCall, ↓dCallK, ↓pick, ↓dCB, ↓dSeqI, ↓dFor, ↓dRange1, ↓dRange2, ↓dRaise, ↓dRaise0, ↓dIsi, ↓dIsi2, ↓oAdd, ↓oSubI, ↓oMulI, ↓oDivI, ↓oModI, ↓oPowI, ↓oSubB, ↓oCmpI, ↓oNeg, ↓oEq, ↓oNe, ↓oIsN, ↓oNotN, ↓oIsB, ↓oIx, ↓cLen, ↓lenQ, ↓D.len?, ↓cAbs, ↓cInt, ↓cMax2, ↓cMin2, ↓cGcd, ↓cSum, ↓cStr, ↓okEq_int, ↓okEq_bl, ↓okEq_non, ↓eqD_int, ↓eqD_bl, ↓eqD_intTup, ↓atI0, ↓atI1, ↓atI2, ↓atI3, ↓ty_int, ↓ty_bl, ↓ty_non, ↓ty_str, ↓ty_tup, ↓ty_lst, ↓endsOf, List.length_cons, List.length_nil, List.map_cons, List.map_nil, Bool.not_true, Bool.not_false, Bool.true_and, Bool.and_true, Bool.false_and, Bool.or_true, Bool.true_or, Bool.false_or, Bool.or_false, ite_true, ite_false, if_true, if_false, Bool.false_eq_true, reduceCtorEq, decide_true, decide_false, true_and, and_true, Bool.not_not, Option.isSome_some, if_false_left, decide_eq_true_eq, Bool.decide_eq_true, ↓isT_non_non, ↓isT_non_bool, ↓isT_non_int, ↓isT_non_str, ↓isT_non_tuple, ↓isT_non_list, ↓isT_non_dict, ↓isT_bool_non, ↓isT_bool_bool, ↓isT_bool_int, ↓isT_bool_str, ↓isT_bool_tuple, ↓isT_bool_list, ↓isT_bool_dict, ↓isT_int_non, ↓isT_int_bool, ↓isT_int_int, ↓isT_int_str, ↓isT_int_tuple, ↓isT_int_list, ↓isT_int_dict, ↓isT_str_non, ↓isT_str_bool, ↓isT_str_int, ↓isT_str_str, ↓isT_str_tuple, ↓isT_str_list, ↓isT_str_dict, ↓isT_tuple_non, ↓isT_tuple_bool, ↓isT_tuple_int, ↓isT_tuple_str, ↓isT_tuple_tuple, ↓isT_tuple_list, ↓isT_tuple_dict, ↓isT_list_non, ↓isT_list_bool, ↓isT_list_int, ↓isT_list_str, ↓isT_list_tuple, ↓isT_list_list, ↓isT_list_dict, ↓isT_dict_non, ↓isT_dict_bool, ↓isT_dict_int, ↓isT_dict_str, ↓isT_dict_tuple, ↓isT_dict_list, ↓isT_dict_dict, ↓slot_0, ↓slot_1, ↓slot_2, ↓slot_3, ↓slot_4, ↓slot_5, ↓slot_6, ↓slot_7, ↓slot_8, ↓slot_9, ↓slot_10, ↓slot_11, ↓slot_12, ↓slot_13, ↓slot_14, ↓slot_15, ↓slot_16, ↓slot_17, ↓set_0, ↓set_1, ↓set_2, ↓set_3, ↓set_4, ↓set_5, ↓set_6, ↓set_7, ↓set_8, ↓set_9, ↓set_10, ↓set_11, ↓set_12, ↓set_13, ↓set_14, ↓set_15, ↓set_16, ↓set_17, ↓dLc, hm]
  refine ⟨by have := hl.1; omega, by omega, ?_⟩
  refine lcGo_none ?_ _ fun d hd R hR => ?_
  · simp only [↓dSeq_eq, ↓wnx_nx, ↓wnx_rt, ↓wnx_bk, ↓wnx_ct, ↓wnx_ex, ↓wlp_nx, ↓wlp_rt, ↓wlp_bk, ↓wlp_ct, ↓wlp_ex, ↓wex_nx, ↓wex_rt, ↓wex_bk, ↓wex_ct, ↓wex_ex, ↓en_nx, ↓en_rt, ↓en_ex, ↓forGo_nil, ↓forGo_cons, ↓dNext, ↓dBreak, ↓dCont, ↓dDrop, ↓dRet, ↓dRetN, ↓dIfS, ↓hName, ↓hNil, ↓hCons, ↓hTup, ↓dAsg, ↓dPar, ↓dTest, ↓dAnd, ↓dOr, ↓dNot, ↓dAndV, ↓dOrV, ↓dNotV, ↓dIf, ↓dVar, ↓dC, ↓dOp, ↓dUn, ↓dNil, ↓dCons, ↓dTup, ↓dLst, ↓dLstM, ↓dCall, ↓dCallK, ↓pick, ↓dCB, ↓dSeqI, ↓dFor, ↓dRange1, ↓dRange2, ↓dRaise, ↓dRaise0, ↓dIsi, ↓dIsi2, ↓oAdd, ↓oSubI, ↓oMulI, ↓oDivI, ↓oModI, ↓oPowI, ↓oSubB, ↓oCmpI, ↓oNeg, ↓oEq, ↓oNe, ↓oIsN, ↓oNotN, ↓oIsB, ↓oIx, ↓cLen, ↓lenQ, ↓D.len?, ↓cAbs, ↓cInt, ↓cMax2, ↓cMin2, ↓cGcd, ↓cSum, ↓cStr, ↓okEq_int, ↓okEq_bl, ↓okEq_non, ↓eqD_int, ↓eqD_bl, ↓eqD_intTup, ↓atI0, ↓atI1, ↓atI2, ↓atI3, ↓ty_int, ↓ty_bl, ↓ty_non, ↓ty_str, ↓ty_tup, ↓ty_lst, ↓endsOf, List.length_cons, List.length_nil, List.map_cons, List.map_nil, Bool.not_true, Bool.not_false, Bool.true_and, Bool.and_true, Bool.false_and, Bool.or_true, Bool.true_or, Bool.false_or, Bool.or_false, ite_true, ite_false, if_true, if_false, Bool.false_eq_true, reduceCtorEq, decide_true, decide_false, true_and, and_true, Bool.not_not, Option.isSome_some, if_false_left, decide_eq_true_eq, Bool.decide_eq_true, ↓isT_non_non, ↓isT_non_bool, ↓isT_non_int, ↓isT_non_str, ↓isT_non_tuple, ↓isT_non_list, ↓isT_non_dict, ↓isT_bool_non, ↓isT_bool_bool, ↓isT_bool_int, ↓isT_bool_str, ↓isT_bool_tuple, ↓isT_bool_list, ↓isT_bool_dict, ↓isT_int_non, ↓isT_int_bool, ↓isT_int_int, ↓isT_int_str, ↓isT_int_tuple, ↓isT_int_list, ↓isT_int_dict, ↓isT_str_non, ↓isT_str_bool, ↓isT_str_int, ↓isT_str_str, ↓isT_str_tuple, ↓isT_str_list, ↓isT_str_dict, ↓isT_tuple_non, ↓isT_tuple_bool, ↓isT_tuple_int, ↓isT_tuple_str, ↓isT_tuple_tuple, ↓isT_tuple_list, ↓isT_tuple_dict, ↓isT_list_non, ↓isT_list_bool, ↓isT_list_int, ↓isT_list_str, ↓isT_list_tuple, ↓isT_list_list, ↓isT_list_dict, ↓isT_dict_non, ↓isT_dict_bool, ↓isT_dict_int, ↓isT_dict_str, ↓isT_dict_tuple, ↓isT_dict_list, ↓isT_dict_dict, ↓slot_0, ↓slot_1, ↓slot_2, ↓slot_3, ↓slot_4, ↓slot_5, ↓slot_6, ↓slot_7, ↓slot_8, ↓slot_9, ↓slot_10, ↓slot_11, ↓slot_12, ↓slot_13, ↓slot_14, ↓slot_15, ↓slot_16, ↓slot_17, ↓set_0, ↓set_1, ↓set_2, ↓set_3, ↓set_4, ↓set_5, ↓set_6, ↓set_7, ↓set_8, ↓set_9, ↓set_10, ↓set_11, ↓set_12, ↓set_13, ↓set_14, ↓set_15, ↓set_16, ↓set_17, eq_nil.1, eq_nil.2]
    exact ⟨by decide, _, .refl _, q⟩
  · obtain ⟨k, hk, rfl⟩ := rangeD_mem hd
    obtain ⟨x, hx, e⟩ := atI_same (l := l) (k := k) (by omega)
    simp only [↓dSeq_eq, ↓wnx_nx, ↓wnx_rt, ↓wnx_bk, ↓wnx_ct, ↓wnx_ex, ↓wlp_nx, ↓wlp_rt, ↓wlp_bk, ↓wlp_ct, ↓wlp_ex, ↓wex_nx, ↓wex_rt, ↓wex_bk, ↓wex_ct, ↓wex_ex, ↓en_nx, ↓en_rt, ↓en_ex, ↓forGo_nil, ↓forGo_cons, ↓dNext, ↓dBreak, ↓dCont, ↓dDrop, ↓dRet, ↓dRetN, ↓dIfS, ↓hName, ↓hNil, ↓hCons, ↓hTup, ↓dAsg, ↓dPar, ↓dTest, ↓dAnd, ↓dOr, ↓dNot, ↓dAndV, ↓dOrV, ↓dNotV, ↓dIf, ↓dVar, ↓dC, ↓dOp, ↓dUn, ↓dNil, ↓dCons, ↓dTup, ↓dLst, ↓dLstM, ↓dCall, ↓dCallK, ↓pick, ↓dCB, ↓dSeqI, ↓dFor, ↓dRange1, ↓dRange2, ↓dRaise, ↓dRaise0, ↓dIsi, ↓dIsi2, ↓oAdd, ↓oSubI, ↓oMulI, ↓oDivI, ↓oModI, ↓oPowI, ↓oSubB, ↓oCmpI, ↓oNeg, ↓oEq, ↓oNe, ↓oIsN, ↓oNotN, ↓oIsB, ↓oIx, ↓cLen, ↓lenQ, ↓D.len?, ↓cAbs, ↓cInt, ↓cMax2, ↓cMin2, ↓cGcd, ↓cSum, ↓cStr, ↓okEq_int, ↓okEq_bl, ↓okEq_non, ↓eqD_int, ↓eqD_bl, ↓eqD_intTup, ↓atI0, ↓atI1, ↓atI2, ↓atI3, ↓ty_int, ↓ty_bl, ↓ty_non, ↓ty_str, ↓ty_tup, ↓ty_lst, ↓endsOf, List.length_cons, List.length_nil, List.map_cons, List.map_nil, Bool.not_true, Bool.not_false, Bool.true_and, Bool.and_true, Bool.false_and, Bool.or_true, Bool.true_or, Bool.false_or, Bool.or_false, ite_true, ite_false, if_true, if_false, Bool.false_eq_true, reduceCtorEq, decide_true, decide_false, true_and, and_true, Bool.not_not, Option.isSome_some, if_false_left, decide_eq_true_eq, Bool.decide_eq_true, ↓isT_non_non, ↓isT_non_bool, ↓isT_non_int, ↓isT_non_str, ↓isT_non_tuple, ↓isT_non_list, ↓isT_non_dict, ↓isT_bool_non, ↓isT_bool_bool, ↓isT_bool_int, ↓isT_bool_str, ↓isT_bool_tuple, ↓isT_bool_list, ↓isT_bool_dict, ↓isT_int_non, ↓isT_int_bool, ↓isT_int_int, ↓isT_int_str, ↓isT_int_tuple, ↓isT_int_list, ↓isT_int_dict, ↓isT_str_non, ↓isT_str_bool, ↓isT_str_int, ↓isT_str_str, ↓isT_str_tuple, ↓isT_str_list, ↓isT_str_dict, ↓isT_tuple_non, ↓isT_tuple_bool, ↓isT_tuple_int, ↓isT_tuple_str, ↓isT_tuple_tuple, ↓isT_tuple_list, ↓isT_tuple_dict, ↓isT_list_non, ↓isT_list_bool, ↓isT_list_int, ↓isT_list_str, ↓isT_list_tuple, ↓isT_list_list, ↓isT_list_dict, ↓isT_dict_non, ↓isT_dict_bool, ↓isT_dict_int, ↓isT_dict_str, ↓isT_dict_tuple, ↓isT_dict_list, ↓isT_dict_dict, ↓slot_0, ↓slot_1, ↓slot_2, ↓slot_3, ↓slot_4, ↓slot_5, ↓slot_6, ↓slot_7, ↓slot_8, ↓slot_9, ↓slot_10, ↓slot_11, ↓slot_12, ↓slot_13, ↓slot_14, ↓slot_15, ↓slot_16, ↓slot_17, ↓set_0, ↓set_1, ↓set_2, ↓set_3, ↓set_4, ↓set_5, ↓set_6, ↓set_7, ↓set_8, ↓set_9, ↓set_10, ↓set_11, ↓set_12, ↓set_13, ↓set_14, ↓set_15, ↓set_16, ↓set_17, ↓wipeD, e, hm]
    exact ⟨x, x, rfl, hn, .inl ⟨rfl, hl.2 x hx, by simp only [↓dSeq_eq, ↓wnx_nx, ↓wnx_rt, ↓wnx_bk, ↓wnx_ct, ↓wnx_ex, ↓wlp_nx, ↓wlp_rt, ↓wlp_bk, ↓wlp_ct, ↓wlp_ex, ↓wex_nx, ↓wex_rt, ↓wex_bk, ↓wex_ct, ↓wex_ex, ↓en_nx, ↓en_rt, ↓en_ex, ↓forGo_nil, ↓forGo_cons, ↓dNext, ↓dBreak, ↓dCont, ↓dDrop, ↓dRet, ↓dRetN, ↓dIfS, ↓hName, ↓hNil, ↓hCons, ↓hTup, ↓dAsg, ↓dPar, ↓dTest, ↓dAnd, ↓dOr, ↓dNot, ↓dAndV, ↓dOrV, ↓dNotV, ↓dIf, ↓dVar, ↓dC, ↓dOp, ↓dUn, ↓dNil, ↓dCons, ↓dTup, ↓dLst, ↓dLstM, ↓dCall, ↓dCallK, ↓pick, ↓dCB, ↓dSeqI, ↓dFor, ↓dRange1, ↓dRange2, ↓dRaise, ↓dRaise0, ↓dIsi, ↓dIsi2, ↓oAdd, ↓oSubI, ↓oMulI, ↓oDivI, ↓oModI, ↓oPowI, ↓oSubB, ↓oCmpI, ↓oNeg, ↓oEq, ↓oNe, ↓oIsN, ↓oNotN, ↓oIsB, ↓oIx, ↓cLen, ↓lenQ, ↓D.len?, ↓cAbs, ↓cInt, ↓cMax2, ↓cMin2, ↓cGcd, ↓cSum, ↓cStr, ↓okEq_int, ↓okEq_bl, ↓okEq_non, ↓eqD_int, ↓eqD_bl, ↓eqD_intTup, ↓atI0, ↓atI1, ↓atI2, ↓atI3, ↓ty_int, ↓ty_bl, ↓ty_non, ↓ty_str, ↓ty_tup, ↓ty_lst, ↓endsOf, List.length_cons, List.length_nil, List.map_cons, List.map_nil, Bool.not_true, Bool.not_false, Bool.true_and, Bool.and_true, Bool.false_and, Bool.or_true, Bool.true_or, Bool.false_or, Bool.or_false, ite_true, ite_false, if_true, if_false, Bool.false_eq_true, reduceCtorEq, decide_true, decide_false, true_and, and_true, Bool.not_not, Option.isSome_some, if_false_left, decide_eq_true_eq, Bool.decide_eq_true, ↓isT_non_non, ↓isT_non_bool, ↓isT_non_int, ↓isT_non_str, ↓isT_non_tuple, ↓isT_non_list, ↓isT_non_dict, ↓isT_bool_non, ↓isT_bool_bool, ↓isT_bool_int, ↓isT_bool_str, ↓isT_bool_tuple, ↓isT_bool_list, ↓isT_bool_dict, ↓isT_int_non, ↓isT_int_bool, ↓isT_int_int, ↓isT_int_str, ↓isT_int_tuple, ↓isT_int_list, ↓isT_int_dict, ↓isT_str_non, ↓isT_str_bool, ↓isT_str_int, ↓isT_str_str, ↓isT_str_tuple, ↓isT_str_list, ↓isT_str_dict, ↓isT_tuple_non, ↓isT_tuple_bool, ↓isT_tuple_int, ↓isT_tuple_str, ↓isT_tuple_tuple, ↓isT_tuple_list, ↓isT_tuple_dict, ↓isT_list_non, ↓isT_list_bool, ↓isT_list_int, ↓isT_list_str, ↓isT_list_tuple, ↓isT_list_list, ↓isT_list_dict, ↓isT_dict_non, ↓isT_dict_bool, ↓isT_dict_int, ↓isT_dict_str, ↓isT_dict_tuple, ↓isT_dict_list, ↓isT_dict_dict, ↓slot_0, ↓slot_1, ↓slot_2, ↓slot_3, ↓slot_4, ↓slot_5, ↓slot_6, ↓slot_7, ↓slot_8, ↓slot_9, ↓slot_10, ↓slot_11, ↓slot_12, ↓slot_13, ↓slot_14, ↓slot_15, ↓slot_16, ↓slot_17, ↓set_0, ↓set_1, ↓set_2, ↓set_3, ↓set_4, ↓set_5, ↓set_6, ↓set_7, ↓set_8, ↓set_9, ↓set_10, ↓set_11, ↓set_12, ↓set_13, ↓set_14, ↓set_15, ↓set_16, ↓set_17]; exact hR _⟩⟩
theorem getK_mem {l : List (Key × D)} (hn : (l.map (·.1)).Nodup) : ∀ {kv : Key × D}, kv ∈ l → getK l kv.1 = some kv.2 := by
  induction l with
  | nil => intro kv h; cases h
  | cons p l ih =>
    intro kv h
    rw [List.map_cons, List.nodup_cons] at hn
    rcases List.mem_cons.mp h with e | h
    · subst e
      unfold getK
      rw [List.find?_cons]
      simp
    · have ne : p.1 ≠ kv.1 := fun z => hn.1 (by rw [z]; exact List.mem_map_of_mem h)
      have := ih hn.2 h
      unfold getK at this ⊢
      rw [List.find?_cons]
      simp [ne]
      simpa using this
theorem key_keyD (k : Key) : (keyD k).key = some k := by cases k <;> rfl
theorem nd_key (k : Key) : (keyD k).nd = true := by cases k <;> rfl
theorem same_rd {n : Nat} {p : Addr} {l : List (Key × D)} {M : Mst} {Q : D → Mst → Prop} {E} (hn : NDM M) (hm : M p = some (.dct l)) (hl : l.length ≤ 1000 ∧ ndK l = true ∧ (l.map (·.1)).Nodup ∧ ∀ kv ∈ l, ∀ M', WF n M' kv.2) (q : Q (.bl true) M) :
    t_law_same K (sp_same n) (endsOf Q E) ⟨[some (.ref p), some (.ref p), none, none], M⟩ := by
  have hdo : D.dctOf M (.ref p) = some l := by
    show (match M p with | some (.dct l) => some l | _ => none) = _
    rw [hm]
  unfold t_law_same
  refine skip_if (fun R E hR => ?_) (skip_if (fun R E hR => ?_) (skip_if (fun R E hR => ?_) (skip_if (fun R E hR => ?_) (seq_stop fun R => if_t (S' := ⟨[some (.ref p), some (.ref p), none, none], M⟩) (fun R hR => ?_) ?_))))
  · simp only [↓dSeq_eq, ↓wnx_nx, ↓wnx_rt, ↓wnx_bk, ↓wnx_ct, ↓wnx_ex, ↓wlp_nx, ↓wlp_rt, ↓wlp_bk, ↓wlp_ct, ↓wlp_ex, ↓wex_nx, ↓wex_rt, ↓wex_bk, ↓wex_ct, ↓wex_ex, ↓en_nx, ↓en_rt, ↓en_ex, ↓forGo_nil, ↓forGo_cons, ↓dNext, ↓dBreak, ↓dCont, ↓dDrop, ↓dRet, ↓dRetN, ↓dIfS, ↓hName, ↓hNil, ↓hCons, ↓hTup, ↓dAsg, ↓dPar, ↓dTest, ↓dAnd, ↓dOr, ↓dNot, ↓dAndV, ↓dOrV, ↓dNotV, ↓dIf, ↓dVar, ↓dC, ↓dOp, ↓dUn, ↓dNil, ↓dCons, ↓dTup, ↓dLst, ↓dLstM, ↓dCall, ↓dCallK, ↓pick, ↓dCB, ↓dSeqI, ↓dFor, ↓dRange1, ↓dRange2, ↓dRaise, ↓dRaise0, ↓dIsi, ↓dIsi2, ↓oAdd, ↓oSubI, ↓oMulI, ↓oDivI, ↓oModI, ↓oPowI, ↓oSubB, ↓oCmpI, ↓oNeg, ↓oEq, ↓oNe, ↓oIsN, ↓oNotN, ↓oIsB, ↓oIx, ↓cLen, ↓lenQ, ↓D.len?, ↓cAbs, ↓cInt, ↓cMax2, ↓cMin2, ↓cGcd, ↓cSum, ↓cStr, ↓okEq_int, ↓okEq_bl, ↓okEq_non, ↓eqD_int, ↓eqD_bl, ↓eqD_intTup, ↓atI0, ↓atI1, ↓atI2, ↓atI3, ↓ty_int, ↓ty_bl, ↓ty_non, ↓ty_str, ↓ty_tup, ↓ty_lst, ↓endsOf, List.length_cons, List.length_nil, List.map_cons, List.map_nil, Bool.not_true, Bool.not_false, Bool.true_and, Bool.and_true, Bool.false_and, Bool.or_true, Bool.true_or, Bool.false_or, Bool.or_false, ite_true, ite_false, if_true, if_false, Bool.false_eq_true, reduceCtorEq, decide_true, decide_false, true_and, and_true, Bool.not_not, Option.isSome_some, if_false_left, decide_eq_true_eq, Bool.decide_eq_true, ↓isT_non_non, ↓isT_non_bool, ↓isT_non_int, ↓isT_non_str, ↓isT_non_tuple, ↓isT_non_list, ↓isT_non_dict, ↓isT_bool_non, ↓isT_bool_bool, ↓isT_bool_int, ↓isT_bool_str, ↓isT_bool_tuple, ↓isT_bool_list, ↓isT_bool_dict, ↓isT_int_non, ↓isT_int_bool, ↓isT_int_int, ↓isT_int_str, ↓isT_int_tuple, ↓isT_int_list, ↓isT_int_dict, ↓isT_str_non, ↓isT_str_bool, ↓isT_str_int, ↓isT_str_str, ↓isT_str_tuple, ↓isT_str_list, ↓isT_str_dict, ↓isT_tuple_non, ↓isT_tuple_bool, ↓isT_tuple_int, ↓isT_tuple_str, ↓isT_tuple_tuple, ↓isT_tuple_list, ↓isT_tuple_dict, ↓isT_list_non, ↓isT_list_bool, ↓isT_list_int, ↓isT_list_str, ↓isT_list_tuple, ↓isT_list_list, ↓isT_list_dict, ↓isT_dict_non, ↓isT_dict_bool, ↓isT_dict_int, ↓isT_dict_str, ↓isT_dict_tuple, ↓isT_dict_list, ↓isT_dict_dict, ↓slot_0, ↓slot_1, ↓slot_2, ↓slot_3, ↓slot_4, ↓slot_5, ↓slot_6, ↓slot_7, ↓slot_8, ↓slot_9, ↓slot_10, ↓slot_11, ↓slot_12, ↓slot_13, ↓slot_14, ↓slot_15, ↓slot_16, ↓slot_17, ↓set_0, ↓set_1, ↓set_2, ↓set_3, ↓set_4, ↓set_5, ↓set_6, ↓set_7, ↓set_8, ↓set_9, ↓set_10, ↓set_11, ↓set_12, ↓set_13, ↓set_14, ↓set_15, ↓set_16, ↓set_17, ↓D.isNon]; exact hR
  · simp only [↓dSeq_eq, ↓wnx_nx, ↓wnx_rt, ↓wnx_bk, ↓wnx_ct, ↓wnx_ex, ↓wlp_nx, ↓wlp_rt, ↓wlp_bk, ↓wlp_ct, ↓wlp_ex, ↓wex_nx, ↓wex_rt, ↓wex_bk, ↓wex_ct, ↓wex_ex, ↓en_nx, ↓en_rt, ↓en_ex, ↓forGo_nil, ↓forGo_cons, ↓dNext, ↓dBreak, ↓dCont, ↓dDrop, ↓dRet, ↓dRetN, ↓dIfS, ↓hName, ↓hNil, ↓hCons, ↓hTup, ↓dAsg, ↓dPar, ↓dTest, ↓dAnd, ↓dOr, ↓dNot, ↓dAndV, ↓dOrV, ↓dNotV, ↓dIf, ↓dVar, ↓dC, ↓dOp, ↓dUn, ↓dNil, ↓dCons, ↓dTup, ↓dLst, ↓dLstM, ↓dCall, ↓dCallK, ↓pick, ↓dCB, ↓dSeqI, ↓dFor, ↓dRange1, ↓dRange2, ↓dRaise, ↓dRaise0, ↓dIsi, ↓dIsi2, ↓oAdd, ↓oSubI, ↓oMulI, ↓oDivI, ↓oModI, ↓oPowI, ↓oSubB, ↓oCmpI, ↓oNeg, ↓oEq, ↓oNe, ↓oIsN, ↓oNotN, ↓oIsB, ↓oIx, ↓cLen, ↓lenQ, ↓D.len?, ↓cAbs, ↓cInt, ↓cMax2, ↓cMin2, ↓cGcd, ↓cSum, ↓cStr, ↓okEq_int, ↓okEq_bl, ↓okEq_non, ↓eqD_int, ↓eqD_bl, ↓eqD_intTup, ↓atI0, ↓atI1, ↓atI2, ↓atI3, ↓ty_int, ↓ty_bl, ↓ty_non, ↓ty_str, ↓ty_tup, ↓ty_lst, ↓endsOf, List.length_cons, List.length_nil, List.map_cons, List.map_nil, Bool.not_true, Bool.not_false, Bool.true_and, Bool.and_true, Bool.false_and, Bool.or_true, Bool.true_or, Bool.false_or, Bool.or_false, ite_true, ite_false, if_true, if_false, Bool.false_eq_true, reduceCtorEq, decide_true, decide_false, true_and, and_true, Bool.not_not, Option.isSome_some, if_false_left, decide_eq_true_eq, Bool.decide_eq_true, ↓isT_non_non, ↓isT_non_bool, ↓isT_non_int, ↓isT_non_str, ↓isT_non_tuple, ↓isT_non_list, ↓isT_non_dict, ↓isT_bool_non, ↓isT_bool_bool, ↓isT_bool_int, ↓isT_bool_str, ↓isT_bool_tuple, ↓isT_bool_list, ↓isT_bool_dict, ↓isT_int_non, ↓isT_int_bool, ↓isT_int_int, ↓isT_int_str, ↓isT_int_tuple, ↓isT_int_list, ↓isT_int_dict, ↓isT_str_non, ↓isT_str_bool, ↓isT_str_int, ↓isT_str_str, ↓isT_str_tuple, ↓isT_str_list, ↓isT_str_dict, ↓isT_tuple_non, ↓isT_tuple_bool, ↓isT_tuple_int, ↓isT_tuple_str, ↓isT_tuple_tuple, ↓isT_tuple_list, ↓isT_tuple_dict, ↓isT_list_non, ↓isT_list_bool, ↓isT_list_int, ↓isT_list_str, ↓isT_list_tuple, ↓isT_list_list, ↓isT_list_dict, ↓isT_dict_non, ↓isT_dict_bool, ↓isT_dict_int, ↓isT_dict_str, ↓isT_dict_tuple, ↓isT_dict_list, ↓isT_dict_dict, ↓slot_0, ↓slot_1, ↓slot_2, ↓slot_3, ↓slot_4, ↓slot_5, ↓slot_6, ↓slot_7, ↓slot_8, ↓slot_9, ↓slot_10, ↓slot_11, ↓slot_12, ↓slot_13, ↓slot_14, ↓slot_15, ↓slot_16, ↓slot_17, ↓set_0, ↓set_1, ↓set_2, ↓set_3, ↓set_4, ↓set_5, ↓set_6, ↓set_7, ↓set_8, ↓set_9, ↓set_10, ↓set_11, ↓set_12, ↓set_13, ↓set_14, ↓set_15, ↓set_16, ↓set_17, ↓ty_dc hm]; exact hR
  · simp only [↓dSeq_eq, ↓wnx_nx, ↓wnx_rt, ↓wnx_bk, ↓wnx_ct, ↓wnx_ex, ↓wlp_nx, ↓wlp_rt, ↓wlp_bk, ↓wlp_ct, ↓wlp_ex, ↓wex_nx, ↓wex_rt, ↓wex_bk, ↓wex_ct, ↓wex_ex, ↓en_nx, ↓en_rt, ↓en_ex, ↓forGo_nil, ↓forGo_cons, ↓dNext, ↓dBreak, ↓dCont, ↓dDrop, ↓dRet, ↓dRetN, ↓dIfS, ↓hName, ↓hNil, ↓hCons, ↓hTup, ↓dAsg, ↓dPar, ↓dTest, ↓dAnd, ↓dOr, ↓dNot, ↓dAndV, ↓dOrV, ↓dNotV, ↓dIf, ↓dVar, ↓dC, ↓dOp, ↓dUn, ↓dNil, ↓dCons, ↓dTup, ↓dLst, ↓dLstM, ↓dCall, ↓dCallK, ↓pick, ↓dCB, ↓dSeqI, ↓dFor, ↓dRange1, ↓dRange2, ↓dRaise, ↓dRaise0, ↓dIsi, ↓dIsi2, ↓oAdd, ↓oSubI, ↓oMulI, ↓oDivI, ↓oModI, ↓oPowI, ↓oSubB, ↓oCmpI, ↓oNeg, ↓oEq, ↓oNe, ↓oIsN, ↓oNotN, ↓oIsB, ↓oIx, ↓cLen, ↓lenQ, ↓D.len?, ↓cAbs, ↓cInt, ↓cMax2, ↓cMin2, ↓cGcd, ↓cSum, ↓cStr, ↓okEq_int, ↓okEq_bl, ↓okEq_non, ↓eqD_int, ↓eqD_bl, ↓eqD_intTup, ↓atI0, ↓atI1, ↓atI2, ↓atI3, ↓ty_int, ↓ty_bl, ↓ty_non, ↓ty_str, ↓ty_tup, ↓ty_lst, ↓endsOf, List.length_cons, List.length_nil, List.map_cons, List.map_nil, Bool.not_true, Bool.not_false, Bool.true_and, Bool.and_true, Bool.false_and, Bool.or_true, Bool.true_or, Bool.false_or, Bool.or_false, ite_true, ite_false, if_true, if_false, Bool.false_eq_true, reduceCtorEq, decide_true, decide_false, true_and, and_true, Bool.not_not, Option.isSome_some, if_false_left, decide_eq_true_eq, Bool.decide_eq_true, ↓isT_non_non, ↓isT_non_bool, ↓isT_non_int, ↓isT_non_str, ↓isT_non_tuple, ↓isT_non_list, ↓isT_non_dict, ↓isT_bool_non, ↓isT_bool_bool, ↓isT_bool_int, ↓isT_bool_str, ↓isT_bool_tuple, ↓isT_bool_list, ↓isT_bool_dict, ↓isT_int_non, ↓isT_int_bool, ↓isT_int_int, ↓isT_int_str, ↓isT_int_tuple, ↓isT_int_list, ↓isT_int_dict, ↓isT_str_non, ↓isT_str_bool, ↓isT_str_int, ↓isT_str_str, ↓isT_str_tuple, ↓isT_str_list, ↓isT_str_dict, ↓isT_tuple_non, ↓isT_tuple_bool, ↓isT_tuple_int, ↓isT_tuple_str, ↓isT_tuple_tuple, ↓isT_tuple_list, ↓isT_tuple_dict, ↓isT_list_non, ↓isT_list_bool, ↓isT_list_int, ↓isT_list_str, ↓isT_list_tuple, ↓isT_list_list, ↓isT_list_dict, ↓isT_dict_non, ↓isT_dict_bool, ↓isT_dict_int, ↓isT_dict_str, ↓isT_dict_tuple, ↓isT_dict_list, ↓isT_dict_dict, ↓slot_0, ↓slot_1, ↓slot_2, ↓slot_3, ↓slot_4, ↓slot_5, ↓slot_6, ↓slot_7, ↓slot_8, ↓slot_9, ↓slot_10, ↓slot_11, ↓slot_12, ↓slot_13, ↓slot_14, ↓slot_15, ↓slot_16, ↓slot_17, ↓set_0, ↓set_1, ↓set_2, ↓set_3, ↓set_4, ↓set_5, ↓set_6, ↓set_7, ↓set_8, ↓set_9, ↓set_10, ↓set_11, ↓set_12, ↓set_13, ↓set_14, ↓set_15, ↓set_16, ↓set_17, ↓ty_dc hm]; exact hR
  · simp only [↓dSeq_eq, ↓wnx_nx, ↓wnx_rt, ↓wnx_bk, ↓wnx_ct, ↓wnx_ex, ↓wlp_nx, ↓wlp_rt, ↓wlp_bk, ↓wlp_ct, ↓wlp_ex, ↓wex_nx, ↓wex_rt, ↓wex_bk, ↓wex_ct, ↓wex_ex, ↓en_nx, ↓en_rt, ↓en_ex, ↓forGo_nil, ↓forGo_cons, ↓dNext, ↓dBreak, ↓dCont, ↓dDrop, ↓dRet, ↓dRetN, ↓dIfS, ↓hName, ↓hNil, ↓hCons, ↓hTup, ↓dAsg, ↓dPar, ↓dTest, ↓dAnd, ↓dOr, ↓dNot, ↓dAndV, ↓dOrV, ↓dNotV, ↓dIf, ↓dVar, ↓dC, ↓dOp, ↓dUn, ↓dNil, ↓dCons, ↓dTup, ↓dLst, ↓dLstM, ↓dCall, ↓dCallK, ↓pick, ↓dCB, ↓dSeqI, ↓dFor, ↓dRange1, ↓dRange2, ↓dRaise, ↓dRaise0, ↓dIsi, ↓dIsi2, ↓oAdd, ↓oSubI, ↓oMulI, ↓oDivI, ↓oModI, ↓oPowI, ↓oSubB, ↓oCmpI, ↓oNeg, ↓oEq, ↓oNe, ↓oIsN, ↓oNotN, ↓oIsB, ↓oIx, ↓cLen, ↓lenQ, ↓D.len?, ↓cAbs, ↓cInt, ↓cMax2, ↓cMin2, ↓cGcd, ↓cSum, ↓cStr, ↓okEq_int, ↓okEq_bl, ↓okEq_non, ↓eqD_int, ↓eqD_bl, ↓eqD_intTup, ↓atI0, ↓atI1, ↓atI2, ↓atI3, ↓ty_int, ↓ty_bl, ↓ty_non, ↓ty_str, ↓ty_tup, ↓ty_lst, ↓endsOf, List.length_cons, List.length_nil, List.map_cons, List.map_nil, Bool.not_true, Bool.not_false, Bool.true_and, Bool.and_true, Bool.false_and, Bool.or_true, Bool.true_or, Bool.false_or, Bool.or_false, ite_true, ite_false, if_true, if_false, Bool.false_eq_true, reduceCtorEq, decide_true, decide_false, true_and, and_true, Bool.not_not, Option.isSome_some, if_false_left, decide_eq_true_eq, Bool.decide_eq_true, ↓isT_non_non, ↓isT_non_bool, ↓isT_non_int, ↓isT_non_str, ↓isT_non_tuple, ↓isT_non_list, ↓isT_non_dict, ↓isT_bool_non, ↓isT_bool_bool, ↓isT_bool_int, ↓isT_bool_str, ↓isT_bool_tuple, ↓isT_bool_list, ↓isT_bool_dict, ↓isT_int_non, ↓isT_int_bool, ↓isT_int_int, ↓isT_int_str, ↓isT_int_tuple, ↓isT_int_list, ↓isT_int_dict, ↓isT_str_non, ↓isT_str_bool, ↓isT_str_int, ↓isT_str_str, ↓isT_str_tuple, ↓isT_str_list, ↓isT_str_dict, ↓isT_tuple_non, ↓isT_tuple_bool, ↓isT_tuple_int, ↓isT_tuple_str, ↓isT_tuple_tuple, ↓isT_tuple_list, ↓isT_tuple_dict, ↓isT_list_non, ↓isT_list_bool, ↓isT_list_int, ↓isT_list_str, ↓isT_list_tuple, ↓isT_list_list, ↓isT_list_dict, ↓isT_dict_non, ↓isT_dict_bool, ↓isT_dict_int, ↓isT_dict_str, ↓isT_dict_tuple, ↓isT_dict_list, ↓isT_dict_dict, ↓slot_0, ↓slot_1, ↓slot_2, ↓slot_3, ↓slot_4, ↓slot_5, ↓slot_6, ↓slot_7, ↓slot_8, ↓slot_9, ↓slot_10, ↓slot_11, ↓slot_12, ↓slot_13, ↓slot_14, ↓slot_15, ↓slot_16, ↓slot_17, ↓set_0, ↓set_1, ↓set_2, ↓set_3, ↓set_4, ↓set_5, ↓set_6, ↓set_7, ↓set_8, ↓set_9, ↓set_10, ↓set_11, ↓set_12, ↓set_13, ↓set_14, ↓set_15, ↓set_16, ↓set_17, ↓ty_dc hm]; exact hR
  · simp only [↓dSeq_eq, ↓wnx_nx, ↓wnx_rt, ↓wnx_bk, ↓wnx_ct, ↓wnx_ex, ↓wlp_nx, ↓wlp_rt, ↓wlp_bk, ↓wlp_ct, ↓wlp_ex, ↓wex_nx, ↓wex_rt, ↓wex_bk, ↓wex_ct, ↓wex_ex, ↓en_nx, ↓en_rt, ↓en_ex, ↓forGo_nil, ↓forGo_cons, ↓dNext, ↓dBreak, ↓dCont, ↓dDrop, ↓dRet, ↓dRetN, ↓dIfS, ↓hName, ↓hNil, ↓hCons, ↓hTup, ↓dAsg, ↓dPar, ↓dTest, ↓dAnd, ↓dOr, ↓dNot, ↓dAndV, ↓dOrV, ↓dNotV, ↓dIf, ↓dVar, ↓dC, ↓dOp, ↓dUn, ↓dNil, ↓dCons, ↓dTup, ↓dLst, ↓dLstM, ↓dCall, ↓dCallK, ↓pick, ↓dCB, ↓dSeqI, ↓dFor, ↓dRange1, ↓dRange2, ↓dRaise, ↓dRaise0, ↓dIsi, ↓dIsi2, ↓oAdd, ↓oSubI, ↓oMulI, ↓oDivI, ↓oModI, ↓oPowI, ↓oSubB, ↓oCmpI, ↓oNeg, ↓oEq, ↓oNe, ↓oIsN, ↓oNotN, ↓oIsB, ↓oIx, ↓cLen, ↓lenQ, ↓D.len?, ↓cAbs, ↓cInt, ↓cMax2, ↓cMin2, ↓cGcd, ↓cSum, ↓cStr, ↓okEq_int, ↓okEq_bl, ↓okEq_non, ↓eqD_int, ↓eqD_bl, ↓eqD_intTup, ↓atI0, ↓atI1, ↓atI2, ↓atI3, ↓ty_int, ↓ty_bl, ↓ty_non, ↓ty_str, ↓ty_tup, ↓ty_lst, ↓endsOf, List.length_cons, List.length_nil, List.map_cons, List.map_nil, Bool.not_true, Bool.not_false, Bool.true_and, Bool.and_true, Bool.false_and, Bool.or_true, Bool.true_or, Bool.false_or, Bool.or_false, ite_true, ite_false, if_true, if_false, Bool.false_eq_true, reduceCtorEq, decide_true, decide_false, true_and, and_true, Bool.not_not, Option.isSome_some, if_false_left, decide_eq_true_eq, Bool.decide_eq_true, ↓isT_non_non, ↓isT_non_bool, ↓isT_non_int, ↓isT_non_str, ↓isT_non_tuple, ↓isT_non_list, ↓isT_non_dict, ↓isT_bool_non, ↓isT_bool_bool, ↓isT_bool_int, ↓isT_bool_str, ↓isT_bool_tuple, ↓isT_bool_list, ↓isT_bool_dict, ↓isT_int_non, ↓isT_int_bool, ↓isT_int_int, ↓isT_int_str, ↓isT_int_tuple, ↓isT_int_list, ↓isT_int_dict, ↓isT_str_non, ↓isT_str_bool, ↓isT_str_int, ↓isT_str_str, ↓isT_str_tuple, ↓isT_str_list, ↓isT_str_dict, ↓isT_tuple_non, ↓isT_tuple_bool, ↓isT_tuple_int, ↓isT_tuple_str, ↓isT_tuple_tuple, ↓isT_tuple_list, ↓isT_tuple_dict, ↓isT_list_non, ↓isT_list_bool, ↓isT_list_int, ↓isT_list_str, ↓isT_list_tuple, ↓isT_list_list, ↓isT_list_dict, ↓isT_dict_non, ↓isT_dict_bool, ↓isT_dict_int, ↓isT_dict_str, ↓isT_dict_tuple, ↓isT_dict_list, ↓isT_dict_dict, ↓slot_0, ↓slot_1, ↓slot_2, ↓slot_3, ↓slot_4, ↓slot_5, ↓slot_6, ↓slot_7, ↓slot_8, ↓slot_9, ↓slot_10, ↓slot_11, ↓slot_12, ↓slot_13, ↓slot_14, ↓slot_15, ↓slot_16, ↓slot_17, ↓set_0, ↓set_1, ↓set_2, ↓set_3, ↓set_4, ↓set_5, ↓set_6, ↓set_7, ↓set_8, ↓set_9, ↓set_10, ↓set_11, ↓set_12, ↓set_13, ↓set_14, ↓set_15, ↓set_16, ↓set_17, ↓ty_dc hm]; exact hR
  simp only [↓dSeq_eq, ↓wnx_nx, ↓wnx_rt, ↓wnx_bk, ↓wnx_ct, ↓wnx_ex, ↓wlp_nx, ↓wlp_rt, ↓wlp_bk, ↓wlp_ct, ↓wlp_ex, ↓wex_nx, ↓wex_rt, ↓wex_bk, ↓wex_ct, ↓wex_ex, ↓en_nx, ↓en_rt, ↓en_ex, ↓forGo_nil, ↓forGo_cons, ↓dNext, ↓dBreak, ↓dCont, ↓dDrop, ↓dRet, ↓dRetN, ↓dIfS, ↓hName, ↓hNil, ↓hCons, ↓hTup, ↓dAsg, ↓dPar, ↓dTest, ↓dAnd, ↓dOr, ↓dNot, ↓dAndV, ↓dOrV, ↓dNotV, ↓dIf, ↓dVar, ↓dC, ↓dOp, ↓dUn, ↓dNil, ↓dCons, ↓dTup, ↓dLst, ↓dLstM, ↓dCall, ↓dCallK, ↓pick, ↓dCB, ↓dSeqI, ↓dFor, ↓dRange1, ↓dRange2, ↓dRaise, ↓dRaise0, ↓dIsi, ↓dIsi2, ↓oAdd, ↓oSubI, ↓oMulI, ↓oDivI, ↓oModI, ↓oPowI, ↓oSubB, ↓oCmpI, ↓oNeg, ↓oEq, ↓oNe, ↓oIsN, ↓oNotN, ↓oIsB, ↓oIx, ↓cLen, ↓lenQ, ↓D.len?, ↓cAbs, ↓cInt, ↓cMax2, ↓cMin2, ↓cGcd, ↓cSum, ↓cStr, ↓okEq_int, ↓okEq_bl, ↓okEq_non, ↓eqD_int, ↓eqD_bl, ↓eqD_intTup, ↓atI0, ↓atI1, ↓atI2, ↓atI3, ↓ty_int, ↓ty_bl, ↓ty_non, ↓ty_str, ↓ty_tup, ↓ty_lst, ↓endsOf, List.length_cons, List.length_nil, List.map_cons, List.map_nil, Bool.not_true, Bool.not_false, Bool.true_and, Bool.and_true, Bool.false_and, Bool.or_true, Bool.true_or, Bool.false_or, Bool.or_false, ite_true, ite_false, if_true, if_false, Bool.false_eq_true, reduceCtorEq, decide_true, decide_false, true_and, and_true, Bool.not_not, Option.isSome_some, if_false_left, decide_eq_true_eq, Bool.decide_eq_true, ↓isT_non_non, ↓isT_non_bool, ↓isT_non_int, ↓isT_non_str, ↓isT_non_tuple, ↓isT_non_list, ↓isT_non_dict, ↓isT_bool_non, ↓isT_bool_bool, ↓isT_bool_int, ↓isT_bool_str, ↓isT_bool_tuple, ↓isT_bool_list, ↓isT_bool_dict, ↓isT_int_non, ↓isT_int_bool, ↓isT_int_int, ↓isT_int_str, ↓isT_int_tuple, ↓isT_int_list, ↓isT_int_dict, ↓isT_str_non, ↓isT_str_bool, ↓isT_str_int, ↓isT_str_str, ↓isT_str_tuple, ↓isT_str_list, ↓isT_str_dict, ↓isT_tuple_non, ↓isT_tuple_bool, ↓isT_tuple_int, ↓isT_tuple_str, ↓isT_tuple_tuple, ↓isT_tuple_list, ↓isT_tuple_dict, ↓isT_list_non, ↓isT_list_bool, ↓isT_list_int, ↓isT_list_str, ↓isT_list_tuple, ↓isT_list_list, ↓isT_list_dict, ↓isT_dict_non, ↓isT_dict_bool, ↓isT_dict_int, ↓isT_dict_str, ↓isT_dict_tuple, ↓isT_dict_list, ↓isT_dict_dict, ↓slot_0, ↓slot_1, ↓slot_2, ↓slot_3, ↓slot_4, ↓slot_5, ↓slot_6, ↓slot_7, ↓slot_8, ↓slot_9, ↓slot_10, ↓slot_11, ↓slot_12, ↓slot_13, ↓slot_14, ↓slot_15, ↓slot_16, ↓slot_17, ↓set_0, ↓set_1, ↓set_2, ↓set_3, ↓set_4, ↓set_5, ↓set_6, ↓set_7, ↓set_8, ↓set_9, ↓set_10, ↓set_11, ↓set_12, ↓set_13, ↓set_14, ↓set_15, ↓set_16, ↓set_17, ↓cLenK, hdo, ↓ty_dc hm, ↓dLockD]
  refine ⟨p, l, rfl, rfl, hm, hl.2.1, ?_⟩
  simp only [↓dSeq_eq, ↓wnx_nx, ↓wnx_rt, ↓wnx_bk, ↓wnx_ct, ↓wnx_ex, ↓wlp_nx, ↓wlp_rt, ↓wlp_bk, ↓wlp_ct, ↓wlp_ex, ↓wex_nx, ↓wex_rt, ↓wex_bk, ↓wex_ct, ↓wex_ex, ↓en_nx, ↓en_rt, ↓en_ex, ↓forGo_nil, ↓forGo_cons, ↓dNext, ↓dBreak, ↓dCont, ↓dDrop, ↓dRet, ↓dRetN, ↓dIfS, ↓hName, ↓hNil, ↓hCons, ↓hTup, ↓dAsg, ↓dPar, ↓dTest, ↓dAnd, ↓dOr, ↓dNot, ↓dAndV, ↓dOrV, ↓dNotV, ↓dIf, ↓dVar, ↓dC, ↓dOp, ↓dUn, ↓dNil, ↓dCons, ↓dTup, ↓dLst, ↓dLstM, ↓dCall, ↓dCallK, ↓pick, ↓dCB, ↓dSeqI, ↓dFor, ↓dRange1, ↓dRange2, ↓dRaise, ↓dRaise0, ↓dIsi, ↓dIsi2, ↓oAdd, ↓oSubI, ↓oMulI, ↓oDivI, ↓oModI, ↓oPowI, ↓oSubB, ↓oCmpI, ↓oNeg, ↓oEq, ↓oNe, ↓oIsN, ↓oNotN, ↓oIsB, ↓oIx, ↓cLen, ↓lenQ, ↓D.len?, ↓cAbs, ↓cInt, ↓cMax2, ↓cMin2, ↓cGcd, ↓cSum, ↓cStr, ↓okEq_int, ↓okEq_bl, ↓okEq_non, ↓eqD_int, ↓eqD_bl, ↓eqD_intTup, ↓atI0, ↓atI1, ↓atI2, ↓atI3, ↓ty_int, ↓ty_bl, ↓ty_non, ↓ty_str, ↓ty_tup, ↓ty_lst, ↓endsOf, List.length_cons, List.length_nil, List.map_cons, List.map_nil, Bool.not_true, Bool.not_false, Bool.true_and, Bool.and_true, Bool.false_and, Bool.or_true, Bool.true_or, Bool.false_or, Bool.or_false, ite_true, ite_false, if_true, if_false, Bool.false_eq_true, reduceCtorEq, decide_true, decide_false, true_and, and_true, Bool.not_not, Option.isSome_some, if_false_left, decide_eq_true_eq, Bool.decide_eq_true, ↓isT_non_non, ↓isT_non_bool, ↓isT_non_int, ↓isT_non_str, ↓isT_non_tuple, ↓isT_non_list, ↓isT_non_dict, ↓isT_bool_non, ↓isT_bool_bool, ↓isT_bool_int, ↓isT_bool_str, ↓isT_bool_tuple, ↓isT_bool_list, ↓isT_bool_dict, ↓isT_int_non, ↓isT_int_bool, ↓isT_int_int, ↓isT_int_str, ↓isT_int_tuple, ↓isT_int_list, ↓isT_int_dict, ↓isT_str_non, ↓isT_str_bool, ↓isT_str_int, ↓isT_str_str, ↓isT_str_tuple, ↓isT_str_list, ↓isT_str_dict, ↓isT_tuple_non, ↓isT_tuple_bool, ↓isT_tuple_int, ↓isT_tuple_str, ↓isT_tuple_tuple, ↓isT_tuple_list, ↓isT_tuple_dict, ↓isT_list_non, ↓isT_list_bool, ↓isT_list_int, ↓isT_list_str, ↓isT_list_tuple, ↓isT_list_list, ↓isT_list_dict, ↓isT_dict_non, ↓isT_dict_bool, ↓isT_dict_int, ↓isT_dict_str, ↓isT_dict_tuple, ↓isT_dict_list, ↓isT_dict_dict, ↓slot_0, ↓slot_1, ↓slot_2, ↓slot_3, ↓slot_4, ↓slot_5, ↓slot_6, ↓slot_7, ↓slot_8, ↓slot_9, ↓slot_10, ↓slot_11, ↓slot_12, ↓slot_13, ↓slot_14, ↓slot_15, ↓slot_16, ↓slot_17, ↓set_0, ↓set_1, ↓set_2, ↓set_3, ↓set_4, ↓set_5, ↓set_6, ↓set_7, ↓set_8, ↓set_9, ↓set_10, ↓set_11, ↓set_12, ↓set_13, ↓set_14, ↓set_15, ↓set_16, ↓set_17, ↓dLc, ↓dKeysI]
  have hM : updM (delM M p) p (.dct l) = M := by
    funext b
    by_cases z : b = p
    · subst z; rw [updM_same, hm]
    · rw [updM_ne z, delM_ne z]
  refine lcGo_none ?_ _ fun d hd R hR => ?_
  · refine ⟨rfl, ?_, hn.del, ?_⟩
    · intro i d hi hj h
      match i, h with
      | 0, _ => exact absurd rfl hi
      | 1, _ => exact absurd rfl hj
      | 2, h => cases h
      | 3, h => cases h
    · rw [hM]
      simp only [↓dSeq_eq, ↓wnx_nx, ↓wnx_rt, ↓wnx_bk, ↓wnx_ct, ↓wnx_ex, ↓wlp_nx, ↓wlp_rt, ↓wlp_bk, ↓wlp_ct, ↓wlp_ex, ↓wex_nx, ↓wex_rt, ↓wex_bk, ↓wex_ct, ↓wex_ex, ↓en_nx, ↓en_rt, ↓en_ex, ↓forGo_nil, ↓forGo_cons, ↓dNext, ↓dBreak, ↓dCont, ↓dDrop, ↓dRet, ↓dRetN, ↓dIfS, ↓hName, ↓hNil, ↓hCons, ↓hTup, ↓dAsg, ↓dPar, ↓dTest, ↓dAnd, ↓dOr, ↓dNot, ↓dAndV, ↓dOrV, ↓dNotV, ↓dIf, ↓dVar, ↓dC, ↓dOp, ↓dUn, ↓dNil, ↓dCons, ↓dTup, ↓dLst, ↓dLstM, ↓dCall, ↓dCallK, ↓pick, ↓dCB, ↓dSeqI, ↓dFor, ↓dRange1, ↓dRange2, ↓dRaise, ↓dRaise0, ↓dIsi, ↓dIsi2, ↓oAdd, ↓oSubI, ↓oMulI, ↓oDivI, ↓oModI, ↓oPowI, ↓oSubB, ↓oCmpI, ↓oNeg, ↓oEq, ↓oNe, ↓oIsN, ↓oNotN, ↓oIsB, ↓oIx, ↓cLen, ↓lenQ, ↓D.len?, ↓cAbs, ↓cInt, ↓cMax2, ↓cMin2, ↓cGcd, ↓cSum, ↓cStr, ↓okEq_int, ↓okEq_bl, ↓okEq_non, ↓eqD_int, ↓eqD_bl, ↓eqD_intTup, ↓atI0, ↓atI1, ↓atI2, ↓atI3, ↓ty_int, ↓ty_bl, ↓ty_non, ↓ty_str, ↓ty_tup, ↓ty_lst, ↓endsOf, List.length_cons, List.length_nil, List.map_cons, List.map_nil, Bool.not_true, Bool.not_false, Bool.true_and, Bool.and_true, Bool.false_and, Bool.or_true, Bool.true_or, Bool.false_or, Bool.or_false, ite_true, ite_false, if_true, if_false, Bool.false_eq_true, reduceCtorEq, decide_true, decide_false, true_and, and_true, Bool.not_not, Option.isSome_some, if_false_left, decide_eq_true_eq, Bool.decide_eq_true, ↓isT_non_non, ↓isT_non_bool, ↓isT_non_int, ↓isT_non_str, ↓isT_non_tuple, ↓isT_non_list, ↓isT_non_dict, ↓isT_bool_non, ↓isT_bool_bool, ↓isT_bool_int, ↓isT_bool_str, ↓isT_bool_tuple, ↓isT_bool_list, ↓isT_bool_dict, ↓isT_int_non, ↓isT_int_bool, ↓isT_int_int, ↓isT_int_str, ↓isT_int_tuple, ↓isT_int_list, ↓isT_int_dict, ↓isT_str_non, ↓isT_str_bool, ↓isT_str_int, ↓isT_str_str, ↓isT_str_tuple, ↓isT_str_list, ↓isT_str_dict, ↓isT_tuple_non, ↓isT_tuple_bool, ↓isT_tuple_int, ↓isT_tuple_str, ↓isT_tuple_tuple, ↓isT_tuple_list, ↓isT_tuple_dict, ↓isT_list_non, ↓isT_list_bool, ↓isT_list_int, ↓isT_list_str, ↓isT_list_tuple, ↓isT_list_list, ↓isT_list_dict, ↓isT_dict_non, ↓isT_dict_bool, ↓isT_dict_int, ↓isT_dict_str, ↓isT_dict_tuple, ↓isT_dict_list, ↓isT_dict_dict, ↓slot_0, ↓slot_1, ↓slot_2, ↓slot_3, ↓slot_4, ↓slot_5, ↓slot_6, ↓slot_7, ↓slot_8, ↓slot_9, ↓slot_10, ↓slot_11, ↓slot_12, ↓slot_13, ↓slot_14, ↓slot_15, ↓slot_16, ↓slot_17, ↓set_0, ↓set_1, ↓set_2, ↓set_3, ↓set_4, ↓set_5, ↓set_6, ↓set_7, ↓set_8, ↓set_9, ↓set_10, ↓set_11, ↓set_12, ↓set_13, ↓set_14, ↓set_15, ↓set_16, ↓set_17, eq_nil.1, eq_nil.2]
      exact ⟨by decide, _, .refl _, q⟩
  · rw [List.mem_map] at hd
    obtain ⟨kv, hkv, rfl⟩ := hd
    have e := getK_mem hl.2.2.1 hkv
    have d1 : ∀ M', D.dctOf M' (.dct l) = some l := fun _ => rfl
    simp only [↓dSeq_eq, ↓wnx_nx, ↓wnx_rt, ↓wnx_bk, ↓wnx_ct, ↓wnx_ex, ↓wlp_nx, ↓wlp_rt, ↓wlp_bk, ↓wlp_ct, ↓wlp_ex, ↓wex_nx, ↓wex_rt, ↓wex_bk, ↓wex_ct, ↓wex_ex, ↓en_nx, ↓en_rt, ↓en_ex, ↓forGo_nil, ↓forGo_cons, ↓dNext, ↓dBreak, ↓dCont, ↓dDrop, ↓dRet, ↓dRetN, ↓dIfS, ↓hName, ↓hNil, ↓hCons, ↓hTup, ↓dAsg, ↓dPar, ↓dTest, ↓dAnd, ↓dOr, ↓dNot, ↓dAndV, ↓dOrV, ↓dNotV, ↓dIf, ↓dVar, ↓dC, ↓dOp, ↓dUn, ↓dNil, ↓dCons, ↓dTup, ↓dLst, ↓dLstM, ↓dCall, ↓dCallK, ↓pick, ↓dCB, ↓dSeqI, ↓dFor, ↓dRange1, ↓dRange2, ↓dRaise, ↓dRaise0, ↓dIsi, ↓dIsi2, ↓oAdd, ↓oSubI, ↓oMulI, ↓oDivI, ↓oModI, ↓oPowI, ↓oSubB, ↓oCmpI, ↓oNeg, ↓oEq, ↓oNe, ↓oIsN, ↓oNotN, ↓oIsB, ↓oIx, ↓cLen, ↓lenQ, ↓D.len?, ↓cAbs, ↓cInt, ↓cMax2, ↓cMin2, ↓cGcd, ↓cSum, ↓cStr, ↓okEq_int, ↓okEq_bl, ↓okEq_non, ↓eqD_int, ↓eqD_bl, ↓eqD_intTup, ↓atI0, ↓atI1, ↓atI2, ↓atI3, ↓ty_int, ↓ty_bl, ↓ty_non, ↓ty_str, ↓ty_tup, ↓ty_lst, ↓endsOf, List.length_cons, List.length_nil, List.map_cons, List.map_nil, Bool.not_true, Bool.not_false, Bool.true_and, Bool.and_true, Bool.false_and, Bool.or_true, Bool.true_or, Bool.false_or, Bool.or_false, ite_true, ite_false, if_true, if_false, Bool.false_eq_true, reduceCtorEq, decide_true, decide_false, true_and, and_true, Bool.not_not, Option.isSome_some, if_false_left, decide_eq_true_eq, Bool.decide_eq_true, ↓isT_non_non, ↓isT_non_bool, ↓isT_non_int, ↓isT_non_str, ↓isT_non_tuple, ↓isT_non_list, ↓isT_non_dict, ↓isT_bool_non, ↓isT_bool_bool, ↓isT_bool_int, ↓isT_bool_str, ↓isT_bool_tuple, ↓isT_bool_list, ↓isT_bool_dict, ↓isT_int_non, ↓isT_int_bool, ↓isT_int_int, ↓isT_int_str, ↓isT_int_tuple, ↓isT_int_list, ↓isT_int_dict, ↓isT_str_non, ↓isT_str_bool, ↓isT_str_int, ↓isT_str_str, ↓isT_str_tuple, ↓isT_str_list, ↓isT_str_dict, ↓isT_tuple_non, ↓isT_tuple_bool, ↓isT_tuple_int, ↓isT_tuple_str, ↓isT_tuple_tuple, ↓isT_tuple_list, ↓isT_tuple_dict, ↓isT_list_non, ↓isT_list_bool, ↓isT_list_int, ↓isT_list_str, ↓isT_list_tuple, ↓isT_list_list, ↓isT_list_dict, ↓isT_dict_non, ↓isT_dict_bool, ↓isT_dict_int, ↓isT_dict_str, ↓isT_dict_tuple, ↓isT_dict_list, ↓isT_dict_dict, ↓slot_0, ↓slot_1, ↓slot_2, ↓slot_3, ↓slot_4, ↓slot_5, ↓slot_6, ↓slot_7, ↓slot_8, ↓slot_9, ↓slot_10, ↓slot_11, ↓slot_12, ↓slot_13, ↓slot_14, ↓slot_15, ↓slot_16, ↓slot_17, ↓set_0, ↓set_1, ↓set_2, ↓set_3, ↓set_4, ↓set_5, ↓set_6, ↓set_7, ↓set_8, ↓set_9, ↓set_10, ↓set_11, ↓set_12, ↓set_13, ↓set_14, ↓set_15, ↓set_16, ↓set_17, ↓wipeD, ↓oInK, d1, key_keyD, e, ↓oDget]
    exact ⟨_, _, rfl, hn.del, .inl ⟨rfl, hl.2.2.2 kv hkv _, by simp only [↓dSeq_eq, ↓wnx_nx, ↓wnx_rt, ↓wnx_bk, ↓wnx_ct, ↓wnx_ex, ↓wlp_nx, ↓wlp_rt, ↓wlp_bk, ↓wlp_ct, ↓wlp_ex, ↓wex_nx, ↓wex_rt, ↓wex_bk, ↓wex_ct, ↓wex_ex, ↓en_nx, ↓en_rt, ↓en_ex, ↓forGo_nil, ↓forGo_cons, ↓dNext, ↓dBreak, ↓dCont, ↓dDrop, ↓dRet, ↓dRetN, ↓dIfS, ↓hName, ↓hNil, ↓hCons, ↓hTup, ↓dAsg, ↓dPar, ↓dTest, ↓dAnd, ↓dOr, ↓dNot, ↓dAndV, ↓dOrV, ↓dNotV, ↓dIf, ↓dVar, ↓dC, ↓dOp, ↓dUn, ↓dNil, ↓dCons, ↓dTup, ↓dLst, ↓dLstM, ↓dCall, ↓dCallK, ↓pick, ↓dCB, ↓dSeqI, ↓dFor, ↓dRange1, ↓dRange2, ↓dRaise, ↓dRaise0, ↓dIsi, ↓dIsi2, ↓oAdd, ↓oSubI, ↓oMulI, ↓oDivI, ↓oModI, ↓oPowI, ↓oSubB, ↓oCmpI, ↓oNeg, ↓oEq, ↓oNe, ↓oIsN, ↓oNotN, ↓oIsB, ↓oIx, ↓cLen, ↓lenQ, ↓D.len?, ↓cAbs, ↓cInt, ↓cMax2, ↓cMin2, ↓cGcd, ↓cSum, ↓cStr, ↓okEq_int, ↓okEq_bl, ↓okEq_non, ↓eqD_int, ↓eqD_bl, ↓eqD_intTup, ↓atI0, ↓atI1, ↓atI2, ↓atI3, ↓ty_int, ↓ty_bl, ↓ty_non, ↓ty_str, ↓ty_tup, ↓ty_lst, ↓endsOf, List.length_cons, List.length_nil, List.map_cons, List.map_nil, Bool.not_true, Bool.not_false, Bool.true_and, Bool.and_true, Bool.false_and, Bool.or_true, Bool.true_or, Bool.false_or, Bool.or_false, ite_true, ite_false, if_true, if_false, Bool.false_eq_true, reduceCtorEq, decide_true, decide_false, true_and, and_true, Bool.not_not, Option.isSome_some, if_false_left, decide_eq_true_eq, Bool.decide_eq_true, ↓isT_non_non, ↓isT_non_bool, ↓isT_non_int, ↓isT_non_str, ↓isT_non_tuple, ↓isT_non_list, ↓isT_non_dict, ↓isT_bool_non, ↓isT_bool_bool, ↓isT_bool_int, ↓isT_bool_str, ↓isT_bool_tuple, ↓isT_bool_list, ↓isT_bool_dict, ↓isT_int_non, ↓isT_int_bool, ↓isT_int_int, ↓isT_int_str, ↓isT_int_tuple, ↓isT_int_list, ↓isT_int_dict, ↓isT_str_non, ↓isT_str_bool, ↓isT_str_int, ↓isT_str_str, ↓isT_str_tuple, ↓isT_str_list, ↓isT_str_dict, ↓isT_tuple_non, ↓isT_tuple_bool, ↓isT_tuple_int, ↓isT_tuple_str, ↓isT_tuple_tuple, ↓isT_tuple_list, ↓isT_tuple_dict, ↓isT_list_non, ↓isT_list_bool, ↓isT_list_int, ↓isT_list_str, ↓isT_list_tuple, ↓isT_list_list, ↓isT_list_dict, ↓isT_dict_non, ↓isT_dict_bool, ↓isT_dict_int, ↓isT_dict_str, ↓isT_dict_tuple, ↓isT_dict_list, ↓isT_dict_dict, ↓slot_0, ↓slot_1, ↓slot_2, ↓slot_3, ↓slot_4, ↓slot_5, ↓slot_6, ↓slot_7, ↓slot_8, ↓slot_9, ↓slot_10, ↓slot_11, ↓slot_12, ↓slot_13, ↓slot_14, ↓slot_15, ↓slot_16, ↓slot_17, ↓set_0, ↓set_1, ↓set_2, ↓set_3, ↓set_4, ↓set_5, ↓set_6, ↓set_7, ↓set_8, ↓set_9, ↓set_10, ↓set_11, ↓set_12, ↓set_13, ↓set_14, ↓set_15, ↓set_16, ↓set_17]; exact hR _⟩⟩
theorem p_law_same {n : Nat} (ds M Q E) (h : sp_same (n + 1) ds M Q E) : t_law_same K (sp_same n) (endsOf Q E) ⟨startD N_law_same.length ds, M⟩ := by
  obtain ⟨x, y, rfl, hn, h⟩ := h
  show t_law_same K (sp_same n) (endsOf Q E) ⟨[some x, some y, none, none], M⟩
  rcases h with ⟨rfl, hw, q⟩ | ⟨i, j, rfl, rfl, _, q⟩ | ⟨a, b, c, d, rfl, rfl, h1, q⟩
  · cases x with
    | non =>
      refine seq_stop fun R => if_t (S' := ⟨[some .non, some .non, none, none], M⟩) (fun R hR => ?_) ?_
      · simp only [↓dSeq_eq, ↓wnx_nx, ↓wnx_rt, ↓wnx_bk, ↓wnx_ct, ↓wnx_ex, ↓wlp_nx, ↓wlp_rt, ↓wlp_bk, ↓wlp_ct, ↓wlp_ex, ↓wex_nx, ↓wex_rt, ↓wex_bk, ↓wex_ct, ↓wex_ex, ↓en_nx, ↓en_rt, ↓en_ex, ↓forGo_nil, ↓forGo_cons, ↓dNext, ↓dBreak, ↓dCont, ↓dDrop, ↓dRet, ↓dRetN, ↓dIfS, ↓hName, ↓hNil, ↓hCons, ↓hTup, ↓dAsg, ↓dPar, ↓dTest, ↓dAnd, ↓dOr, ↓dNot, ↓dAndV, ↓dOrV, ↓dNotV, ↓dIf, ↓dVar, ↓dC, ↓dOp, ↓dUn, ↓dNil, ↓dCons, ↓dTup, ↓dLst, ↓dLstM, ↓dCall, ↓dCallK, ↓pick, ↓dCB, ↓dSeqI, ↓dFor, ↓dRange1, ↓dRange2, ↓dRaise, ↓dRaise0, ↓dIsi, ↓dIsi2, ↓oAdd, ↓oSubI, ↓oMulI, ↓oDivI, ↓oModI, ↓oPowI, ↓oSubB, ↓oCmpI, ↓oNeg, ↓oEq, ↓oNe, ↓oIsN, ↓oNotN, ↓oIsB, ↓oIx, ↓cLen, ↓lenQ, ↓D.len?, ↓cAbs, ↓cInt, ↓cMax2, ↓cMin2, ↓cGcd, ↓cSum, ↓cStr, ↓okEq_int, ↓okEq_bl, ↓okEq_non, ↓eqD_int, ↓eqD_bl, ↓eqD_intTup, ↓atI0, ↓atI1, ↓atI2, ↓atI3, ↓ty_int, ↓ty_bl, ↓ty_non, ↓ty_str, ↓ty_tup, ↓ty_lst, ↓endsOf, List.length_cons, List.length_nil, List.map_cons, List.map_nil, Bool.not_true, Bool.not_false, Bool.true_and, Bool.and_true, Bool.false_and, Bool.or_true, Bool.true_or, Bool.false_or, Bool.or_false, ite_true, ite_false, if_true, if_false, Bool.false_eq_true, reduceCtorEq, decide_true, decide_false, true_and, and_true, Bool.not_not, Option.isSome_some, if_false_left, decide_eq_true_eq, Bool.decide_eq_true, ↓isT_non_non, ↓isT_non_bool, ↓isT_non_int, ↓isT_non_str, ↓isT_non_tuple, ↓isT_non_list, ↓isT_non_dict, ↓isT_bool_non, ↓isT_bool_bool, ↓isT_bool_int, ↓isT_bool_str, ↓isT_bool_tuple, ↓isT_bool_list, ↓isT_bool_dict, ↓isT_int_non, ↓isT_int_bool, ↓isT_int_int, ↓isT_int_str, ↓isT_int_tuple, ↓isT_int_list, ↓isT_int_dict, ↓isT_str_non, ↓isT_str_bool, ↓isT_str_int, ↓isT_str_str, ↓isT_str_tuple, ↓isT_str_list, ↓isT_str_dict, ↓isT_tuple_non, ↓isT_tuple_bool, ↓isT_tuple_int, ↓isT_tuple_str, ↓isT_tuple_tuple, ↓isT_tuple_list, ↓isT_tuple_dict, ↓isT_list_non, ↓isT_list_bool, ↓isT_list_int, ↓isT_list_str, ↓isT_list_tuple, ↓isT_list_list, ↓isT_list_dict, ↓isT_dict_non, ↓isT_dict_bool, ↓isT_dict_int, ↓isT_dict_str, ↓isT_dict_tuple, ↓isT_dict_list, ↓isT_dict_dict, ↓slot_0, ↓slot_1, ↓slot_2, ↓slot_3, ↓slot_4, ↓slot_5, ↓slot_6, ↓slot_7, ↓slot_8, ↓slot_9, ↓slot_10, ↓slot_11, ↓slot_12, ↓slot_13, ↓slot_14, ↓slot_15, ↓slot_16, ↓slot_17, ↓set_0, ↓set_1, ↓set_2, ↓set_3, ↓set_4, ↓set_5, ↓set_6, ↓set_7, ↓set_8, ↓set_9, ↓set_10, ↓set_11, ↓set_12, ↓set_13, ↓set_14, ↓set_15, ↓set_16, ↓set_17, ↓D.isNon]; exact hR
      · simp only [↓dSeq_eq, ↓wnx_nx, ↓wnx_rt, ↓wnx_bk, ↓wnx_ct, ↓wnx_ex, ↓wlp_nx, ↓wlp_rt, ↓wlp_bk, ↓wlp_ct, ↓wlp_ex, ↓wex_nx, ↓wex_rt, ↓wex_bk, ↓wex_ct, ↓wex_ex, ↓en_nx, ↓en_rt, ↓en_ex, ↓forGo_nil, ↓forGo_cons, ↓dNext, ↓dBreak, ↓dCont, ↓dDrop, ↓dRet, ↓dRetN, ↓dIfS, ↓hName, ↓hNil, ↓hCons, ↓hTup, ↓dAsg, ↓dPar, ↓dTest, ↓dAnd, ↓dOr, ↓dNot, ↓dAndV, ↓dOrV, ↓dNotV, ↓dIf, ↓dVar, ↓dC, ↓dOp, ↓dUn, ↓dNil, ↓dCons, ↓dTup, ↓dLst, ↓dLstM, ↓dCall, ↓dCallK, ↓pick, ↓dCB, ↓dSeqI, ↓dFor, ↓dRange1, ↓dRange2, ↓dRaise, ↓dRaise0, ↓dIsi, ↓dIsi2, ↓oAdd, ↓oSubI, ↓oMulI, ↓oDivI, ↓oModI, ↓oPowI, ↓oSubB, ↓oCmpI, ↓oNeg, ↓oEq, ↓oNe, ↓oIsN, ↓oNotN, ↓oIsB, ↓oIx, ↓cLen, ↓lenQ, ↓D.len?, ↓cAbs, ↓cInt, ↓cMax2, ↓cMin2, ↓cGcd, ↓cSum, ↓cStr, ↓okEq_int, ↓okEq_bl, ↓okEq_non, ↓eqD_int, ↓eqD_bl, ↓eqD_intTup, ↓atI0, ↓atI1, ↓atI2, ↓atI3, ↓ty_int, ↓ty_bl, ↓ty_non, ↓ty_str, ↓ty_tup, ↓ty_lst, ↓endsOf, List.length_cons, List.length_nil, List.map_cons, List.map_nil, Bool.not_true, Bool.not_false, Bool.true_and, Bool.and_true, Bool.false_and, Bool.or_true, Bool.true_or, Bool.false_or, Bool.or_false, ite_true, ite_false, if_true, if_false, Bool.false_eq_true, reduceCtorEq, decide_true, decide_false, true_and, and_true, Bool.not_not, Option.isSome_some, if_false_left, decide_eq_true_eq, Bool.decide_eq_true, ↓isT_non_non, ↓isT_non_bool, ↓isT_non_int, ↓isT_non_str, ↓isT_non_tuple, ↓isT_non_list, ↓isT_non_dict, ↓isT_bool_non, ↓isT_bool_bool, ↓isT_bool_int, ↓isT_bool_str, ↓isT_bool_tuple, ↓isT_bool_list, ↓isT_bool_dict, ↓isT_int_non, ↓isT_int_bool, ↓isT_int_int, ↓isT_int_str, ↓isT_int_tuple, ↓isT_int_list, ↓isT_int_dict, ↓isT_str_non, ↓isT_str_bool, ↓isT_str_int, ↓isT_str_str, ↓isT_str_tuple, ↓isT_str_list, ↓isT_str_dict, ↓isT_tuple_non, ↓isT_tuple_bool, ↓isT_tuple_int, ↓isT_tuple_str, ↓isT_tuple_tuple, ↓isT_tuple_list, ↓isT_tuple_dict, ↓isT_list_non, ↓isT_list_bool, ↓isT_list_int, ↓isT_list_str, ↓isT_list_tuple, ↓isT_list_list, ↓isT_list_dict, ↓isT_dict_non, ↓isT_dict_bool, ↓isT_dict_int, ↓isT_dict_str, ↓isT_dict_tuple, ↓isT_dict_list, ↓isT_dict_dict, ↓slot_0, ↓slot_1, ↓slot_2, ↓slot_3, ↓slot_4, ↓slot_5, ↓slot_6, ↓slot_7, ↓slot_8, ↓slot_9, ↓slot_10, ↓slot_11, ↓slot_12, ↓slot_13, ↓slot_14, ↓slot_15, ↓slot_16, ↓slot_17, ↓set_0, ↓set_1, ↓set_2, ↓set_3, ↓set_4, ↓set_5, ↓set_6, ↓set_7, ↓set_8, ↓set_9, ↓set_10, ↓set_11, ↓set_12, ↓set_13, ↓set_14, ↓set_15, ↓set_16, ↓set_17, ↓D.isNon]; exact ⟨_, .refl _, q⟩
    | bl b =>
      refine skip_if (fun R E hR => ?_) (seq_stop fun R => if_t (S' := ⟨[some (.bl b), some (.bl b), none, none], M⟩) (fun R hR => ?_) ?_)
      · simp only [↓dSeq_eq, ↓wnx_nx, ↓wnx_rt, ↓wnx_bk, ↓wnx_ct, ↓wnx_ex, ↓wlp_nx, ↓wlp_rt, ↓wlp_bk, ↓wlp_ct, ↓wlp_ex, ↓wex_nx, ↓wex_rt, ↓wex_bk, ↓wex_ct, ↓wex_ex, ↓en_nx, ↓en_rt, ↓en_ex, ↓forGo_nil, ↓forGo_cons, ↓dNext, ↓dBreak, ↓dCont, ↓dDrop, ↓dRet, ↓dRetN, ↓dIfS, ↓hName, ↓hNil, ↓hCons, ↓hTup, ↓dAsg, ↓dPar, ↓dTest, ↓dAnd, ↓dOr, ↓dNot, ↓dAndV, ↓dOrV, ↓dNotV, ↓dIf, ↓dVar, ↓dC, ↓dOp, ↓dUn, ↓dNil, ↓dCons, ↓dTup, ↓dLst, ↓dLstM, ↓dCall, ↓dCallK, ↓pick, ↓dCB, ↓dSeqI, ↓dFor, ↓dRange1, ↓dRange2, ↓dRaise, ↓dRaise0, ↓dIsi, ↓dIsi2, ↓oAdd, ↓oSubI, ↓oMulI, ↓oDivI, ↓oModI, ↓oPowI, ↓oSubB, ↓oCmpI, ↓oNeg, ↓oEq, ↓oNe, ↓oIsN, ↓oNotN, ↓oIsB, ↓oIx, ↓cLen, ↓lenQ, ↓D.len?, ↓cAbs, ↓cInt, ↓cMax2, ↓cMin2, ↓cGcd, ↓cSum, ↓cStr, ↓okEq_int, ↓okEq_bl, ↓okEq_non, ↓eqD_int, ↓eqD_bl, ↓eqD_intTup, ↓atI0, ↓atI1, ↓atI2, ↓atI3, ↓ty_int, ↓ty_bl, ↓ty_non, ↓ty_str, ↓ty_tup, ↓ty_lst, ↓endsOf, List.length_cons, List.length_nil, List.map_cons, List.map_nil, Bool.not_true, Bool.not_false, Bool.true_and, Bool.and_true, Bool.false_and, Bool.or_true, Bool.true_or, Bool.false_or, Bool.or_false, ite_true, ite_false, if_true, if_false, Bool.false_eq_true, reduceCtorEq, decide_true, decide_false, true_and, and_true, Bool.not_not, Option.isSome_some, if_false_left, decide_eq_true_eq, Bool.decide_eq_true, ↓isT_non_non, ↓isT_non_bool, ↓isT_non_int, ↓isT_non_str, ↓isT_non_tuple, ↓isT_non_list, ↓isT_non_dict, ↓isT_bool_non, ↓isT_bool_bool, ↓isT_bool_int, ↓isT_bool_str, ↓isT_bool_tuple, ↓isT_bool_list, ↓isT_bool_dict, ↓isT_int_non, ↓isT_int_bool, ↓isT_int_int, ↓isT_int_str, ↓isT_int_tuple, ↓isT_int_list, ↓isT_int_dict, ↓isT_str_non, ↓isT_str_bool, ↓isT_str_int, ↓isT_str_str, ↓isT_str_tuple, ↓isT_str_list, ↓isT_str_dict, ↓isT_tuple_non, ↓isT_tuple_bool, ↓isT_tuple_int, ↓isT_tuple_str, ↓isT_tuple_tuple, ↓isT_tuple_list, ↓isT_tuple_dict, ↓isT_list_non, ↓isT_list_bool, ↓isT_list_int, ↓isT_list_str, ↓isT_list_tuple, ↓isT_list_list, ↓isT_list_dict, ↓isT_dict_non, ↓isT_dict_bool, ↓isT_dict_int, ↓isT_dict_str, ↓isT_dict_tuple, ↓isT_dict_list, ↓isT_dict_dict, ↓slot_0, ↓slot_1, ↓slot_2, ↓slot_3, ↓slot_4, ↓slot_5, ↓slot_6, ↓slot_7, ↓slot_8, ↓slot_9, ↓slot_10, ↓slot_11, ↓slot_12, ↓slot_13, ↓slot_14, ↓slot_15, ↓slot_16, ↓slot_17, ↓set_0, ↓set_1, ↓set_2, ↓set_3, ↓set_4, ↓set_5, ↓set_6, ↓set_7, ↓set_8, ↓set_9, ↓set_10, ↓set_11, ↓set_12, ↓set_13, ↓set_14, ↓set_15, ↓set_16, ↓set_17, ↓D.isNon]; exact hR
      · simp only [↓dSeq_eq, ↓wnx_nx, ↓wnx_rt, ↓wnx_bk, ↓wnx_ct, ↓wnx_ex, ↓wlp_nx, ↓wlp_rt, ↓wlp_bk, ↓wlp_ct, ↓wlp_ex, ↓wex_nx, ↓wex_rt, ↓wex_bk, ↓wex_ct, ↓wex_ex, ↓en_nx, ↓en_rt, ↓en_ex, ↓forGo_nil, ↓forGo_cons, ↓dNext, ↓dBreak, ↓dCont, ↓dDrop, ↓dRet, ↓dRetN, ↓dIfS, ↓hName, ↓hNil, ↓hCons, ↓hTup, ↓dAsg, ↓dPar, ↓dTest, ↓dAnd, ↓dOr, ↓dNot, ↓dAndV, ↓dOrV, ↓dNotV, ↓dIf, ↓dVar, ↓dC, ↓dOp, ↓dUn, ↓dNil, ↓dCons, ↓dTup, ↓dLst, ↓dLstM, ↓dCall, ↓dCallK, ↓pick, ↓dCB, ↓dSeqI, ↓dFor, ↓dRange1, ↓dRange2, ↓dRaise, ↓dRaise0, ↓dIsi, ↓dIsi2, ↓oAdd, ↓oSubI, ↓oMulI, ↓oDivI, ↓oModI, ↓oPowI, ↓oSubB, ↓oCmpI, ↓oNeg, ↓oEq, ↓oNe, ↓oIsN, ↓oNotN, ↓oIsB, ↓oIx, ↓cLen, ↓lenQ, ↓D.len?, ↓cAbs, ↓cInt, ↓cMax2, ↓cMin2, ↓cGcd, ↓cSum, ↓cStr, ↓okEq_int, ↓okEq_bl, ↓okEq_non, ↓eqD_int, ↓eqD_bl, ↓eqD_intTup, ↓atI0, ↓atI1, ↓atI2, ↓atI3, ↓ty_int, ↓ty_bl, ↓ty_non, ↓ty_str, ↓ty_tup, ↓ty_lst, ↓endsOf, List.length_cons, List.length_nil, List.map_cons, List.map_nil, Bool.not_true, Bool.not_false, Bool.true_and, Bool.and_true, Bool.false_and, Bool.or_true, Bool.true_or, Bool.false_or, Bool.or_false, ite_true, ite_false, if_true, if_false, Bool.false_eq_true, reduceCtorEq, decide_true, decide_false, true_and, and_true, Bool.not_not, Option.isSome_some, if_false_left, decide_eq_true_eq, Bool.decide_eq_true, ↓isT_non_non, ↓isT_non_bool, ↓isT_non_int, ↓isT_non_str, ↓isT_non_tuple, ↓isT_non_list, ↓isT_non_dict, ↓isT_bool_non, ↓isT_bool_bool, ↓isT_bool_int, ↓isT_bool_str, ↓isT_bool_tuple, ↓isT_bool_list, ↓isT_bool_dict, ↓isT_int_non, ↓isT_int_bool, ↓isT_int_int, ↓isT_int_str, ↓isT_int_tuple, ↓isT_int_list, ↓isT_int_dict, ↓isT_str_non, ↓isT_str_bool, ↓isT_str_int, ↓isT_str_str, ↓isT_str_tuple, ↓isT_str_list, ↓isT_str_dict, ↓isT_tuple_non, ↓isT_tuple_bool, ↓isT_tuple_int, ↓isT_tuple_str, ↓isT_tuple_tuple, ↓isT_tuple_list, ↓isT_tuple_dict, ↓isT_list_non, ↓isT_list_bool, ↓isT_list_int, ↓isT_list_str, ↓isT_list_tuple, ↓isT_list_list, ↓isT_list_dict, ↓isT_dict_non, ↓isT_dict_bool, ↓isT_dict_int, ↓isT_dict_str, ↓isT_dict_tuple, ↓isT_dict_list, ↓isT_dict_dict, ↓slot_0, ↓slot_1, ↓slot_2, ↓slot_3, ↓slot_4, ↓slot_5, ↓slot_6, ↓slot_7, ↓slot_8, ↓slot_9, ↓slot_10, ↓slot_11, ↓slot_12, ↓slot_13, ↓slot_14, ↓slot_15, ↓slot_16, ↓slot_17, ↓set_0, ↓set_1, ↓set_2, ↓set_3, ↓set_4, ↓set_5, ↓set_6, ↓set_7, ↓set_8, ↓set_9, ↓set_10, ↓set_11, ↓set_12, ↓set_13, ↓set_14, ↓set_15, ↓set_16, ↓set_17]; exact hR
      · simp only [↓dSeq_eq, ↓wnx_nx, ↓wnx_rt, ↓wnx_bk, ↓wnx_ct, ↓wnx_ex, ↓wlp_nx, ↓wlp_rt, ↓wlp_bk, ↓wlp_ct, ↓wlp_ex, ↓wex_nx, ↓wex_rt, ↓wex_bk, ↓wex_ct, ↓wex_ex, ↓en_nx, ↓en_rt, ↓en_ex, ↓forGo_nil, ↓forGo_cons, ↓dNext, ↓dBreak, ↓dCont, ↓dDrop, ↓dRet, ↓dRetN, ↓dIfS, ↓hName, ↓hNil, ↓hCons, ↓hTup, ↓dAsg, ↓dPar, ↓dTest, ↓dAnd, ↓dOr, ↓dNot, ↓dAndV, ↓dOrV, ↓dNotV, ↓dIf, ↓dVar, ↓dC, ↓dOp, ↓dUn, ↓dNil, ↓dCons, ↓dTup, ↓dLst, ↓dLstM, ↓dCall, ↓dCallK, ↓pick, ↓dCB, ↓dSeqI, ↓dFor, ↓dRange1, ↓dRange2, ↓dRaise, ↓dRaise0, ↓dIsi, ↓dIsi2, ↓oAdd, ↓oSubI, ↓oMulI, ↓oDivI, ↓oModI, ↓oPowI, ↓oSubB, ↓oCmpI, ↓oNeg, ↓oEq, ↓oNe, ↓oIsN, ↓oNotN, ↓oIsB, ↓oIx, ↓cLen, ↓lenQ, ↓D.len?, ↓cAbs, ↓cInt, ↓cMax2, ↓cMin2, ↓cGcd, ↓cSum, ↓cStr, ↓okEq_int, ↓okEq_bl, ↓okEq_non, ↓eqD_int, ↓eqD_bl, ↓eqD_intTup, ↓atI0, ↓atI1, ↓atI2, ↓atI3, ↓ty_int, ↓ty_bl, ↓ty_non, ↓ty_str, ↓ty_tup, ↓ty_lst, ↓endsOf, List.length_cons, List.length_nil, List.map_cons, List.map_nil, Bool.not_true, Bool.not_false, Bool.true_and, Bool.and_true, Bool.false_and, Bool.or_true, Bool.true_or, Bool.false_or, Bool.or_false, ite_true, ite_false, if_true, if_false, Bool.false_eq_true, reduceCtorEq, decide_true, decide_false, true_and, and_true, Bool.not_not, Option.isSome_some, if_false_left, decide_eq_true_eq, Bool.decide_eq_true, ↓isT_non_non, ↓isT_non_bool, ↓isT_non_int, ↓isT_non_str, ↓isT_non_tuple, ↓isT_non_list, ↓isT_non_dict, ↓isT_bool_non, ↓isT_bool_bool, ↓isT_bool_int, ↓isT_bool_str, ↓isT_bool_tuple, ↓isT_bool_list, ↓isT_bool_dict, ↓isT_int_non, ↓isT_int_bool, ↓isT_int_int, ↓isT_int_str, ↓isT_int_tuple, ↓isT_int_list, ↓isT_int_dict, ↓isT_str_non, ↓isT_str_bool, ↓isT_str_int, ↓isT_str_str, ↓isT_str_tuple, ↓isT_str_list, ↓isT_str_dict, ↓isT_tuple_non, ↓isT_tuple_bool, ↓isT_tuple_int, ↓isT_tuple_str, ↓isT_tuple_tuple, ↓isT_tuple_list, ↓isT_tuple_dict, ↓isT_list_non, ↓isT_list_bool, ↓isT_list_int, ↓isT_list_str, ↓isT_list_tuple, ↓isT_list_list, ↓isT_list_dict, ↓isT_dict_non, ↓isT_dict_bool, ↓isT_dict_int, ↓isT_dict_str, ↓isT_dict_tuple, ↓isT_dict_list, ↓isT_dict_dict, ↓slot_0, ↓slot_1, ↓slot_2, ↓slot_3, ↓slot_4, ↓slot_5, ↓slot_6, ↓slot_7, ↓slot_8, ↓slot_9, ↓slot_10, ↓slot_11, ↓slot_12, ↓slot_13, ↓slot_14, ↓slot_15, ↓slot_16, ↓slot_17, ↓set_0, ↓set_1, ↓set_2, ↓set_3, ↓set_4, ↓set_5, ↓set_6, ↓set_7, ↓set_8, ↓set_9, ↓set_10, ↓set_11, ↓set_12, ↓set_13, ↓set_14, ↓set_15, ↓set_16, ↓set_17]; exact ⟨_, .refl _, q⟩
    | int i =>
      refine skip_if (fun R E hR => ?_) (skip_if (fun R E hR => ?_) (seq_stop fun R => if_t (S' := ⟨[some (.int i), some (.int i), none, none], M⟩) (fun R hR => ?_) ?_))
      · simp only [↓dSeq_eq, ↓wnx_nx, ↓wnx_rt, ↓wnx_bk, ↓wnx_ct, ↓wnx_ex, ↓wlp_nx, ↓wlp_rt, ↓wlp_bk, ↓wlp_ct, ↓wlp_ex, ↓wex_nx, ↓wex_rt, ↓wex_bk, ↓wex_ct, ↓wex_ex, ↓en_nx, ↓en_rt, ↓en_ex, ↓forGo_nil, ↓forGo_cons, ↓dNext, ↓dBreak, ↓dCont, ↓dDrop, ↓dRet, ↓dRetN, ↓dIfS, ↓hName, ↓hNil, ↓hCons, ↓hTup, ↓dAsg, ↓dPar, ↓dTest, ↓dAnd, ↓dOr, ↓dNot, ↓dAndV, ↓dOrV, ↓dNotV, ↓dIf, ↓dVar, ↓dC, ↓dOp, ↓dUn, ↓dNil, ↓dCons, ↓dTup, ↓dLst, ↓dLstM, ↓dCall, ↓dCallK, ↓pick, ↓dCB, ↓dSeqI, ↓dFor, ↓dRange1, ↓dRange2, ↓dRaise, ↓dRaise0, ↓dIsi, ↓dIsi2, ↓oAdd, ↓oSubI, ↓oMulI, ↓oDivI, ↓oModI, ↓oPowI, ↓oSubB, ↓oCmpI, ↓oNeg, ↓oEq, ↓oNe, ↓oIsN, ↓oNotN, ↓oIsB, ↓oIx, ↓cLen, ↓lenQ, ↓D.len?, ↓cAbs, ↓cInt, ↓cMax2, ↓cMin2, ↓cGcd, ↓cSum, ↓cStr, ↓okEq_int, ↓okEq_bl, ↓okEq_non, ↓eqD_int, ↓eqD_bl, ↓eqD_intTup, ↓atI0, ↓atI1, ↓atI2, ↓atI3, ↓ty_int, ↓ty_bl, ↓ty_non, ↓ty_str, ↓ty_tup, ↓ty_lst, ↓endsOf, List.length_cons, List.length_nil, List.map_cons, List.map_nil, Bool.not_true, Bool.not_false, Bool.true_and, Bool.and_true, Bool.false_and, Bool.or_true, Bool.true_or, Bool.false_or, Bool.or_false, ite_true, ite_false, if_true, if_false, Bool.false_eq_true, reduceCtorEq, decide_true, decide_false, true_and, and_true, Bool.not_not, Option.isSome_some, if_false_left, decide_eq_true_eq, Bool.decide_eq_true, ↓isT_non_non, ↓isT_non_bool, ↓isT_non_int, ↓isT_non_str, ↓isT_non_tuple, ↓isT_non_list, ↓isT_non_dict, ↓isT_bool_non, ↓isT_bool_bool, ↓isT_bool_int, ↓isT_bool_str, ↓isT_bool_tuple, ↓isT_bool_list, ↓isT_bool_dict, ↓isT_int_non, ↓isT_int_bool, ↓isT_int_int, ↓isT_int_str, ↓isT_int_tuple, ↓isT_int_list, ↓isT_int_dict, ↓isT_str_non, ↓isT_str_bool, ↓isT_str_int, ↓isT_str_str, ↓isT_str_tuple, ↓isT_str_list, ↓isT_str_dict, ↓isT_tuple_non, ↓isT_tuple_bool, ↓isT_tuple_int, ↓isT_tuple_str, ↓isT_tuple_tuple, ↓isT_tuple_list, ↓isT_tuple_dict, ↓isT_list_non, ↓isT_list_bool, ↓isT_list_int, ↓isT_list_str, ↓isT_list_tuple, ↓isT_list_list, ↓isT_list_dict, ↓isT_dict_non, ↓isT_dict_bool, ↓isT_dict_int, ↓isT_dict_str, ↓isT_dict_tuple, ↓isT_dict_list, ↓isT_dict_dict, ↓slot_0, ↓slot_1, ↓slot_2, ↓slot_3, ↓slot_4, ↓slot_5, ↓slot_6, ↓slot_7, ↓slot_8, ↓slot_9, ↓slot_10, ↓slot_11, ↓slot_12, ↓slot_13, ↓slot_14, ↓slot_15, ↓slot_16, ↓slot_17, ↓set_0, ↓set_1, ↓set_2, ↓set_3, ↓set_4, ↓set_5, ↓set_6, ↓set_7, ↓set_8, ↓set_9, ↓set_10, ↓set_11, ↓set_12, ↓set_13, ↓set_14, ↓set_15, ↓set_16, ↓set_17, ↓D.isNon]; exact hR
      · simp only [↓dSeq_eq, ↓wnx_nx, ↓wnx_rt, ↓wnx_bk, ↓wnx_ct, ↓wnx_ex, ↓wlp_nx, ↓wlp_rt, ↓wlp_bk, ↓wlp_ct, ↓wlp_ex, ↓wex_nx, ↓wex_rt, ↓wex_bk, ↓wex_ct, ↓wex_ex, ↓en_nx, ↓en_rt, ↓en_ex, ↓forGo_nil, ↓forGo_cons, ↓dNext, ↓dBreak, ↓dCont, ↓dDrop, ↓dRet, ↓dRetN, ↓dIfS, ↓hName, ↓hNil, ↓hCons, ↓hTup, ↓dAsg, ↓dPar, ↓dTest, ↓dAnd, ↓dOr, ↓dNot, ↓dAndV, ↓dOrV, ↓dNotV, ↓dIf, ↓dVar, ↓dC, ↓dOp, ↓dUn, ↓dNil, ↓dCons, ↓dTup, ↓dLst, ↓dLstM, ↓dCall, ↓dCallK, ↓pick, ↓dCB, ↓dSeqI, ↓dFor, ↓dRange1, ↓dRange2, ↓dRaise, ↓dRaise0, ↓dIsi, ↓dIsi2, ↓oAdd, ↓oSubI, ↓oMulI, ↓oDivI, ↓oModI, ↓oPowI, ↓oSubB, ↓oCmpI, ↓oNeg, ↓oEq, ↓oNe, ↓oIsN, ↓oNotN, ↓oIsB, ↓oIx, ↓cLen, ↓lenQ, ↓D.len?, ↓cAbs, ↓cInt, ↓cMax2, ↓cMin2, ↓cGcd, ↓cSum, ↓cStr, ↓okEq_int, ↓okEq_bl, ↓okEq_non, ↓eqD_int, ↓eqD_bl, ↓eqD_intTup, ↓atI0, ↓atI1, ↓atI2, ↓atI3, ↓ty_int, ↓ty_bl, ↓ty_non, ↓ty_str, ↓ty_tup, ↓ty_lst, ↓endsOf, List.length_cons, List.length_nil, List.map_cons, List.map_nil, Bool.not_true, Bool.not_false, Bool.true_and, Bool.and_true, Bool.false_and, Bool.or_true, Bool.true_or, Bool.false_or, Bool.or_false, ite_true, ite_false, if_true, if_false, Bool.false_eq_true, reduceCtorEq, decide_true, decide_false, true_and, and_true, Bool.not_not, Option.isSome_some, if_false_left, decide_eq_true_eq, Bool.decide_eq_true, ↓isT_non_non, ↓isT_non_bool, ↓isT_non_int, ↓isT_non_str, ↓isT_non_tuple, ↓isT_non_list, ↓isT_non_dict, ↓isT_bool_non, ↓isT_bool_bool, ↓isT_bool_int, ↓isT_bool_str, ↓isT_bool_tuple, ↓isT_bool_list, ↓isT_bool_dict, ↓isT_int_non, ↓isT_int_bool, ↓isT_int_int, ↓isT_int_str, ↓isT_int_tuple, ↓isT_int_list, ↓isT_int_dict, ↓isT_str_non, ↓isT_str_bool, ↓isT_str_int, ↓isT_str_str, ↓isT_str_tuple, ↓isT_str_list, ↓isT_str_dict, ↓isT_tuple_non, ↓isT_tuple_bool, ↓isT_tuple_int, ↓isT_tuple_str, ↓isT_tuple_tuple, ↓isT_tuple_list, ↓isT_tuple_dict, ↓isT_list_non, ↓isT_list_bool, ↓isT_list_int, ↓isT_list_str, ↓isT_list_tuple, ↓isT_list_list, ↓isT_list_dict, ↓isT_dict_non, ↓isT_dict_bool, ↓isT_dict_int, ↓isT_dict_str, ↓isT_dict_tuple, ↓isT_dict_list, ↓isT_dict_dict, ↓slot_0, ↓slot_1, ↓slot_2, ↓slot_3, ↓slot_4, ↓slot_5, ↓slot_6, ↓slot_7, ↓slot_8, ↓slot_9, ↓slot_10, ↓slot_11, ↓slot_12, ↓slot_13, ↓slot_14, ↓slot_15, ↓slot_16, ↓slot_17, ↓set_0, ↓set_1, ↓set_2, ↓set_3, ↓set_4, ↓set_5, ↓set_6, ↓set_7, ↓set_8, ↓set_9, ↓set_10, ↓set_11, ↓set_12, ↓set_13, ↓set_14, ↓set_15, ↓set_16, ↓set_17]; exact hR
      · simp only [↓dSeq_eq, ↓wnx_nx, ↓wnx_rt, ↓wnx_bk, ↓wnx_ct, ↓wnx_ex, ↓wlp_nx, ↓wlp_rt, ↓wlp_bk, ↓wlp_ct, ↓wlp_ex, ↓wex_nx, ↓wex_rt, ↓wex_bk, ↓wex_ct, ↓wex_ex, ↓en_nx, ↓en_rt, ↓en_ex, ↓forGo_nil, ↓forGo_cons, ↓dNext, ↓dBreak, ↓dCont, ↓dDrop, ↓dRet, ↓dRetN, ↓dIfS, ↓hName, ↓hNil, ↓hCons, ↓hTup, ↓dAsg, ↓dPar, ↓dTest, ↓dAnd, ↓dOr, ↓dNot, ↓dAndV, ↓dOrV, ↓dNotV, ↓dIf, ↓dVar, ↓dC, ↓dOp, ↓dUn, ↓dNil, ↓dCons, ↓dTup, ↓dLst, ↓dLstM, ↓dCall, ↓dCallK, ↓pick, ↓dCB, ↓dSeqI, ↓dFor, ↓dRange1, ↓dRange2, ↓dRaise, ↓dRaise0, ↓dIsi, ↓dIsi2, ↓oAdd, ↓oSubI, ↓oMulI, ↓oDivI, ↓oModI, ↓oPowI, ↓oSubB, ↓oCmpI, ↓oNeg, ↓oEq, ↓oNe, ↓oIsN, ↓oNotN, ↓oIsB, ↓oIx, ↓cLen, ↓lenQ, ↓D.len?, ↓cAbs, ↓cInt, ↓cMax2, ↓cMin2, ↓cGcd, ↓cSum, ↓cStr, ↓okEq_int, ↓okEq_bl, ↓okEq_non, ↓eqD_int, ↓eqD_bl, ↓eqD_intTup, ↓atI0, ↓atI1, ↓atI2, ↓atI3, ↓ty_int, ↓ty_bl, ↓ty_non, ↓ty_str, ↓ty_tup, ↓ty_lst, ↓endsOf, List.length_cons, List.length_nil, List.map_cons, List.map_nil, Bool.not_true, Bool.not_false, Bool.true_and, Bool.and_true, Bool.false_and, Bool.or_true, Bool.true_or, Bool.false_or, Bool.or_false, ite_true, ite_false, if_true, if_false, Bool.false_eq_true, reduceCtorEq, decide_true, decide_false, true_and, and_true, Bool.not_not, Option.isSome_some, if_false_left, decide_eq_true_eq, Bool.decide_eq_true, ↓isT_non_non, ↓isT_non_bool, ↓isT_non_int, ↓isT_non_str, ↓isT_non_tuple, ↓isT_non_list, ↓isT_non_dict, ↓isT_bool_non, ↓isT_bool_bool, ↓isT_bool_int, ↓isT_bool_str, ↓isT_bool_tuple, ↓isT_bool_list, ↓isT_bool_dict, ↓isT_int_non, ↓isT_int_bool, ↓isT_int_int, ↓isT_int_str, ↓isT_int_tuple, ↓isT_int_list, ↓isT_int_dict, ↓isT_str_non, ↓isT_str_bool, ↓isT_str_int, ↓isT_str_str, ↓isT_str_tuple, ↓isT_str_list, ↓isT_str_dict, ↓isT_tuple_non, ↓isT_tuple_bool, ↓isT_tuple_int, ↓isT_tuple_str, ↓isT_tuple_tuple, ↓isT_tuple_list, ↓isT_tuple_dict, ↓isT_list_non, ↓isT_list_bool, ↓isT_list_int, ↓isT_list_str, ↓isT_list_tuple, ↓isT_list_list, ↓isT_list_dict, ↓isT_dict_non, ↓isT_dict_bool, ↓isT_dict_int, ↓isT_dict_str, ↓isT_dict_tuple, ↓isT_dict_list, ↓isT_dict_dict, ↓slot_0, ↓slot_1, ↓slot_2, ↓slot_3, ↓slot_4, ↓slot_5, ↓slot_6, ↓slot_7, ↓slot_8, ↓slot_9, ↓slot_10, ↓slot_11, ↓slot_12, ↓slot_13, ↓slot_14, ↓slot_15, ↓slot_16, ↓slot_17, ↓set_0, ↓set_1, ↓set_2, ↓set_3, ↓set_4, ↓set_5, ↓set_6, ↓set_7, ↓set_8, ↓set_9, ↓set_10, ↓set_11, ↓set_12, ↓set_13, ↓set_14, ↓set_15, ↓set_16, ↓set_17]; exact hR
      · simp only [↓dSeq_eq, ↓wnx_nx, ↓wnx_rt, ↓wnx_bk, ↓wnx_ct, ↓wnx_ex, ↓wlp_nx, ↓wlp_rt, ↓wlp_bk, ↓wlp_ct, ↓wlp_ex, ↓wex_nx, ↓wex_rt, ↓wex_bk, ↓wex_ct, ↓wex_ex, ↓en_nx, ↓en_rt, ↓en_ex, ↓forGo_nil, ↓forGo_cons, ↓dNext, ↓dBreak, ↓dCont, ↓dDrop, ↓dRet, ↓dRetN, ↓dIfS, ↓hName, ↓hNil, ↓hCons, ↓hTup, ↓dAsg, ↓dPar, ↓dTest, ↓dAnd, ↓dOr, ↓dNot, ↓dAndV, ↓dOrV, ↓dNotV, ↓dIf, ↓dVar, ↓dC, ↓dOp, ↓dUn, ↓dNil, ↓dCons, ↓dTup, ↓dLst, ↓dLstM, ↓dCall, ↓dCallK, ↓pick, ↓dCB, ↓dSeqI, ↓dFor, ↓dRange1, ↓dRange2, ↓dRaise, ↓dRaise0, ↓dIsi, ↓dIsi2, ↓oAdd, ↓oSubI, ↓oMulI, ↓oDivI, ↓oModI, ↓oPowI, ↓oSubB, ↓oCmpI, ↓oNeg, ↓oEq, ↓oNe, ↓oIsN, ↓oNotN, ↓oIsB, ↓oIx, ↓cLen, ↓lenQ, ↓D.len?, ↓cAbs, ↓cInt, ↓cMax2, ↓cMin2, ↓cGcd, ↓cSum, ↓cStr, ↓okEq_int, ↓okEq_bl, ↓okEq_non, ↓eqD_int, ↓eqD_bl, ↓eqD_intTup, ↓atI0, ↓atI1, ↓atI2, ↓atI3, ↓ty_int, ↓ty_bl, ↓ty_non, ↓ty_str, ↓ty_tup, ↓ty_lst, ↓endsOf, List.length_cons, List.length_nil, List.map_cons, List.map_nil, Bool.not_true, Bool.not_false, Bool.true_and, Bool.and_true, Bool.false_and, Bool.or_true, Bool.true_or, Bool.false_or, Bool.or_false, ite_true, ite_false, if_true, if_false, Bool.false_eq_true, reduceCtorEq, decide_true, decide_false, true_and, and_true, Bool.not_not, Option.isSome_some, if_false_left, decide_eq_true_eq, Bool.decide_eq_true, ↓isT_non_non, ↓isT_non_bool, ↓isT_non_int, ↓isT_non_str, ↓isT_non_tuple, ↓isT_non_list, ↓isT_non_dict, ↓isT_bool_non, ↓isT_bool_bool, ↓isT_bool_int, ↓isT_bool_str, ↓isT_bool_tuple, ↓isT_bool_list, ↓isT_bool_dict, ↓isT_int_non, ↓isT_int_bool, ↓isT_int_int, ↓isT_int_str, ↓isT_int_tuple, ↓isT_int_list, ↓isT_int_dict, ↓isT_str_non, ↓isT_str_bool, ↓isT_str_int, ↓isT_str_str, ↓isT_str_tuple, ↓isT_str_list, ↓isT_str_dict, ↓isT_tuple_non, ↓isT_tuple_bool, ↓isT_tuple_int, ↓isT_tuple_str, ↓isT_tuple_tuple, ↓isT_tuple_list, ↓isT_tuple_dict, ↓isT_list_non, ↓isT_list_bool, ↓isT_list_int, ↓isT_list_str, ↓isT_list_tuple, ↓isT_list_list, ↓isT_list_dict, ↓isT_dict_non, ↓isT_dict_bool, ↓isT_dict_int, ↓isT_dict_str, ↓isT_dict_tuple, ↓isT_dict_list, ↓isT_dict_dict, ↓slot_0, ↓slot_1, ↓slot_2, ↓slot_3, ↓slot_4, ↓slot_5, ↓slot_6, ↓slot_7, ↓slot_8, ↓slot_9, ↓slot_10, ↓slot_11, ↓slot_12, ↓slot_13, ↓slot_14, ↓slot_15, ↓slot_16, ↓slot_17, ↓set_0, ↓set_1, ↓set_2, ↓set_3, ↓set_4, ↓set_5, ↓set_6, ↓set_7, ↓set_8, ↓set_9, ↓set_10, ↓set_11, ↓set_12, ↓set_13, ↓set_14, ↓set_15, ↓set_16, ↓set_17, Int.sub_self]; exact ⟨_, .refl _, q⟩
    | str z => exact same_str hw q
    | tup l => exact same_tup hn hw q
    | lst l => exact same_lst hn hw q
    | dct l => exact hw.elim
    | scr l => exact hw.elim
    | err C a dd fs => exact hw.elim
    | ref p =>
      rcases hw with ⟨l, hm, hl⟩ | ⟨l, hm, hl⟩
      · exact same_rl hn hm hl q
      · exact same_rd hn hm hl q
  · have e : (i - j = 0) = (i = j) := propext ⟨fun h => by omega, fun h => by omega⟩
    refine skip_if (fun R E hR => ?_) (skip_if (fun R E hR => ?_) (seq_stop fun R => if_t (S' := ⟨[some (.int i), some (.int j), none, none], M⟩) (fun R hR => ?_) ?_))
    · simp only [↓dSeq_eq, ↓wnx_nx, ↓wnx_rt, ↓wnx_bk, ↓wnx_ct, ↓wnx_ex, ↓wlp_nx, ↓wlp_rt, ↓wlp_bk, ↓wlp_ct, ↓wlp_ex, ↓wex_nx, ↓wex_rt, ↓wex_bk, ↓wex_ct, ↓wex_ex, ↓en_nx, ↓en_rt, ↓en_ex, ↓forGo_nil, ↓forGo_cons, ↓dNext, ↓dBreak, ↓dCont, ↓dDrop, ↓dRet, ↓dRetN, ↓dIfS, ↓hName, ↓hNil, ↓hCons, ↓hTup, ↓dAsg, ↓dPar, ↓dTest, ↓dAnd, ↓dOr, ↓dNot, ↓dAndV, ↓dOrV, ↓dNotV, ↓dIf, ↓dVar, ↓dC, ↓dOp, ↓dUn, ↓dNil, ↓dCons, ↓dTup, ↓dLst, ↓dLstM, ↓dCall, ↓dCallK, ↓pick, ↓dCB, ↓dSeqI, ↓dFor, ↓dRange1, ↓dRange2, ↓dRaise, ↓dRaise0, ↓dIsi, ↓dIsi2, ↓oAdd, ↓oSubI, ↓oMulI, ↓oDivI, ↓oModI, ↓oPowI, ↓oSubB, ↓oCmpI, ↓oNeg, ↓oEq, ↓oNe, ↓oIsN, ↓oNotN, ↓oIsB, ↓oIx, ↓cLen, ↓lenQ, ↓D.len?, ↓cAbs, ↓cInt, ↓cMax2, ↓cMin2, ↓cGcd, ↓cSum, ↓cStr, ↓okEq_int, ↓okEq_bl, ↓okEq_non, ↓eqD_int, ↓eqD_bl, ↓eqD_intTup, ↓atI0, ↓atI1, ↓atI2, ↓atI3, ↓ty_int, ↓ty_bl, ↓ty_non, ↓ty_str, ↓ty_tup, ↓ty_lst, ↓endsOf, List.length_cons, List.length_nil, List.map_cons, List.map_nil, Bool.not_true, Bool.not_false, Bool.true_and, Bool.and_true, Bool.false_and, Bool.or_true, Bool.true_or, Bool.false_or, Bool.or_false, ite_true, ite_false, if_true, if_false, Bool.false_eq_true, reduceCtorEq, decide_true, decide_false, true_and, and_true, Bool.not_not, Option.isSome_some, if_false_left, decide_eq_true_eq, Bool.decide_eq_true, ↓isT_non_non, ↓isT_non_bool, ↓isT_non_int, ↓isT_non_str, ↓isT_non_tuple, ↓isT_non_list, ↓isT_non_dict, ↓isT_bool_non, ↓isT_bool_bool, ↓isT_bool_int, ↓isT_bool_str, ↓isT_bool_tuple, ↓isT_bool_list, ↓isT_bool_dict, ↓isT_int_non, ↓isT_int_bool, ↓isT_int_int, ↓isT_int_str, ↓isT_int_tuple, ↓isT_int_list, ↓isT_int_dict, ↓isT_str_non, ↓isT_str_bool, ↓isT_str_int, ↓isT_str_str, ↓isT_str_tuple, ↓isT_str_list, ↓isT_str_dict, ↓isT_tuple_non, ↓isT_tuple_bool, ↓isT_tuple_int, ↓isT_tuple_str, ↓isT_tuple_tuple, ↓isT_tuple_list, ↓isT_tuple_dict, ↓isT_list_non, ↓isT_list_bool, ↓isT_list_int, ↓isT_list_str, ↓isT_list_tuple, ↓isT_list_list, ↓isT_list_dict, ↓isT_dict_non, ↓isT_dict_bool, ↓isT_dict_int, ↓isT_dict_str, ↓isT_dict_tuple, ↓isT_dict_list, ↓isT_dict_dict, ↓slot_0, ↓slot_1, ↓slot_2, ↓slot_3, ↓slot_4, ↓slot_5, ↓slot_6, ↓slot_7, ↓slot_8, ↓slot_9, ↓slot_10, ↓slot_11, ↓slot_12, ↓slot_13, ↓slot_14, ↓slot_15, ↓slot_16, ↓slot_17, ↓set_0, ↓set_1, ↓set_2, ↓set_3, ↓set_4, ↓set_5, ↓set_6, ↓set_7, ↓set_8, ↓set_9, ↓set_10, ↓set_11, ↓set_12, ↓set_13, ↓set_14, ↓set_15, ↓set_16, ↓set_17, ↓D.isNon]; exact hR
    · simp only [↓dSeq_eq, ↓wnx_nx, ↓wnx_rt, ↓wnx_bk, ↓wnx_ct, ↓wnx_ex, ↓wlp_nx, ↓wlp_rt, ↓wlp_bk, ↓wlp_ct, ↓wlp_ex, ↓wex_nx, ↓wex_rt, ↓wex_bk, ↓wex_ct, ↓wex_ex, ↓en_nx, ↓en_rt, ↓en_ex, ↓forGo_nil, ↓forGo_cons, ↓dNext, ↓dBreak, ↓dCont, ↓dDrop, ↓dRet, ↓dRetN, ↓dIfS, ↓hName, ↓hNil, ↓hCons, ↓hTup, ↓dAsg, ↓dPar, ↓dTest, ↓dAnd, ↓dOr, ↓dNot, ↓dAndV, ↓dOrV, ↓dNotV, ↓dIf, ↓dVar, ↓dC, ↓dOp, ↓dUn, ↓dNil, ↓dCons, ↓dTup, ↓dLst, ↓dLstM, ↓dCall, ↓dCallK, ↓pick, ↓dCB, ↓dSeqI, ↓dFor, ↓dRange1, ↓dRange2, ↓dRaise, ↓dRaise0, ↓dIsi, ↓dIsi2, ↓oAdd, ↓oSubI, ↓oMulI, ↓oDivI, ↓oModI, ↓oPowI, ↓oSubB, ↓oCmpI, ↓oNeg, ↓oEq, ↓oNe, ↓oIsN, ↓oNotN, ↓oIsB, ↓oIx, ↓cLen, ↓lenQ, ↓D.len?, ↓cAbs, ↓cInt, ↓cMax2, ↓cMin2, ↓cGcd, ↓cSum, ↓cStr, ↓okEq_int, ↓okEq_bl, ↓okEq_non, ↓eqD_int, ↓eqD_bl, ↓eqD_intTup, ↓atI0, ↓atI1, ↓atI2, ↓atI3, ↓ty_int, ↓ty_bl, ↓ty_non, ↓ty_str, ↓ty_tup, ↓ty_lst, ↓endsOf, List.length_cons, List.length_nil, List.map_cons, List.map_nil, Bool.not_true, Bool.not_false, Bool.true_and, Bool.and_true, Bool.false_and, Bool.or_true, Bool.true_or, Bool.false_or, Bool.or_false, ite_true, ite_false, if_true, if_false, Bool.false_eq_true, reduceCtorEq, decide_true, decide_false, true_and, and_true, Bool.not_not, Option.isSome_some, if_false_left, decide_eq_true_eq, Bool.decide_eq_true, ↓isT_non_non, ↓isT_non_bool, ↓isT_non_int, ↓isT_non_str, ↓isT_non_tuple, ↓isT_non_list, ↓isT_non_dict, ↓isT_bool_non, ↓isT_bool_bool, ↓isT_bool_int, ↓isT_bool_str, ↓isT_bool_tuple, ↓isT_bool_list, ↓isT_bool_dict, ↓isT_int_non, ↓isT_int_bool, ↓isT_int_int, ↓isT_int_str, ↓isT_int_tuple, ↓isT_int_list, ↓isT_int_dict, ↓isT_str_non, ↓isT_str_bool, ↓isT_str_int, ↓isT_str_str, ↓isT_str_tuple, ↓isT_str_list, ↓isT_str_dict, ↓isT_tuple_non, ↓isT_tuple_bool, ↓isT_tuple_int, ↓isT_tuple_str, ↓isT_tuple_tuple, ↓isT_tuple_list, ↓isT_tuple_dict, ↓isT_list_non, ↓isT_list_bool, ↓isT_list_int, ↓isT_list_str, ↓isT_list_tuple, ↓isT_list_list, ↓isT_list_dict, ↓isT_dict_non, ↓isT_dict_bool, ↓isT_dict_int, ↓isT_dict_str, ↓isT_dict_tuple, ↓isT_dict_list, ↓isT_dict_dict, ↓slot_0, ↓slot_1, ↓slot_2, ↓slot_3, ↓slot_4, ↓slot_5, ↓slot_6, ↓slot_7, ↓slot_8, ↓slot_9, ↓slot_10, ↓slot_11, ↓slot_12, ↓slot_13, ↓slot_14, ↓slot_15, ↓slot_16, ↓slot_17, ↓set_0, ↓set_1, ↓set_2, ↓set_3, ↓set_4, ↓set_5, ↓set_6, ↓set_7, ↓set_8, ↓set_9, ↓set_10, ↓set_11, ↓set_12, ↓set_13, ↓set_14, ↓set_15, ↓set_16, ↓set_17]; exact hR
    · simp only [↓dSeq_eq, ↓wnx_nx, ↓wnx_rt, ↓wnx_bk, ↓wnx_ct, ↓wnx_ex, ↓wlp_nx, ↓wlp_rt, ↓wlp_bk, ↓wlp_ct, ↓wlp_ex, ↓wex_nx, ↓wex_rt, ↓wex_bk, ↓wex_ct, ↓wex_ex, ↓en_nx, ↓en_rt, ↓en_ex, ↓forGo_nil, ↓forGo_cons, ↓dNext, ↓dBreak, ↓dCont, ↓dDrop, ↓dRet, ↓dRetN, ↓dIfS, ↓hName, ↓hNil, ↓hCons, ↓hTup, ↓dAsg, ↓dPar, ↓dTest, ↓dAnd, ↓dOr, ↓dNot, ↓dAndV, ↓dOrV, ↓dNotV, ↓dIf, ↓dVar, ↓dC, ↓dOp, ↓dUn, ↓dNil, ↓dCons, ↓dTup, ↓dLst, ↓dLstM, ↓dCall, ↓dCallK, ↓pick, ↓dCB, ↓dSeqI, ↓dFor, ↓dRange1, ↓dRange2, ↓dRaise, ↓dRaise0, ↓dIsi, ↓dIsi2, ↓oAdd, ↓oSubI, ↓oMulI, ↓oDivI, ↓oModI, ↓oPowI, ↓oSubB, ↓oCmpI, ↓oNeg, ↓oEq, ↓oNe, ↓oIsN, ↓oNotN, ↓oIsB, ↓oIx, ↓cLen, ↓lenQ, ↓D.len?, ↓cAbs, ↓cInt, ↓cMax2, ↓cMin2, ↓cGcd, ↓cSum, ↓cStr, ↓okEq_int, ↓okEq_bl, ↓okEq_non, ↓eqD_int, ↓eqD_bl, ↓eqD_intTup, ↓atI0, ↓atI1, ↓atI2, ↓atI3, ↓ty_int, ↓ty_bl, ↓ty_non, ↓ty_str, ↓ty_tup, ↓ty_lst, ↓endsOf, List.length_cons, List.length_nil, List.map_cons, List.map_nil, Bool.not_true, Bool.not_false, Bool.true_and, Bool.and_true, Bool.false_and, Bool.or_true, Bool.true_or, Bool.false_or, Bool.or_false, ite_true, ite_false, if_true, if_false, Bool.false_eq_true, reduceCtorEq, decide_true, decide_false, true_and, and_true, Bool.not_not, Option.isSome_some, if_false_left, decide_eq_true_eq, Bool.decide_eq_true, ↓isT_non_non, ↓isT_non_bool, ↓isT_non_int, ↓isT_non_str, ↓isT_non_tuple, ↓isT_non_list, ↓isT_non_dict, ↓isT_bool_non, ↓isT_bool_bool, ↓isT_bool_int, ↓isT_bool_str, ↓isT_bool_tuple, ↓isT_bool_list, ↓isT_bool_dict, ↓isT_int_non, ↓isT_int_bool, ↓isT_int_int, ↓isT_int_str, ↓isT_int_tuple, ↓isT_int_list, ↓isT_int_dict, ↓isT_str_non, ↓isT_str_bool, ↓isT_str_int, ↓isT_str_str, ↓isT_str_tuple, ↓isT_str_list, ↓isT_str_dict, ↓isT_tuple_non, ↓isT_tuple_bool, ↓isT_tuple_int, ↓isT_tuple_str, ↓isT_tuple_tuple, ↓isT_tuple_list, ↓isT_tuple_dict, ↓isT_list_non, ↓isT_list_bool, ↓isT_list_int, ↓isT_list_str, ↓isT_list_tuple, ↓isT_list_list, ↓isT_list_dict, ↓isT_dict_non, ↓isT_dict_bool, ↓isT_dict_int, ↓isT_dict_str, ↓isT_dict_tuple, ↓isT_dict_list, ↓isT_dict_dict, ↓slot_0, ↓slot_1, ↓slot_2, ↓slot_3, ↓slot_4, ↓slot_5, ↓slot_6, ↓slot_7, ↓slot_8, ↓slot_9, ↓slot_10, ↓slot_11, ↓slot_12, ↓slot_13, ↓slot_14, ↓slot_15, ↓slot_16, ↓slot_17, ↓set_0, ↓set_1, ↓set_2, ↓set_3, ↓set_4, ↓set_5, ↓set_6, ↓set_7, ↓set_8, ↓set_9, ↓set_10, ↓set_11, ↓set_12, ↓set_13, ↓set_14, ↓set_15, ↓set_16, ↓set_17]; exact hR
    · simp only [↓dSeq_eq, ↓wnx_nx, ↓wnx_rt, ↓wnx_bk, ↓wnx_ct, ↓wnx_ex, ↓wlp_nx, ↓wlp_rt, ↓wlp_bk, ↓wlp_ct, ↓wlp_ex, ↓wex_nx, ↓wex_rt, ↓wex_bk, ↓wex_ct, ↓wex_ex, ↓en_nx, ↓en_rt, ↓en_ex, ↓forGo_nil, ↓forGo_cons, ↓dNext, ↓dBreak, ↓dCont, ↓dDrop, ↓dRet, ↓dRetN, ↓dIfS, ↓hName, ↓hNil, ↓hCons, ↓hTup, ↓dAsg, ↓dPar, ↓dTest, ↓dAnd, ↓dOr, ↓dNot, ↓dAndV, ↓dOrV, ↓dNotV, ↓dIf, ↓dVar, ↓dC, ↓dOp, ↓dUn, ↓dNil, ↓dCons, ↓dTup, ↓dLst, ↓dLstM, ↓dCall, ↓dCallK, ↓pick, ↓dCB, ↓dSeqI, ↓dFor, ↓dRange1, ↓dRange2, ↓dRaise, ↓dRaise0, ↓dIsi, ↓dIsi2, ↓oAdd, ↓oSubI, ↓oMulI, ↓oDivI, ↓oModI, ↓oPowI, ↓oSubB, ↓oCmpI, ↓oNeg, ↓oEq, ↓oNe, ↓oIsN, ↓oNotN, ↓oIsB, ↓oIx, ↓cLen, ↓lenQ, ↓D.len?, ↓cAbs, ↓cInt, ↓cMax2, ↓cMin2, ↓cGcd, ↓cSum, ↓cStr, ↓okEq_int, ↓okEq_bl, ↓okEq_non, ↓eqD_int, ↓eqD_bl, ↓eqD_intTup, ↓atI0, ↓atI1, ↓atI2, ↓atI3, ↓ty_int, ↓ty_bl, ↓ty_non, ↓ty_str, ↓ty_tup, ↓ty_lst, ↓endsOf, List.length_cons, List.length_nil, List.map_cons, List.map_nil, Bool.not_true, Bool.not_false, Bool.true_and, Bool.and_true, Bool.false_and, Bool.or_true, Bool.true_or, Bool.false_or, Bool.or_false, ite_true, ite_false, if_true, if_false, Bool.false_eq_true, reduceCtorEq, decide_true, decide_false, true_and, and_true, Bool.not_not, Option.isSome_some, if_false_left, decide_eq_true_eq, Bool.decide_eq_true, ↓isT_non_non, ↓isT_non_bool, ↓isT_non_int, ↓isT_non_str, ↓isT_non_tuple, ↓isT_non_list, ↓isT_non_dict, ↓isT_bool_non, ↓isT_bool_bool, ↓isT_bool_int, ↓isT_bool_str, ↓isT_bool_tuple, ↓isT_bool_list, ↓isT_bool_dict, ↓isT_int_non, ↓isT_int_bool, ↓isT_int_int, ↓isT_int_str, ↓isT_int_tuple, ↓isT_int_list, ↓isT_int_dict, ↓isT_str_non, ↓isT_str_bool, ↓isT_str_int, ↓isT_str_str, ↓isT_str_tuple, ↓isT_str_list, ↓isT_str_dict, ↓isT_tuple_non, ↓isT_tuple_bool, ↓isT_tuple_int, ↓isT_tuple_str, ↓isT_tuple_tuple, ↓isT_tuple_list, ↓isT_tuple_dict, ↓isT_list_non, ↓isT_list_bool, ↓isT_list_int, ↓isT_list_str, ↓isT_list_tuple, ↓isT_list_list, ↓isT_list_dict, ↓isT_dict_non, ↓isT_dict_bool, ↓isT_dict_int, ↓isT_dict_str, ↓isT_dict_tuple, ↓isT_dict_list, ↓isT_dict_dict, ↓slot_0, ↓slot_1, ↓slot_2, ↓slot_3, ↓slot_4, ↓slot_5, ↓slot_6, ↓slot_7, ↓slot_8, ↓slot_9, ↓slot_10, ↓slot_11, ↓slot_12, ↓slot_13, ↓slot_14, ↓slot_15, ↓slot_16, ↓slot_17, ↓set_0, ↓set_1, ↓set_2, ↓set_3, ↓set_4, ↓set_5, ↓set_6, ↓set_7, ↓set_8, ↓set_9, ↓set_10, ↓set_11, ↓set_12, ↓set_13, ↓set_14, ↓set_15, ↓set_16, ↓set_17, e]; exact ⟨_, .refl _, q⟩
  · have hn1 : 1 ≤ n := by omega
    unfold t_law_same
    refine skip_if (fun R E hR => ?_) (skip_if (fun R E hR => ?_) (skip_if (fun R E hR => ?_) (skip_if (fun R E hR => ?_) (skip_if (fun R E hR => ?_) (skip_if (fun R E hR => ?_) (skip_if (fun R E hR => ?_) ?_))))))
    · simp only [↓dSeq_eq, ↓wnx_nx, ↓wnx_rt, ↓wnx_bk, ↓wnx_ct, ↓wnx_ex, ↓wlp_nx, ↓wlp_rt, ↓wlp_bk, ↓wlp_ct, ↓wlp_ex, ↓wex_nx, ↓wex_rt, ↓wex_bk, ↓wex_ct, ↓wex_ex, ↓en_nx, ↓en_rt, ↓en_ex, ↓forGo_nil, ↓forGo_cons, ↓dNext, ↓dBreak, ↓dCont, ↓dDrop, ↓dRet, ↓dRetN, ↓dIfS, ↓hName, ↓hNil, ↓hCons, ↓hTup, ↓dAsg, ↓dPar, ↓dTest, ↓dAnd, ↓dOr, ↓dNot, ↓dAndV, ↓dOrV, ↓dNotV, ↓dIf, ↓dVar, ↓dC, ↓dOp, ↓dUn, ↓dNil, ↓dCons, ↓dTup, ↓dLst, ↓dLstM, ↓dCall, ↓dCallK, ↓pick, ↓dCB, ↓dSeqI, ↓dFor, ↓dRange1, ↓dRange2, ↓dRaise, ↓dRaise0, ↓dIsi, ↓dIsi2, ↓oAdd, ↓oSubI, ↓oMulI, ↓oDivI, ↓oModI, ↓oPowI, ↓oSubB, ↓oCmpI, ↓oNeg, ↓oEq, ↓oNe, ↓oIsN, ↓oNotN, ↓oIsB, ↓oIx, ↓cLen, ↓lenQ, ↓D.len?, ↓cAbs, ↓cInt, ↓cMax2, ↓cMin2, ↓cGcd, ↓cSum, ↓cStr, ↓okEq_int, ↓okEq_bl, ↓okEq_non, ↓eqD_int, ↓eqD_bl, ↓eqD_intTup, ↓atI0, ↓atI1, ↓atI2, ↓atI3, ↓ty_int, ↓ty_bl, ↓ty_non, ↓ty_str, ↓ty_tup, ↓ty_lst, ↓endsOf, List.length_cons, List.length_nil, List.map_cons, List.map_nil, Bool.not_true, Bool.not_false, Bool.true_and, Bool.and_true, Bool.false_and, Bool.or_true, Bool.true_or, Bool.false_or, Bool.or_false, ite_true, ite_false, if_true, if_false, Bool.false_eq_true, reduceCtorEq, decide_true, decide_false, true_and, and_true, Bool.not_not, Option.isSome_some, if_false_left, decide_eq_true_eq, Bool.decide_eq_true, ↓isT_non_non, ↓isT_non_bool, ↓isT_non_int, ↓isT_non_str, ↓isT_non_tuple, ↓isT_non_list, ↓isT_non_dict, ↓isT_bool_non, ↓isT_bool_bool, ↓isT_bool_int, ↓isT_bool_str, ↓isT_bool_tuple, ↓isT_bool_list, ↓isT_bool_dict, ↓isT_int_non, ↓isT_int_bool, ↓isT_int_int, ↓isT_int_str, ↓isT_int_tuple, ↓isT_int_list, ↓isT_int_dict, ↓isT_str_non, ↓isT_str_bool, ↓isT_str_int, ↓isT_str_str, ↓isT_str_tuple, ↓isT_str_list, ↓isT_str_dict, ↓isT_tuple_non, ↓isT_tuple_bool, ↓isT_tuple_int, ↓isT_tuple_str, ↓isT_tuple_tuple, ↓isT_tuple_list, ↓isT_tuple_dict, ↓isT_list_non, ↓isT_list_bool, ↓isT_list_int, ↓isT_list_str, ↓isT_list_tuple, ↓isT_list_list, ↓isT_list_dict, ↓isT_dict_non, ↓isT_dict_bool, ↓isT_dict_int, ↓isT_dict_str, ↓isT_dict_tuple, ↓isT_dict_list, ↓isT_dict_dict, ↓slot_0, ↓slot_1, ↓slot_2, ↓slot_3, ↓slot_4, ↓slot_5, ↓slot_6, ↓slot_7, ↓slot_8, ↓slot_9, ↓slot_10, ↓slot_11, ↓slot_12, ↓slot_13, ↓slot_14, ↓slot_15, ↓slot_16, ↓slot_17, ↓set_0, ↓set_1, ↓set_2, ↓set_3, ↓set_4, ↓set_5, ↓set_6, ↓set_7, ↓set_8, ↓set_9, ↓set_10, ↓set_11, ↓set_12, ↓set_13, ↓set_14, ↓set_15, ↓set_16, ↓set_17, ↓D.isNon]; exact hR
    · simp only [↓dSeq_eq, ↓wnx_nx, ↓wnx_rt, ↓wnx_bk, ↓wnx_ct, ↓wnx_ex, ↓wlp_nx, ↓wlp_rt, ↓wlp_bk, ↓wlp_ct, ↓wlp_ex, ↓wex_nx, ↓wex_rt, ↓wex_bk, ↓wex_ct, ↓wex_ex, ↓en_nx, ↓en_rt, ↓en_ex, ↓forGo_nil, ↓forGo_cons, ↓dNext, ↓dBreak, ↓dCont, ↓dDrop, ↓dRet, ↓dRetN, ↓dIfS, ↓hName, ↓hNil, ↓hCons, ↓hTup, ↓dAsg, ↓dPar, ↓dTest, ↓dAnd, ↓dOr, ↓dNot, ↓dAndV, ↓dOrV, ↓dNotV, ↓dIf, ↓dVar, ↓dC, ↓dOp, ↓dUn, ↓dNil, ↓dCons, ↓dTup, ↓dLst, ↓dLstM, ↓dCall, ↓dCallK, ↓pick, ↓dCB, ↓dSeqI, ↓dFor, ↓dRange1, ↓dRange2, ↓dRaise, ↓dRaise0, ↓dIsi, ↓dIsi2, ↓oAdd, ↓oSubI, ↓oMulI, ↓oDivI, ↓oModI, ↓oPowI, ↓oSubB, ↓oCmpI, ↓oNeg, ↓oEq, ↓oNe, ↓oIsN, ↓oNotN, ↓oIsB, ↓oIx, ↓cLen, ↓lenQ, ↓D.len?, ↓cAbs, ↓cInt, ↓cMax2, ↓cMin2, ↓cGcd, ↓cSum, ↓cStr, ↓okEq_int, ↓okEq_bl, ↓okEq_non, ↓eqD_int, ↓eqD_bl, ↓eqD_intTup, ↓atI0, ↓atI1, ↓atI2, ↓atI3, ↓ty_int, ↓ty_bl, ↓ty_non, ↓ty_str, ↓ty_tup, ↓ty_lst, ↓endsOf, List.length_cons, List.length_nil, List.map_cons, List.map_nil, Bool.not_true, Bool.not_false, Bool.true_and, Bool.and_true, Bool.false_and, Bool.or_true, Bool.true_or, Bool.false_or, Bool.or_false, ite_true, ite_false, if_true, if_false, Bool.false_eq_true, reduceCtorEq, decide_true, decide_false, true_and, and_true, Bool.not_not, Option.isSome_some, if_false_left, decide_eq_true_eq, Bool.decide_eq_true, ↓isT_non_non, ↓isT_non_bool, ↓isT_non_int, ↓isT_non_str, ↓isT_non_tuple, ↓isT_non_list, ↓isT_non_dict, ↓isT_bool_non, ↓isT_bool_bool, ↓isT_bool_int, ↓isT_bool_str, ↓isT_bool_tuple, ↓isT_bool_list, ↓isT_bool_dict, ↓isT_int_non, ↓isT_int_bool, ↓isT_int_int, ↓isT_int_str, ↓isT_int_tuple, ↓isT_int_list, ↓isT_int_dict, ↓isT_str_non, ↓isT_str_bool, ↓isT_str_int, ↓isT_str_str, ↓isT_str_tuple, ↓isT_str_list, ↓isT_str_dict, ↓isT_tuple_non, ↓isT_tuple_bool, ↓isT_tuple_int, ↓isT_tuple_str, ↓isT_tuple_tuple, ↓isT_tuple_list, ↓isT_tuple_dict, ↓isT_list_non, ↓isT_list_bool, ↓isT_list_int, ↓isT_list_str, ↓isT_list_tuple, ↓isT_list_list, ↓isT_list_dict, ↓isT_dict_non, ↓isT_dict_bool, ↓isT_dict_int, ↓isT_dict_str, ↓isT_dict_tuple, ↓isT_dict_list, ↓isT_dict_dict, ↓slot_0, ↓slot_1, ↓slot_2, ↓slot_3, ↓slot_4, ↓slot_5, ↓slot_6, ↓slot_7, ↓slot_8, ↓slot_9, ↓slot_10, ↓slot_11, ↓slot_12, ↓slot_13, ↓slot_14, ↓slot_15, ↓slot_16, ↓slot_17, ↓set_0, ↓set_1, ↓set_2, ↓set_3, ↓set_4, ↓set_5, ↓set_6, ↓set_7, ↓set_8, ↓set_9, ↓set_10, ↓set_11, ↓set_12, ↓set_13, ↓set_14, ↓set_15, ↓set_16, ↓set_17]; exact hR
    · simp only [↓dSeq_eq, ↓wnx_nx, ↓wnx_rt, ↓wnx_bk, ↓wnx_ct, ↓wnx_ex, ↓wlp_nx, ↓wlp_rt, ↓wlp_bk, ↓wlp_ct, ↓wlp_ex, ↓wex_nx, ↓wex_rt, ↓wex_bk, ↓wex_ct, ↓wex_ex, ↓en_nx, ↓en_rt, ↓en_ex, ↓forGo_nil, ↓forGo_cons, ↓dNext, ↓dBreak, ↓dCont, ↓dDrop, ↓dRet, ↓dRetN, ↓dIfS, ↓hName, ↓hNil, ↓hCons, ↓hTup, ↓dAsg, ↓dPar, ↓dTest, ↓dAnd, ↓dOr, ↓dNot, ↓dAndV, ↓dOrV, ↓dNotV, ↓dIf, ↓dVar, ↓dC, ↓dOp, ↓dUn, ↓dNil, ↓dCons, ↓dTup, ↓dLst, ↓dLstM, ↓dCall, ↓dCallK, ↓pick, ↓dCB, ↓dSeqI, ↓dFor, ↓dRange1, ↓dRange2, ↓dRaise, ↓dRaise0, ↓dIsi, ↓dIsi2, ↓oAdd, ↓oSubI, ↓oMulI, ↓oDivI, ↓oModI, ↓oPowI, ↓oSubB, ↓oCmpI, ↓oNeg, ↓oEq, ↓oNe, ↓oIsN, ↓oNotN, ↓oIsB, ↓oIx, ↓cLen, ↓lenQ, ↓D.len?, ↓cAbs, ↓cInt, ↓cMax2, ↓cMin2, ↓cGcd, ↓cSum, ↓cStr, ↓okEq_int, ↓okEq_bl, ↓okEq_non, ↓eqD_int, ↓eqD_bl, ↓eqD_intTup, ↓atI0, ↓atI1, ↓atI2, ↓atI3, ↓ty_int, ↓ty_bl, ↓ty_non, ↓ty_str, ↓ty_tup, ↓ty_lst, ↓endsOf, List.length_cons, List.length_nil, List.map_cons, List.map_nil, Bool.not_true, Bool.not_false, Bool.true_and, Bool.and_true, Bool.false_and, Bool.or_true, Bool.true_or, Bool.false_or, Bool.or_false, ite_true, ite_false, if_true, if_false, Bool.false_eq_true, reduceCtorEq, decide_true, decide_false, true_and, and_true, Bool.not_not, Option.isSome_some, if_false_left, decide_eq_true_eq, Bool.decide_eq_true, ↓isT_non_non, ↓isT_non_bool, ↓isT_non_int, ↓isT_non_str, ↓isT_non_tuple, ↓isT_non_list, ↓isT_non_dict, ↓isT_bool_non, ↓isT_bool_bool, ↓isT_bool_int, ↓isT_bool_str, ↓isT_bool_tuple, ↓isT_bool_list, ↓isT_bool_dict, ↓isT_int_non, ↓isT_int_bool, ↓isT_int_int, ↓isT_int_str, ↓isT_int_tuple, ↓isT_int_list, ↓isT_int_dict, ↓isT_str_non, ↓isT_str_bool, ↓isT_str_int, ↓isT_str_str, ↓isT_str_tuple, ↓isT_str_list, ↓isT_str_dict, ↓isT_tuple_non, ↓isT_tuple_bool, ↓isT_tuple_int, ↓isT_tuple_str, ↓isT_tuple_tuple, ↓isT_tuple_list, ↓isT_tuple_dict, ↓isT_list_non, ↓isT_list_bool, ↓isT_list_int, ↓isT_list_str, ↓isT_list_tuple, ↓isT_list_list, ↓isT_list_dict, ↓isT_dict_non, ↓isT_dict_bool, ↓isT_dict_int, ↓isT_dict_str, ↓isT_dict_tuple, ↓isT_dict_list, ↓isT_dict_dict, ↓slot_0, ↓slot_1, ↓slot_2, ↓slot_3, ↓slot_4, ↓slot_5, ↓slot_6, ↓slot_7, ↓slot_8, ↓slot_9, ↓slot_10, ↓slot_11, ↓slot_12, ↓slot_13, ↓slot_14, ↓slot_15, ↓slot_16, ↓slot_17, ↓set_0, ↓set_1, ↓set_2, ↓set_3, ↓set_4, ↓set_5, ↓set_6, ↓set_7, ↓set_8, ↓set_9, ↓set_10, ↓set_11, ↓set_12, ↓set_13, ↓set_14, ↓set_15, ↓set_16, ↓set_17]; exact hR
    · simp only [↓dSeq_eq, ↓wnx_nx, ↓wnx_rt, ↓wnx_bk, ↓wnx_ct, ↓wnx_ex, ↓wlp_nx, ↓wlp_rt, ↓wlp_bk, ↓wlp_ct, ↓wlp_ex, ↓wex_nx, ↓wex_rt, ↓wex_bk, ↓wex_ct, ↓wex_ex, ↓en_nx, ↓en_rt, ↓en_ex, ↓forGo_nil, ↓forGo_cons, ↓dNext, ↓dBreak, ↓dCont, ↓dDrop, ↓dRet, ↓dRetN, ↓dIfS, ↓hName, ↓hNil, ↓hCons, ↓hTup, ↓dAsg, ↓dPar, ↓dTest, ↓dAnd, ↓dOr, ↓dNot, ↓dAndV, ↓dOrV, ↓dNotV, ↓dIf, ↓dVar, ↓dC, ↓dOp, ↓dUn, ↓dNil, ↓dCons, ↓dTup, ↓dLst, ↓dLstM, ↓dCall, ↓dCallK, ↓pick, ↓dCB, ↓dSeqI, ↓dFor, ↓dRange1, ↓dRange2, ↓dRaise, ↓dRaise0, ↓dIsi, ↓dIsi2, ↓oAdd, ↓oSubI, ↓oMulI, ↓oDivI, ↓oModI, ↓oPowI, ↓oSubB, ↓oCmpI, ↓oNeg, ↓oEq, ↓oNe, ↓oIsN, ↓oNotN, ↓oIsB, ↓oIx, ↓cLen, ↓lenQ, ↓D.len?, ↓cAbs, ↓cInt, ↓cMax2, ↓cMin2, ↓cGcd, ↓cSum, ↓cStr, ↓okEq_int, ↓okEq_bl, ↓okEq_non, ↓eqD_int, ↓eqD_bl, ↓eqD_intTup, ↓atI0, ↓atI1, ↓atI2, ↓atI3, ↓ty_int, ↓ty_bl, ↓ty_non, ↓ty_str, ↓ty_tup, ↓ty_lst, ↓endsOf, List.length_cons, List.length_nil, List.map_cons, List.map_nil, Bool.not_true, Bool.not_false, Bool.true_and, Bool.and_true, Bool.false_and, Bool.or_true, Bool.true_or, Bool.false_or, Bool.or_false, ite_true, ite_false, if_true, if_false, Bool.false_eq_true, reduceCtorEq, decide_true, decide_false, true_and, and_true, Bool.not_not, Option.isSome_some, if_false_left, decide_eq_true_eq, Bool.decide_eq_true, ↓isT_non_non, ↓isT_non_bool, ↓isT_non_int, ↓isT_non_str, ↓isT_non_tuple, ↓isT_non_list, ↓isT_non_dict, ↓isT_bool_non, ↓isT_bool_bool, ↓isT_bool_int, ↓isT_bool_str, ↓isT_bool_tuple, ↓isT_bool_list, ↓isT_bool_dict, ↓isT_int_non, ↓isT_int_bool, ↓isT_int_int, ↓isT_int_str, ↓isT_int_tuple, ↓isT_int_list, ↓isT_int_dict, ↓isT_str_non, ↓isT_str_bool, ↓isT_str_int, ↓isT_str_str, ↓isT_str_tuple, ↓isT_str_list, ↓isT_str_dict, ↓isT_tuple_non, ↓isT_tuple_bool, ↓isT_tuple_int, ↓isT_tuple_str, ↓isT_tuple_tuple, ↓isT_tuple_list, ↓isT_tuple_dict, ↓isT_list_non, ↓isT_list_bool, ↓isT_list_int, ↓isT_list_str, ↓isT_list_tuple, ↓isT_list_list, ↓isT_list_dict, ↓isT_dict_non, ↓isT_dict_bool, ↓isT_dict_int, ↓isT_dict_str, ↓isT_dict_tuple, ↓isT_dict_list, ↓isT_dict_dict, ↓slot_0, ↓slot_1, ↓slot_2, ↓slot_3, ↓slot_4, ↓slot_5, ↓slot_6, ↓slot_7, ↓slot_8, ↓slot_9, ↓slot_10, ↓slot_11, ↓slot_12, ↓slot_13, ↓slot_14, ↓slot_15, ↓slot_16, ↓slot_17, ↓set_0, ↓set_1, ↓set_2, ↓set_3, ↓set_4, ↓set_5, ↓set_6, ↓set_7, ↓set_8, ↓set_9, ↓set_10, ↓set_11, ↓set_12, ↓set_13, ↓set_14, ↓set_15, ↓set_16, ↓set_17]; exact hR
    · simp only [↓dSeq_eq, ↓wnx_nx, ↓wnx_rt, ↓wnx_bk, ↓wnx_ct, ↓wnx_ex, ↓wlp_nx, ↓wlp_rt, ↓wlp_bk, ↓wlp_ct, ↓wlp_ex, ↓wex_nx, ↓wex_rt, ↓wex_bk, ↓wex_ct, ↓wex_ex, ↓en_nx, ↓en_rt, ↓en_ex, ↓forGo_nil, ↓forGo_cons, ↓dNext, ↓dBreak, ↓dCont, ↓dDrop, ↓dRet, ↓dRetN, ↓dIfS, ↓hName, ↓hNil, ↓hCons, ↓hTup, ↓dAsg, ↓dPar, ↓dTest, ↓dAnd, ↓dOr, ↓dNot, ↓dAndV, ↓dOrV, ↓dNotV, ↓dIf, ↓dVar, ↓dC, ↓dOp, ↓dUn, ↓dNil, ↓dCons, ↓dTup, ↓dLst, ↓dLstM, ↓dCall, ↓dCallK, ↓pick, ↓dCB, ↓dSeqI, ↓dFor, ↓dRange1, ↓dRange2, ↓dRaise, ↓dRaise0, ↓dIsi, ↓dIsi2, ↓oAdd, ↓oSubI, ↓oMulI, ↓oDivI, ↓oModI, ↓oPowI, ↓oSubB, ↓oCmpI, ↓oNeg, ↓oEq, ↓oNe, ↓oIsN, ↓oNotN, ↓oIsB, ↓oIx, ↓cLen, ↓lenQ, ↓D.len?, ↓cAbs, ↓cInt, ↓cMax2, ↓cMin2, ↓cGcd, ↓cSum, ↓cStr, ↓okEq_int, ↓okEq_bl, ↓okEq_non, ↓eqD_int, ↓eqD_bl, ↓eqD_intTup, ↓atI0, ↓atI1, ↓atI2, ↓atI3, ↓ty_int, ↓ty_bl, ↓ty_non, ↓ty_str, ↓ty_tup, ↓ty_lst, ↓endsOf, List.length_cons, List.length_nil, List.map_cons, List.map_nil, Bool.not_true, Bool.not_false, Bool.true_and, Bool.and_true, Bool.false_and, Bool.or_true, Bool.true_or, Bool.false_or, Bool.or_false, ite_true, ite_false, if_true, if_false, Bool.false_eq_true, reduceCtorEq, decide_true, decide_false, true_and, and_true, Bool.not_not, Option.isSome_some, if_false_left, decide_eq_true_eq, Bool.decide_eq_true, ↓isT_non_non, ↓isT_non_bool, ↓isT_non_int, ↓isT_non_str, ↓isT_non_tuple, ↓isT_non_list, ↓isT_non_dict, ↓isT_bool_non, ↓isT_bool_bool, ↓isT_bool_int, ↓isT_bool_str, ↓isT_bool_tuple, ↓isT_bool_list, ↓isT_bool_dict, ↓isT_int_non, ↓isT_int_bool, ↓isT_int_int, ↓isT_int_str, ↓isT_int_tuple, ↓isT_int_list, ↓isT_int_dict, ↓isT_str_non, ↓isT_str_bool, ↓isT_str_int, ↓isT_str_str, ↓isT_str_tuple, ↓isT_str_list, ↓isT_str_dict, ↓isT_tuple_non, ↓isT_tuple_bool, ↓isT_tuple_int, ↓isT_tuple_str, ↓isT_tuple_tuple, ↓isT_tuple_list, ↓isT_tuple_dict, ↓isT_list_non, ↓isT_list_bool, ↓isT_list_int, ↓isT_list_str, ↓isT_list_tuple, ↓isT_list_list, ↓isT_list_dict, ↓isT_dict_non, ↓isT_dict_bool, ↓isT_dict_int, ↓isT_dict_str, ↓isT_dict_tuple, ↓isT_dict_list, ↓isT_dict_dict, ↓slot_0, ↓slot_1, ↓slot_2, ↓slot_3, ↓slot_4, ↓slot_5, ↓slot_6, ↓slot_7, ↓slot_8, ↓slot_9, ↓slot_10, ↓slot_11, ↓slot_12, ↓slot_13, ↓slot_14, ↓slot_15, ↓slot_16, ↓slot_17, ↓set_0, ↓set_1, ↓set_2, ↓set_3, ↓set_4, ↓set_5, ↓set_6, ↓set_7, ↓set_8, ↓set_9, ↓set_10, ↓set_11, ↓set_12, ↓set_13, ↓set_14, ↓set_15, ↓set_16, ↓set_17]; exact hR
    · simp only [↓dSeq_eq, ↓wnx_nx, ↓wnx_rt, ↓wnx_bk, ↓wnx_ct, ↓wnx_ex, ↓wlp_nx, ↓wlp_rt, ↓wlp_bk, ↓wlp_ct, ↓wlp_ex, ↓wex_nx, ↓wex_rt, ↓wex_bk, ↓wex_ct, ↓wex_ex, ↓en_nx, ↓en_rt, ↓en_ex, ↓forGo_nil, ↓forGo_cons, ↓dNext, ↓dBreak, ↓dCont, ↓dDrop, ↓dRet, ↓dRetN, ↓dIfS, ↓hName, ↓hNil, ↓hCons, ↓hTup, ↓dAsg, ↓dPar, ↓dTest, ↓dAnd, ↓dOr, ↓dNot, ↓dAndV, ↓dOrV, ↓dNotV, ↓dIf, ↓dVar, ↓dC, ↓dOp, ↓dUn, ↓dNil, ↓dCons, ↓dTup, ↓dLst, ↓dLstM, ↓dCall, ↓dCallK, ↓pick, ↓dCB, ↓dSeqI, ↓dFor, ↓dRange1, ↓dRange2, ↓dRaise, ↓dRaise0, ↓dIsi, ↓dIsi2, ↓oAdd, ↓oSubI, ↓oMulI, ↓oDivI, ↓oModI, ↓oPowI, ↓oSubB, ↓oCmpI, ↓oNeg, ↓oEq, ↓oNe, ↓oIsN, ↓oNotN, ↓oIsB, ↓oIx, ↓cLen, ↓lenQ, ↓D.len?, ↓cAbs, ↓cInt, ↓cMax2, ↓cMin2, ↓cGcd, ↓cSum, ↓cStr, ↓okEq_int, ↓okEq_bl, ↓okEq_non, ↓eqD_int, ↓eqD_bl, ↓eqD_intTup, ↓atI0, ↓atI1, ↓atI2, ↓atI3, ↓ty_int, ↓ty_bl, ↓ty_non, ↓ty_str, ↓ty_tup, ↓ty_lst, ↓endsOf, List.length_cons, List.length_nil, List.map_cons, List.map_nil, Bool.not_true, Bool.not_false, Bool.true_and, Bool.and_true, Bool.false_and, Bool.or_true, Bool.true_or, Bool.false_or, Bool.or_false, ite_true, ite_false, if_true, if_false, Bool.false_eq_true, reduceCtorEq, decide_true, decide_false, true_and, and_true, Bool.not_not, Option.isSome_some, if_false_left, decide_eq_true_eq, Bool.decide_eq_true, ↓isT_non_non, ↓isT_non_bool, ↓isT_non_int, ↓isT_non_str, ↓isT_non_tuple, ↓isT_non_list, ↓isT_non_dict, ↓isT_bool_non, ↓isT_bool_bool, ↓isT_bool_int, ↓isT_bool_str, ↓isT_bool_tuple, ↓isT_bool_list, ↓isT_bool_dict, ↓isT_int_non, ↓isT_int_bool, ↓isT_int_int, ↓isT_int_str, ↓isT_int_tuple, ↓isT_int_list, ↓isT_int_dict, ↓isT_str_non, ↓isT_str_bool, ↓isT_str_int, ↓isT_str_str, ↓isT_str_tuple, ↓isT_str_list, ↓isT_str_dict, ↓isT_tuple_non, ↓isT_tuple_bool, ↓isT_tuple_int, ↓isT_tuple_str, ↓isT_tuple_tuple, ↓isT_tuple_list, ↓isT_tuple_dict, ↓isT_list_non, ↓isT_list_bool, ↓isT_list_int, ↓isT_list_str, ↓isT_list_tuple, ↓isT_list_list, ↓isT_list_dict, ↓isT_dict_non, ↓isT_dict_bool, ↓isT_dict_int, ↓isT_dict_str, ↓isT_dict_tuple, ↓isT_dict_list, ↓isT_dict_dict, ↓slot_0, ↓slot_1, ↓slot_2, ↓slot_3, ↓slot_4, ↓slot_5, ↓slot_6, ↓slot_7, ↓slot_8, ↓slot_9, ↓slot_10, ↓slot_11, ↓slot_12, ↓slot_13, ↓slot_14, ↓slot_15, ↓slot_16, ↓slot_17, ↓set_0, ↓set_1, ↓set_2, ↓set_3, ↓set_4, ↓set_5, ↓set_6, ↓set_7, ↓set_8, ↓set_9, ↓set_10, ↓set_11, ↓set_12, ↓set_13, ↓set_14, ↓set_15, ↓set_16, ↓set_17]; exact hR
    · simp only [↓dSeq_eq, ↓wnx_nx, ↓wnx_rt, ↓wnx_bk, ↓wnx_ct, ↓wnx_ex, ↓wlp_nx, ↓wlp_rt, ↓wlp_bk, ↓wlp_ct, ↓wlp_ex, ↓wex_nx, ↓wex_rt, ↓wex_bk, ↓wex_ct, ↓wex_ex, ↓en_nx, ↓en_rt, ↓en_ex, ↓forGo_nil, ↓forGo_cons, ↓dNext, ↓dBreak, ↓dCont, ↓dDrop, ↓dRet, ↓dRetN, ↓dIfS, ↓hName, ↓hNil, ↓hCons, ↓hTup, ↓dAsg, ↓dPar, ↓dTest, ↓dAnd, ↓dOr, ↓dNot, ↓dAndV, ↓dOrV, ↓dNotV, ↓dIf, ↓dVar, ↓dC, ↓dOp, ↓dUn, ↓dNil, ↓dCons, ↓dTup, ↓dLst, ↓dLstM, ↓dCall, ↓dCallK, ↓pick, ↓dCB, ↓dSeqI, ↓dFor, ↓dRange1, ↓dRange2, ↓dRaise, ↓dRaise0, ↓dIsi, ↓dIsi2, ↓oAdd, ↓oSubI, ↓oMulI, ↓oDivI, ↓oModI, ↓oPowI, ↓oSubB, ↓oCmpI, ↓oNeg, ↓oEq, ↓oNe, ↓oIsN, ↓oNotN, ↓oIsB, ↓oIx, ↓cLen, ↓lenQ, ↓D.len?, ↓cAbs, ↓cInt, ↓cMax2, ↓cMin2, ↓cGcd, ↓cSum, ↓cStr, ↓okEq_int, ↓okEq_bl, ↓okEq_non, ↓eqD_int, ↓eqD_bl, ↓eqD_intTup, ↓atI0, ↓atI1, ↓atI2, ↓atI3, ↓ty_int, ↓ty_bl, ↓ty_non, ↓ty_str, ↓ty_tup, ↓ty_lst, ↓endsOf, List.length_cons, List.length_nil, List.map_cons, List.map_nil, Bool.not_true, Bool.not_false, Bool.true_and, Bool.and_true, Bool.false_and, Bool.or_true, Bool.true_or, Bool.false_or, Bool.or_false, ite_true, ite_false, if_true, if_false, Bool.false_eq_true, reduceCtorEq, decide_true, decide_false, true_and, and_true, Bool.not_not, Option.isSome_some, if_false_left, decide_eq_true_eq, Bool.decide_eq_true, ↓isT_non_non, ↓isT_non_bool, ↓isT_non_int, ↓isT_non_str, ↓isT_non_tuple, ↓isT_non_list, ↓isT_non_dict, ↓isT_bool_non, ↓isT_bool_bool, ↓isT_bool_int, ↓isT_bool_str, ↓isT_bool_tuple, ↓isT_bool_list, ↓isT_bool_dict, ↓isT_int_non, ↓isT_int_bool, ↓isT_int_int, ↓isT_int_str, ↓isT_int_tuple, ↓isT_int_list, ↓isT_int_dict, ↓isT_str_non, ↓isT_str_bool, ↓isT_str_int, ↓isT_str_str, ↓isT_str_tuple, ↓isT_str_list, ↓isT_str_dict, ↓isT_tuple_non, ↓isT_tuple_bool, ↓isT_tuple_int, ↓isT_tuple_str, ↓isT_tuple_tuple, ↓isT_tuple_list, ↓isT_tuple_dict, ↓isT_list_non, ↓isT_list_bool, ↓isT_list_int, ↓isT_list_str, ↓isT_list_tuple, ↓isT_list_list, ↓isT_list_dict, ↓isT_dict_non, ↓isT_dict_bool, ↓isT_dict_int, ↓isT_dict_str, ↓isT_dict_tuple, ↓isT_dict_list, ↓isT_dict_dict, ↓slot_0, ↓slot_1, ↓slot_2, ↓slot_3, ↓slot_4, ↓slot_5, ↓slot_6, ↓slot_7, ↓slot_8, ↓slot_9, ↓slot_10, ↓slot_11, ↓slot_12, ↓slot_13, ↓slot_14, ↓slot_15, ↓slot_16, ↓slot_17, ↓set_0, ↓set_1, ↓set_2, ↓set_3, ↓set_4, ↓set_5, ↓set_6, ↓set_7, ↓set_8, ↓set_9, ↓set_10, ↓set_11, ↓set_12, ↓set_13, ↓set_14, ↓set_15, ↓set_16, ↓set_17, ne_eq, not_true_eq_false]; exact hR
    simp only [↓dSeq_eq, ↓wnx_nx, ↓wnx_rt, ↓wnx_bk, ↓wnx_ct, ↓wnx_ex, ↓wlp_nx, ↓wlp_rt, ↓wlp_bk, ↓wlp_ct, ↓wlp_ex, ↓wex_nx, ↓wex_rt, ↓wex_bk, ↓wex_ct, ↓wex_ex, ↓en_nx, ↓en_rt, ↓en_ex, ↓forGo_nil, ↓forGo_cons, ↓dNext, ↓dBreak, ↓dCont, ↓dDrop, ↓dRet, ↓dRetN, ↓dIfS, ↓hName, ↓hNil, ↓hCons, ↓hTup, ↓dAsg, ↓dPar, ↓dTest, ↓dAnd, ↓dOr, ↓dNot, ↓dAndV, ↓dOrV, ↓dNotV, ↓dIf, ↓dVar, ↓dC, ↓dOp, ↓dUn, ↓dNil, ↓dCons, ↓dTup, ↓dLst, ↓dLstM, ↓dCall, ↓dCallK, ↓pick, ↓dCB, ↓dSeqI, ↓dFor, ↓dRange1, ↓dRange2, ↓dRaise, ↓dRaise0, ↓dIsi, ↓dIsi2, ↓oAdd, ↓oSubI, ↓oMulI, ↓oDivI, ↓oModI, ↓oPowI, ↓oSubB, ↓oCmpI, ↓oNeg, ↓oEq, ↓oNe, ↓oIsN, ↓oNotN, ↓oIsB, ↓oIx, ↓cLen, ↓lenQ, ↓D.len?, ↓cAbs, ↓cInt, ↓cMax2, ↓cMin2, ↓cGcd, ↓cSum, ↓cStr, ↓okEq_int, ↓okEq_bl, ↓okEq_non, ↓eqD_int, ↓eqD_bl, ↓eqD_intTup, ↓atI0, ↓atI1, ↓atI2, ↓atI3, ↓ty_int, ↓ty_bl, ↓ty_non, ↓ty_str, ↓ty_tup, ↓ty_lst, ↓endsOf, List.length_cons, List.length_nil, List.map_cons, List.map_nil, Bool.not_true, Bool.not_false, Bool.true_and, Bool.and_true, Bool.false_and, Bool.or_true, Bool.true_or, Bool.false_or, Bool.or_false, ite_true, ite_false, if_true, if_false, Bool.false_eq_true, reduceCtorEq, decide_true, decide_false, true_and, and_true, Bool.not_not, Option.isSome_some, if_false_left, decide_eq_true_eq, Bool.decide_eq_true, ↓isT_non_non, ↓isT_non_bool, ↓isT_non_int, ↓isT_non_str, ↓isT_non_tuple, ↓isT_non_list, ↓isT_non_dict, ↓isT_bool_non, ↓isT_bool_bool, ↓isT_bool_int, ↓isT_bool_str, ↓isT_bool_tuple, ↓isT_bool_list, ↓isT_bool_dict, ↓isT_int_non, ↓isT_int_bool, ↓isT_int_int, ↓isT_int_str, ↓isT_int_tuple, ↓isT_int_list, ↓isT_int_dict, ↓isT_str_non, ↓isT_str_bool, ↓isT_str_int, ↓isT_str_str, ↓isT_str_tuple, ↓isT_str_list, ↓isT_str_dict, ↓isT_tuple_non, ↓isT_tuple_bool, ↓isT_tuple_int, ↓isT_tuple_str, ↓isT_tuple_tuple, ↓isT_tuple_list, ↓isT_tuple_dict, ↓isT_list_non, ↓isT_list_bool, ↓isT_list_int, ↓isT_list_str, ↓isT_list_tuple, ↓isT_list_list, ↓isT_list_dict, ↓isT_dict_non, ↓isT_dict_bool, ↓isT_dict_int, ↓isT_dict_str, ↓isT_dict_tuple, ↓isT_dict_list, ↓isT_dict_dict, ↓slot_0, ↓slot_1, ↓slot_2, ↓slot_3, ↓slot_4, ↓slot_5, ↓slot_6, ↓slot_7, ↓slot_8, ↓slot_9, ↓slot_10, ↓slot_11, ↓slot_12, ↓slot_13, ↓slot_14, ↓slot_15, ↓slot_16, ↓slot_17, ↓set_0, ↓set_1, ↓set_2, ↓set_3, ↓set_4, ↓set_5, ↓set_6, ↓set_7, ↓set_8, ↓set_9, ↓set_10, ↓set_11, ↓set_12, ↓set_13, ↓set_14, ↓set_15, ↓set_16, ↓set_17, ↓dLc]
    refine ⟨by decide, by decide, ?_⟩
    show lcGo (.one 2) _ _ _ _ [.int 0, .int 1] _ _ _
    unfold lcGo
    simp only [↓dSeq_eq, ↓wnx_nx, ↓wnx_rt, ↓wnx_bk, ↓wnx_ct, ↓wnx_ex, ↓wlp_nx, ↓wlp_rt, ↓wlp_bk, ↓wlp_ct, ↓wlp_ex, ↓wex_nx, ↓wex_rt, ↓wex_bk, ↓wex_ct, ↓wex_ex, ↓en_nx, ↓en_rt, ↓en_ex, ↓forGo_nil, ↓forGo_cons, ↓dNext, ↓dBreak, ↓dCont, ↓dDrop, ↓dRet, ↓dRetN, ↓dIfS, ↓hName, ↓hNil, ↓hCons, ↓hTup, ↓dAsg, ↓dPar, ↓dTest, ↓dAnd, ↓dOr, ↓dNot, ↓dAndV, ↓dOrV, ↓dNotV, ↓dIf, ↓dVar, ↓dC, ↓dOp, ↓dUn, ↓dNil, ↓dCons, ↓dTup, ↓dLst, ↓dLstM, ↓dCall, ↓dCallK, ↓pick, ↓dCB, ↓dSeqI, ↓dFor, ↓dRange1, ↓dRange2, ↓dRaise, ↓dRaise0, ↓dIsi, ↓dIsi2, ↓oAdd, ↓oSubI, ↓oMulI, ↓oDivI, ↓oModI, ↓oPowI, ↓oSubB, ↓oCmpI, ↓oNeg, ↓oEq, ↓oNe, ↓oIsN, ↓oNotN, ↓oIsB, ↓oIx, ↓cLen, ↓lenQ, ↓D.len?, ↓cAbs, ↓cInt, ↓cMax2, ↓cMin2, ↓cGcd, ↓cSum, ↓cStr, ↓okEq_int, ↓okEq_bl, ↓okEq_non, ↓eqD_int, ↓eqD_bl, ↓eqD_intTup, ↓atI0, ↓atI1, ↓atI2, ↓atI3, ↓ty_int, ↓ty_bl, ↓ty_non, ↓ty_str, ↓ty_tup, ↓ty_lst, ↓endsOf, List.length_cons, List.length_nil, List.map_cons, List.map_nil, Bool.not_true, Bool.not_false, Bool.true_and, Bool.and_true, Bool.false_and, Bool.or_true, Bool.true_or, Bool.false_or, Bool.or_false, ite_true, ite_false, if_true, if_false, Bool.false_eq_true, reduceCtorEq, decide_true, decide_false, true_and, and_true, Bool.not_not, Option.isSome_some, if_false_left, decide_eq_true_eq, Bool.decide_eq_true, ↓isT_non_non, ↓isT_non_bool, ↓isT_non_int, ↓isT_non_str, ↓isT_non_tuple, ↓isT_non_list, ↓isT_non_dict, ↓isT_bool_non, ↓isT_bool_bool, ↓isT_bool_int, ↓isT_bool_str, ↓isT_bool_tuple, ↓isT_bool_list, ↓isT_bool_dict, ↓isT_int_non, ↓isT_int_bool, ↓isT_int_int, ↓isT_int_str, ↓isT_int_tuple, ↓isT_int_list, ↓isT_int_dict, ↓isT_str_non, ↓isT_str_bool, ↓isT_str_int, ↓isT_str_str, ↓isT_str_tuple, ↓isT_str_list, ↓isT_str_dict, ↓isT_tuple_non, ↓isT_tuple_bool, ↓isT_tuple_int, ↓isT_tuple_str, ↓isT_tuple_tuple, ↓isT_tuple_list, ↓isT_tuple_dict, ↓isT_list_non, ↓isT_list_bool, ↓isT_list_int, ↓isT_list_str, ↓isT_list_tuple, ↓isT_list_list, ↓isT_list_dict, ↓isT_dict_non, ↓isT_dict_bool, ↓isT_dict_int, ↓isT_dict_str, ↓isT_dict_tuple, ↓isT_dict_list, ↓isT_dict_dict, ↓slot_0, ↓slot_1, ↓slot_2, ↓slot_3, ↓slot_4, ↓slot_5, ↓slot_6, ↓slot_7, ↓slot_8, ↓slot_9, ↓slot_10, ↓slot_11, ↓slot_12, ↓slot_13, ↓slot_14, ↓slot_15, ↓slot_16, ↓slot_17, ↓set_0, ↓set_1, ↓set_2, ↓set_3, ↓set_4, ↓set_5, ↓set_6, ↓set_7, ↓set_8, ↓set_9, ↓set_10, ↓set_11, ↓set_12, ↓set_13, ↓set_14, ↓set_15, ↓set_16, ↓set_17, ↓LcT.put, ↓wipeD]
    refine ⟨_, _, rfl, hn, .inr (.inl ⟨_, _, rfl, rfl, hn1, ?_⟩)⟩
    unfold lcGo
    have fin : ∀ (S : DS) (acc : List D) (R : List D → Mst → Prop), lcGo (.one 2) (dNot (dTest (dCall (sp_same n) (dCons (dOp oIx (dVar 0) (dVar 2)) (dCons (dOp oIx (dVar 1) (dVar 2)) dNil))))) (dVar 2) [some (.tup [.int a, .int b]), some (.tup [.int c, .int d]), none, none] [2] [] M acc R = R acc M := fun _ _ _ => rfl
    by_cases h2 : a = c
    · simp only [↓dSeq_eq, ↓wnx_nx, ↓wnx_rt, ↓wnx_bk, ↓wnx_ct, ↓wnx_ex, ↓wlp_nx, ↓wlp_rt, ↓wlp_bk, ↓wlp_ct, ↓wlp_ex, ↓wex_nx, ↓wex_rt, ↓wex_bk, ↓wex_ct, ↓wex_ex, ↓en_nx, ↓en_rt, ↓en_ex, ↓forGo_nil, ↓forGo_cons, ↓dNext, ↓dBreak, ↓dCont, ↓dDrop, ↓dRet, ↓dRetN, ↓dIfS, ↓hName, ↓hNil, ↓hCons, ↓hTup, ↓dAsg, ↓dPar, ↓dTest, ↓dAnd, ↓dOr, ↓dNot, ↓dAndV, ↓dOrV, ↓dNotV, ↓dIf, ↓dVar, ↓dC, ↓dOp, ↓dUn, ↓dNil, ↓dCons, ↓dTup, ↓dLst, ↓dLstM, ↓dCall, ↓dCallK, ↓pick, ↓dCB, ↓dSeqI, ↓dFor, ↓dRange1, ↓dRange2, ↓dRaise, ↓dRaise0, ↓dIsi, ↓dIsi2, ↓oAdd, ↓oSubI, ↓oMulI, ↓oDivI, ↓oModI, ↓oPowI, ↓oSubB, ↓oCmpI, ↓oNeg, ↓oEq, ↓oNe, ↓oIsN, ↓oNotN, ↓oIsB, ↓oIx, ↓cLen, ↓lenQ, ↓D.len?, ↓cAbs, ↓cInt, ↓cMax2, ↓cMin2, ↓cGcd, ↓cSum, ↓cStr, ↓okEq_int, ↓okEq_bl, ↓okEq_non, ↓eqD_int, ↓eqD_bl, ↓eqD_intTup, ↓atI0, ↓atI1, ↓atI2, ↓atI3, ↓ty_int, ↓ty_bl, ↓ty_non, ↓ty_str, ↓ty_tup, ↓ty_lst, ↓endsOf, List.length_cons, List.length_nil, List.map_cons, List.map_nil, Bool.not_true, Bool.not_false, Bool.true_and, Bool.and_true, Bool.false_and, Bool.or_true, Bool.true_or, Bool.false_or, Bool.or_false, ite_true, ite_false, if_true, if_false, Bool.false_eq_true, reduceCtorEq, decide_true, decide_false, true_and, and_true, Bool.not_not, Option.isSome_some, if_false_left, decide_eq_true_eq, Bool.decide_eq_true, ↓isT_non_non, ↓isT_non_bool, ↓isT_non_int, ↓isT_non_str, ↓isT_non_tuple, ↓isT_non_list, ↓isT_non_dict, ↓isT_bool_non, ↓isT_bool_bool, ↓isT_bool_int, ↓isT_bool_str, ↓isT_bool_tuple, ↓isT_bool_list, ↓isT_bool_dict, ↓isT_int_non, ↓isT_int_bool, ↓isT_int_int, ↓isT_int_str, ↓isT_int_tuple, ↓isT_int_list, ↓isT_int_dict, ↓isT_str_non, ↓isT_str_bool, ↓isT_str_int, ↓isT_str_str, ↓isT_str_tuple, ↓isT_str_list, ↓isT_str_dict, ↓isT_tuple_non, ↓isT_tuple_bool, ↓isT_tuple_int, ↓isT_tuple_str, ↓isT_tuple_tuple, ↓isT_tuple_list, ↓isT_tuple_dict, ↓isT_list_non, ↓isT_list_bool, ↓isT_list_int, ↓isT_list_str, ↓isT_list_tuple, ↓isT_list_list, ↓isT_list_dict, ↓isT_dict_non, ↓isT_dict_bool, ↓isT_dict_int, ↓isT_dict_str, ↓isT_dict_tuple, ↓isT_dict_list, ↓isT_dict_dict, ↓slot_0, ↓slot_1, ↓slot_2, ↓slot_3, ↓slot_4, ↓slot_5, ↓slot_6, ↓slot_7, ↓slot_8, ↓slot_9, ↓slot_10, ↓slot_11, ↓slot_12, ↓slot_13, ↓slot_14, ↓slot_15, ↓slot_16, ↓slot_17, ↓set_0, ↓set_1, ↓set_2, ↓set_3, ↓set_4, ↓set_5, ↓set_6, ↓set_7, ↓set_8, ↓set_9, ↓set_10, ↓set_11, ↓set_12, ↓set_13, ↓set_14, ↓set_15, ↓set_16, ↓set_17, h2]
      simp only [↓dSeq_eq, ↓wnx_nx, ↓wnx_rt, ↓wnx_bk, ↓wnx_ct, ↓wnx_ex, ↓wlp_nx, ↓wlp_rt, ↓wlp_bk, ↓wlp_ct, ↓wlp_ex, ↓wex_nx, ↓wex_rt, ↓wex_bk, ↓wex_ct, ↓wex_ex, ↓en_nx, ↓en_rt, ↓en_ex, ↓forGo_nil, ↓forGo_cons, ↓dNext, ↓dBreak, ↓dCont, ↓dDrop, ↓dRet, ↓dRetN, ↓dIfS, ↓hName, ↓hNil, ↓hCons, ↓hTup, ↓dAsg, ↓dPar, ↓dTest, ↓dAnd, ↓dOr, ↓dNot, ↓dAndV, ↓dOrV, ↓dNotV, ↓dIf, ↓dVar, ↓dC, ↓dOp, ↓dUn, ↓dNil, ↓dCons, ↓dTup, ↓dLst, ↓dLstM, ↓dCall, ↓dCallK, ↓pick, ↓dCB, ↓dSeqI, ↓dFor, ↓dRange1, ↓dRange2, ↓dRaise, ↓dRaise0, ↓dIsi, ↓dIsi2, ↓oAdd, ↓oSubI, ↓oMulI, ↓oDivI, ↓oModI, ↓oPowI, ↓oSubB, ↓oCmpI, ↓oNeg, ↓oEq, ↓oNe, ↓oIsN, ↓oNotN, ↓oIsB, ↓oIx, ↓cLen, ↓lenQ, ↓D.len?, ↓cAbs, ↓cInt, ↓cMax2, ↓cMin2, ↓cGcd, ↓cSum, ↓cStr, ↓okEq_int, ↓okEq_bl, ↓okEq_non, ↓eqD_int, ↓eqD_bl, ↓eqD_intTup, ↓atI0, ↓atI1, ↓atI2, ↓atI3, ↓ty_int, ↓ty_bl, ↓ty_non, ↓ty_str, ↓ty_tup, ↓ty_lst, ↓endsOf, List.length_cons, List.length_nil, List.map_cons, List.map_nil, Bool.not_true, Bool.not_false, Bool.true_and, Bool.and_true, Bool.false_and, Bool.or_true, Bool.true_or, Bool.false_or, Bool.or_false, ite_true, ite_false, if_true, if_false, Bool.false_eq_true, reduceCtorEq, decide_true, decide_false, true_and, and_true, Bool.not_not, Option.isSome_some, if_false_left, decide_eq_true_eq, Bool.decide_eq_true, ↓isT_non_non, ↓isT_non_bool, ↓isT_non_int, ↓isT_non_str, ↓isT_non_tuple, ↓isT_non_list, ↓isT_non_dict, ↓isT_bool_non, ↓isT_bool_bool, ↓isT_bool_int, ↓isT_bool_str, ↓isT_bool_tuple, ↓isT_bool_list, ↓isT_bool_dict, ↓isT_int_non, ↓isT_int_bool, ↓isT_int_int, ↓isT_int_str, ↓isT_int_tuple, ↓isT_int_list, ↓isT_int_dict, ↓isT_str_non, ↓isT_str_bool, ↓isT_str_int, ↓isT_str_str, ↓isT_str_tuple, ↓isT_str_list, ↓isT_str_dict, ↓isT_tuple_non, ↓isT_tuple_bool, ↓isT_tuple_int, ↓isT_tuple_str, ↓isT_tuple_tuple, ↓isT_tuple_list, ↓isT_tuple_dict, ↓isT_list_non, ↓isT_list_bool, ↓isT_list_int, ↓isT_list_str, ↓isT_list_tuple, ↓isT_list_list, ↓isT_list_dict, ↓isT_dict_non, ↓isT_dict_bool, ↓isT_dict_int, ↓isT_dict_str, ↓isT_dict_tuple, ↓isT_dict_list, ↓isT_dict_dict, ↓slot_0, ↓slot_1, ↓slot_2, ↓slot_3, ↓slot_4, ↓slot_5, ↓slot_6, ↓slot_7, ↓slot_8, ↓slot_9, ↓slot_10, ↓slot_11, ↓slot_12, ↓slot_13, ↓slot_14, ↓slot_15, ↓slot_16, ↓slot_17, ↓set_0, ↓set_1, ↓set_2, ↓set_3, ↓set_4, ↓set_5, ↓set_6, ↓set_7, ↓set_8, ↓set_9, ↓set_10, ↓set_11, ↓set_12, ↓set_13, ↓set_14, ↓set_15, ↓set_16, ↓set_17, ↓LcT.put, ↓wipeD]
      refine ⟨_, _, rfl, hn, .inr (.inl ⟨_, _, rfl, rfl, hn1, ?_⟩)⟩
      unfold lcGo
      by_cases h3 : b = d
      · simp only [↓dSeq_eq, ↓wnx_nx, ↓wnx_rt, ↓wnx_bk, ↓wnx_ct, ↓wnx_ex, ↓wlp_nx, ↓wlp_rt, ↓wlp_bk, ↓wlp_ct, ↓wlp_ex, ↓wex_nx, ↓wex_rt, ↓wex_bk, ↓wex_ct, ↓wex_ex, ↓en_nx, ↓en_rt, ↓en_ex, ↓forGo_nil, ↓forGo_cons, ↓dNext, ↓dBreak, ↓dCont, ↓dDrop, ↓dRet, ↓dRetN, ↓dIfS, ↓hName, ↓hNil, ↓hCons, ↓hTup, ↓dAsg, ↓dPar, ↓dTest, ↓dAnd, ↓dOr, ↓dNot, ↓dAndV, ↓dOrV, ↓dNotV, ↓dIf, ↓dVar, ↓dC, ↓dOp, ↓dUn, ↓dNil, ↓dCons, ↓dTup, ↓dLst, ↓dLstM, ↓dCall, ↓dCallK, ↓pick, ↓dCB, ↓dSeqI, ↓dFor, ↓dRange1, ↓dRange2, ↓dRaise, ↓dRaise0, ↓dIsi, ↓dIsi2, ↓oAdd, ↓oSubI, ↓oMulI, ↓oDivI, ↓oModI, ↓oPowI, ↓oSubB, ↓oCmpI, ↓oNeg, ↓oEq, ↓oNe, ↓oIsN, ↓oNotN, ↓oIsB, ↓oIx, ↓cLen, ↓lenQ, ↓D.len?, ↓cAbs, ↓cInt, ↓cMax2, ↓cMin2, ↓cGcd, ↓cSum, ↓cStr, ↓okEq_int, ↓okEq_bl, ↓okEq_non, ↓eqD_int, ↓eqD_bl, ↓eqD_intTup, ↓atI0, ↓atI1, ↓atI2, ↓atI3, ↓ty_int, ↓ty_bl, ↓ty_non, ↓ty_str, ↓ty_tup, ↓ty_lst, ↓endsOf, List.length_cons, List.length_nil, List.map_cons, List.map_nil, Bool.not_true, Bool.not_false, Bool.true_and, Bool.and_true, Bool.false_and, Bool.or_true, Bool.true_or, Bool.false_or, Bool.or_false, ite_true, ite_false, if_true, if_false, Bool.false_eq_true, reduceCtorEq, decide_true, decide_false, true_and, and_true, Bool.not_not, Option.isSome_some, if_false_left, decide_eq_true_eq, Bool.decide_eq_true, ↓isT_non_non, ↓isT_non_bool, ↓isT_non_int, ↓isT_non_str, ↓isT_non_tuple, ↓isT_non_list, ↓isT_non_dict, ↓isT_bool_non, ↓isT_bool_bool, ↓isT_bool_int, ↓isT_bool_str, ↓isT_bool_tuple, ↓isT_bool_list, ↓isT_bool_dict, ↓isT_int_non, ↓isT_int_bool, ↓isT_int_int, ↓isT_int_str, ↓isT_int_tuple, ↓isT_int_list, ↓isT_int_dict, ↓isT_str_non, ↓isT_str_bool, ↓isT_str_int, ↓isT_str_str, ↓isT_str_tuple, ↓isT_str_list, ↓isT_str_dict, ↓isT_tuple_non, ↓isT_tuple_bool, ↓isT_tuple_int, ↓isT_tuple_str, ↓isT_tuple_tuple, ↓isT_tuple_list, ↓isT_tuple_dict, ↓isT_list_non, ↓isT_list_bool, ↓isT_list_int, ↓isT_list_str, ↓isT_list_tuple, ↓isT_list_list, ↓isT_list_dict, ↓isT_dict_non, ↓isT_dict_bool, ↓isT_dict_int, ↓isT_dict_str, ↓isT_dict_tuple, ↓isT_dict_list, ↓isT_dict_dict, ↓slot_0, ↓slot_1, ↓slot_2, ↓slot_3, ↓slot_4, ↓slot_5, ↓slot_6, ↓slot_7, ↓slot_8, ↓slot_9, ↓slot_10, ↓slot_11, ↓slot_12, ↓slot_13, ↓slot_14, ↓slot_15, ↓slot_16, ↓slot_17, ↓set_0, ↓set_1, ↓set_2, ↓set_3, ↓set_4, ↓set_5, ↓set_6, ↓set_7, ↓set_8, ↓set_9, ↓set_10, ↓set_11, ↓set_12, ↓set_13, ↓set_14, ↓set_15, ↓set_16, ↓set_17, h3, eq_nil.1, eq_nil.2]
        rw [decide_eq_true h2, decide_eq_true h3] at q
        exact ⟨by decide, _, .refl _, q⟩
      · simp only [↓dSeq_eq, ↓wnx_nx, ↓wnx_rt, ↓wnx_bk, ↓wnx_ct, ↓wnx_ex, ↓wlp_nx, ↓wlp_rt, ↓wlp_bk, ↓wlp_ct, ↓wlp_ex, ↓wex_nx, ↓wex_rt, ↓wex_bk, ↓wex_ct, ↓wex_ex, ↓en_nx, ↓en_rt, ↓en_ex, ↓forGo_nil, ↓forGo_cons, ↓dNext, ↓dBreak, ↓dCont, ↓dDrop, ↓dRet, ↓dRetN, ↓dIfS, ↓hName, ↓hNil, ↓hCons, ↓hTup, ↓dAsg, ↓dPar, ↓dTest, ↓dAnd, ↓dOr, ↓dNot, ↓dAndV, ↓dOrV, ↓dNotV, ↓dIf, ↓dVar, ↓dC, ↓dOp, ↓dUn, ↓dNil, ↓dCons, ↓dTup, ↓dLst, ↓dLstM, ↓dCall, ↓dCallK, ↓pick, ↓dCB, ↓dSeqI, ↓dFor, ↓dRange1, ↓dRange2, ↓dRaise, ↓dRaise0, ↓dIsi, ↓dIsi2, ↓oAdd, ↓oSubI, ↓oMulI, ↓oDivI, ↓oModI, ↓oPowI, ↓oSubB, ↓oCmpI, ↓oNeg, ↓oEq, ↓oNe, ↓oIsN, ↓oNotN, ↓oIsB, ↓oIx, ↓cLen, ↓lenQ, ↓D.len?, ↓cAbs, ↓cInt, ↓cMax2, ↓cMin2, ↓cGcd, ↓cSum, ↓cStr, ↓okEq_int, ↓okEq_bl, ↓okEq_non, ↓eqD_int, ↓eqD_bl, ↓eqD_intTup, ↓atI0, ↓atI1, ↓atI2, ↓atI3, ↓ty_int, ↓ty_bl, ↓ty_non, ↓ty_str, ↓ty_tup, ↓ty_lst, ↓endsOf, List.length_cons, List.length_nil, List.map_cons, List.map_nil, Bool.not_true, Bool.not_false, Bool.true_and, Bool.and_true, Bool.false_and, Bool.or_true, Bool.true_or, Bool.false_or, Bool.or_false, ite_true, ite_false, if_true, if_false, Bool.false_eq_true, reduceCtorEq, decide_true, decide_false, true_and, and_true, Bool.not_not, Option.isSome_some, if_false_left, decide_eq_true_eq, Bool.decide_eq_true, ↓isT_non_non, ↓isT_non_bool, ↓isT_non_int, ↓isT_non_str, ↓isT_non_tuple, ↓isT_non_list, ↓isT_non_dict, ↓isT_bool_non, ↓isT_bool_bool, ↓isT_bool_int, ↓isT_bool_str, ↓isT_bool_tuple, ↓isT_bool_list, ↓isT_bool_dict, ↓isT_int_non, ↓isT_int_bool, ↓isT_int_int, ↓isT_int_str, ↓isT_int_tuple, ↓isT_int_list, ↓isT_int_dict, ↓isT_str_non, ↓isT_str_bool, ↓isT_str_int, ↓isT_str_str, ↓isT_str_tuple, ↓isT_str_list, ↓isT_str_dict, ↓isT_tuple_non, ↓isT_tuple_bool, ↓isT_tuple_int, ↓isT_tuple_str, ↓isT_tuple_tuple, ↓isT_tuple_list, ↓isT_tuple_dict, ↓isT_list_non, ↓isT_list_bool, ↓isT_list_int, ↓isT_list_str, ↓isT_list_tuple, ↓isT_list_list, ↓isT_list_dict, ↓isT_dict_non, ↓isT_dict_bool, ↓isT_dict_int, ↓isT_dict_str, ↓isT_dict_tuple, ↓isT_dict_list, ↓isT_dict_dict, ↓slot_0, ↓slot_1, ↓slot_2, ↓slot_3, ↓slot_4, ↓slot_5, ↓slot_6, ↓slot_7, ↓slot_8, ↓slot_9, ↓slot_10, ↓slot_11, ↓slot_12, ↓slot_13, ↓slot_14, ↓slot_15, ↓slot_16, ↓slot_17, ↓set_0, ↓set_1, ↓set_2, ↓set_3, ↓set_4, ↓set_5, ↓set_6, ↓set_7, ↓set_8, ↓set_9, ↓set_10, ↓set_11, ↓set_12, ↓set_13, ↓set_14, ↓set_15, ↓set_16, ↓set_17, h3]
        rw [decide_eq_true h2, decide_eq_false h3] at q
        have e1 : eqD (.lst ([] ++ [D.int 1])) (.lst []) = false := rfl
        have e2 : okEq (.lst ([] ++ [D.int 1])) = true := rfl
        simp only [↓dSeq_eq, ↓wnx_nx, ↓wnx_rt, ↓wnx_bk, ↓wnx_ct, ↓wnx_ex, ↓wlp_nx, ↓wlp_rt, ↓wlp_bk, ↓wlp_ct, ↓wlp_ex, ↓wex_nx, ↓wex_rt, ↓wex_bk, ↓wex_ct, ↓wex_ex, ↓en_nx, ↓en_rt, ↓en_ex, ↓forGo_nil, ↓forGo_cons, ↓dNext, ↓dBreak, ↓dCont, ↓dDrop, ↓dRet, ↓dRetN, ↓dIfS, ↓hName, ↓hNil, ↓hCons, ↓hTup, ↓dAsg, ↓dPar, ↓dTest, ↓dAnd, ↓dOr, ↓dNot, ↓dAndV, ↓dOrV, ↓dNotV, ↓dIf, ↓dVar, ↓dC, ↓dOp, ↓dUn, ↓dNil, ↓dCons, ↓dTup, ↓dLst, ↓dLstM, ↓dCall, ↓dCallK, ↓pick, ↓dCB, ↓dSeqI, ↓dFor, ↓dRange1, ↓dRange2, ↓dRaise, ↓dRaise0, ↓dIsi, ↓dIsi2, ↓oAdd, ↓oSubI, ↓oMulI, ↓oDivI, ↓oModI, ↓oPowI, ↓oSubB, ↓oCmpI, ↓oNeg, ↓oEq, ↓oNe, ↓oIsN, ↓oNotN, ↓oIsB, ↓oIx, ↓cLen, ↓lenQ, ↓D.len?, ↓cAbs, ↓cInt, ↓cMax2, ↓cMin2, ↓cGcd, ↓cSum, ↓cStr, ↓okEq_int, ↓okEq_bl, ↓okEq_non, ↓eqD_int, ↓eqD_bl, ↓eqD_intTup, ↓atI0, ↓atI1, ↓atI2, ↓atI3, ↓ty_int, ↓ty_bl, ↓ty_non, ↓ty_str, ↓ty_tup, ↓ty_lst, ↓endsOf, List.length_cons, List.length_nil, List.map_cons, List.map_nil, Bool.not_true, Bool.not_false, Bool.true_and, Bool.and_true, Bool.false_and, Bool.or_true, Bool.true_or, Bool.false_or, Bool.or_false, ite_true, ite_false, if_true, if_false, Bool.false_eq_true, reduceCtorEq, decide_true, decide_false, true_and, and_true, Bool.not_not, Option.isSome_some, if_false_left, decide_eq_true_eq, Bool.decide_eq_true, ↓isT_non_non, ↓isT_non_bool, ↓isT_non_int, ↓isT_non_str, ↓isT_non_tuple, ↓isT_non_list, ↓isT_non_dict, ↓isT_bool_non, ↓isT_bool_bool, ↓isT_bool_int, ↓isT_bool_str, ↓isT_bool_tuple, ↓isT_bool_list, ↓isT_bool_dict, ↓isT_int_non, ↓isT_int_bool, ↓isT_int_int, ↓isT_int_str, ↓isT_int_tuple, ↓isT_int_list, ↓isT_int_dict, ↓isT_str_non, ↓isT_str_bool, ↓isT_str_int, ↓isT_str_str, ↓isT_str_tuple, ↓isT_str_list, ↓isT_str_dict, ↓isT_tuple_non, ↓isT_tuple_bool, ↓isT_tuple_int, ↓isT_tuple_str, ↓isT_tuple_tuple, ↓isT_tuple_list, ↓isT_tuple_dict, ↓isT_list_non, ↓isT_list_bool, ↓isT_list_int, ↓isT_list_str, ↓isT_list_tuple, ↓isT_list_list, ↓isT_list_dict, ↓isT_dict_non, ↓isT_dict_bool, ↓isT_dict_int, ↓isT_dict_str, ↓isT_dict_tuple, ↓isT_dict_list, ↓isT_dict_dict, ↓slot_0, ↓slot_1, ↓slot_2, ↓slot_3, ↓slot_4, ↓slot_5, ↓slot_6, ↓slot_7, ↓slot_8, ↓slot_9, ↓slot_10, ↓slot_11, ↓slot_12, ↓slot_13, ↓slot_14, ↓slot_15, ↓slot_16, ↓slot_17, ↓set_0, ↓set_1, ↓set_2, ↓set_3, ↓set_4, ↓set_5, ↓set_6, ↓set_7, ↓set_8, ↓set_9, ↓set_10, ↓set_11, ↓set_12, ↓set_13, ↓set_14, ↓set_15, ↓set_16, ↓set_17, eq_nil.1, e1, e2]
        exact ⟨by decide, by decide, _, .refl _, q⟩
    · simp only [↓dSeq_eq, ↓wnx_nx, ↓wnx_rt, ↓wnx_bk, ↓wnx_ct, ↓wnx_ex, ↓wlp_nx, ↓wlp_rt, ↓wlp_bk, ↓wlp_ct, ↓wlp_ex, ↓wex_nx, ↓wex_rt, ↓wex_bk, ↓wex_ct, ↓wex_ex, ↓en_nx, ↓en_rt, ↓en_ex, ↓forGo_nil, ↓forGo_cons, ↓dNext, ↓dBreak, ↓dCont, ↓dDrop, ↓dRet, ↓dRetN, ↓dIfS, ↓hName, ↓hNil, ↓hCons, ↓hTup, ↓dAsg, ↓dPar, ↓dTest, ↓dAnd, ↓dOr, ↓dNot, ↓dAndV, ↓dOrV, ↓dNotV, ↓dIf, ↓dVar, ↓dC, ↓dOp, ↓dUn, ↓dNil, ↓dCons, ↓dTup, ↓dLst, ↓dLstM, ↓dCall, ↓dCallK, ↓pick, ↓dCB, ↓dSeqI, ↓dFor, ↓dRange1, ↓dRange2, ↓dRaise, ↓dRaise0, ↓dIsi, ↓dIsi2, ↓oAdd, ↓oSubI, ↓oMulI, ↓oDivI, ↓oModI, ↓oPowI, ↓oSubB, ↓oCmpI, ↓oNeg, ↓oEq, ↓oNe, ↓oIsN, ↓oNotN, ↓oIsB, ↓oIx, ↓cLen, ↓lenQ, ↓D.len?, ↓cAbs, ↓cInt, ↓cMax2, ↓cMin2, ↓cGcd, ↓cSum, ↓cStr, ↓okEq_int, ↓okEq_bl, ↓okEq_non, ↓eqD_int, ↓eqD_bl, ↓eqD_intTup, ↓atI0, ↓atI1, ↓atI2, ↓atI3, ↓ty_int, ↓ty_bl, ↓ty_non, ↓ty_str, ↓ty_tup, ↓ty_lst, ↓endsOf, List.length_cons, List.length_nil, List.map_cons, List.map_nil, Bool.not_true, Bool.not_false, Bool.true_and, Bool.and_true, Bool.false_and, Bool.or_true, Bool.true_or, Bool.false_or, Bool.or_false, ite_true, ite_false, if_true, if_false, Bool.false_eq_true, reduceCtorEq, decide_true, decide_false, true_and, and_true, Bool.not_not, Option.isSome_some, if_false_left, decide_eq_true_eq, Bool.decide_eq_true, ↓isT_non_non, ↓isT_non_bool, ↓isT_non_int, ↓isT_non_str, ↓isT_non_tuple, ↓isT_non_list, ↓isT_non_dict, ↓isT_bool_non, ↓isT_bool_bool, ↓isT_bool_int, ↓isT_bool_str, ↓isT_bool_tuple, ↓isT_bool_list, ↓isT_bool_dict, ↓isT_int_non, ↓isT_int_bool, ↓isT_int_int, ↓isT_int_str, ↓isT_int_tuple, ↓isT_int_list, ↓isT_int_dict, ↓isT_str_non, ↓isT_str_bool, ↓isT_str_int, ↓isT_str_str, ↓isT_str_tuple, ↓isT_str_list, ↓isT_str_dict, ↓isT_tuple_non, ↓isT_tuple_bool, ↓isT_tuple_int, ↓isT_tuple_str, ↓isT_tuple_tuple, ↓isT_tuple_list, ↓isT_tuple_dict, ↓isT_list_non, ↓isT_list_bool, ↓isT_list_int, ↓isT_list_str, ↓isT_list_tuple, ↓isT_list_list, ↓isT_list_dict, ↓isT_dict_non, ↓isT_dict_bool, ↓isT_dict_int, ↓isT_dict_str, ↓isT_dict_tuple, ↓isT_dict_list, ↓isT_dict_dict, ↓slot_0, ↓slot_1, ↓slot_2, ↓slot_3, ↓slot_4, ↓slot_5, ↓slot_6, ↓slot_7, ↓slot_8, ↓slot_9, ↓slot_10, ↓slot_11, ↓slot_12, ↓slot_13, ↓slot_14, ↓slot_15, ↓slot_16, ↓slot_17, ↓set_0, ↓set_1, ↓set_2, ↓set_3, ↓set_4, ↓set_5, ↓set_6, ↓set_7, ↓set_8, ↓set_9, ↓set_10, ↓set_11, ↓set_12, ↓set_13, ↓set_14, ↓set_15, ↓set_16, ↓set_17, h2]
      simp only [↓dSeq_eq, ↓wnx_nx, ↓wnx_rt, ↓wnx_bk, ↓wnx_ct, ↓wnx_ex, ↓wlp_nx, ↓wlp_rt, ↓wlp_bk, ↓wlp_ct, ↓wlp_ex, ↓wex_nx, ↓wex_rt, ↓wex_bk, ↓wex_ct, ↓wex_ex, ↓en_nx, ↓en_rt, ↓en_ex, ↓forGo_nil, ↓forGo_cons, ↓dNext, ↓dBreak, ↓dCont, ↓dDrop, ↓dRet, ↓dRetN, ↓dIfS, ↓hName, ↓hNil, ↓hCons, ↓hTup, ↓dAsg, ↓dPar, ↓dTest, ↓dAnd, ↓dOr, ↓dNot, ↓dAndV, ↓dOrV, ↓dNotV, ↓dIf, ↓dVar, ↓dC, ↓dOp, ↓dUn, ↓dNil, ↓dCons, ↓dTup, ↓dLst, ↓dLstM, ↓dCall, ↓dCallK, ↓pick, ↓dCB, ↓dSeqI, ↓dFor, ↓dRange1, ↓dRange2, ↓dRaise, ↓dRaise0, ↓dIsi, ↓dIsi2, ↓oAdd, ↓oSubI, ↓oMulI, ↓oDivI, ↓oModI, ↓oPowI, ↓oSubB, ↓oCmpI, ↓oNeg, ↓oEq, ↓oNe, ↓oIsN, ↓oNotN, ↓oIsB, ↓oIx, ↓cLen, ↓lenQ, ↓D.len?, ↓cAbs, ↓cInt, ↓cMax2, ↓cMin2, ↓cGcd, ↓cSum, ↓cStr, ↓okEq_int, ↓okEq_bl, ↓okEq_non, ↓eqD_int, ↓eqD_bl, ↓eqD_intTup, ↓atI0, ↓atI1, ↓atI2, ↓atI3, ↓ty_int, ↓ty_bl, ↓ty_non, ↓ty_str, ↓ty_tup, ↓ty_lst, ↓endsOf, List.length_cons, List.length_nil, List.map_cons, List.map_nil, Bool.not_true, Bool.not_false, Bool.true_and, Bool.and_true, Bool.false_and, Bool.or_true, Bool.true_or, Bool.false_or, Bool.or_false, ite_true, ite_false, if_true, if_false, Bool.false_eq_true, reduceCtorEq, decide_true, decide_false, true_and, and_true, Bool.not_not, Option.isSome_some, if_false_left, decide_eq_true_eq, Bool.decide_eq_true, ↓isT_non_non, ↓isT_non_bool, ↓isT_non_int, ↓isT_non_str, ↓isT_non_tuple, ↓isT_non_list, ↓isT_non_dict, ↓isT_bool_non, ↓isT_bool_bool, ↓isT_bool_int, ↓isT_bool_str, ↓isT_bool_tuple, ↓isT_bool_list, ↓isT_bool_dict, ↓isT_int_non, ↓isT_int_bool, ↓isT_int_int, ↓isT_int_str, ↓isT_int_tuple, ↓isT_int_list, ↓isT_int_dict, ↓isT_str_non, ↓isT_str_bool, ↓isT_str_int, ↓isT_str_str, ↓isT_str_tuple, ↓isT_str_list, ↓isT_str_dict, ↓isT_tuple_non, ↓isT_tuple_bool, ↓isT_tuple_int, ↓isT_tuple_str, ↓isT_tuple_tuple, ↓isT_tuple_list, ↓isT_tuple_dict, ↓isT_list_non, ↓isT_list_bool, ↓isT_list_int, ↓isT_list_str, ↓isT_list_tuple, ↓isT_list_list, ↓isT_list_dict, ↓isT_dict_non, ↓isT_dict_bool, ↓isT_dict_int, ↓isT_dict_str, ↓isT_dict_tuple, ↓isT_dict_list, ↓isT_dict_dict, ↓slot_0, ↓slot_1, ↓slot_2, ↓slot_3, ↓slot_4, ↓slot_5, ↓slot_6, ↓slot_7, ↓slot_8, ↓slot_9, ↓slot_10, ↓slot_11, ↓slot_12, ↓slot_13, ↓slot_14, ↓slot_15, ↓slot_16, ↓slot_17, ↓set_0, ↓set_1, ↓set_2, ↓set_3, ↓set_4, ↓set_5, ↓set_6, ↓set_7, ↓set_8, ↓set_9, ↓set_10, ↓set_11, ↓set_12, ↓set_13, ↓set_14, ↓set_15, ↓set_16, ↓set_17, ↓LcT.put, ↓wipeD]
      refine ⟨by decide, _, _, rfl, hn, .inr (.inl ⟨_, _, rfl, rfl, hn1, ?_⟩)⟩
      unfold lcGo
      by_cases h3 : b = d
      · simp only [↓dSeq_eq, ↓wnx_nx, ↓wnx_rt, ↓wnx_bk, ↓wnx_ct, ↓wnx_ex, ↓wlp_nx, ↓wlp_rt, ↓wlp_bk, ↓wlp_ct, ↓wlp_ex, ↓wex_nx, ↓wex_rt, ↓wex_bk, ↓wex_ct, ↓wex_ex, ↓en_nx, ↓en_rt, ↓en_ex, ↓forGo_nil, ↓forGo_cons, ↓dNext, ↓dBreak, ↓dCont, ↓dDrop, ↓dRet, ↓dRetN, ↓dIfS, ↓hName, ↓hNil, ↓hCons, ↓hTup, ↓dAsg, ↓dPar, ↓dTest, ↓dAnd, ↓dOr, ↓dNot, ↓dAndV, ↓dOrV, ↓dNotV, ↓dIf, ↓dVar, ↓dC, ↓dOp, ↓dUn, ↓dNil, ↓dCons, ↓dTup, ↓dLst, ↓dLstM, ↓dCall, ↓dCallK, ↓pick, ↓dCB, ↓dSeqI, ↓dFor, ↓dRange1, ↓dRange2, ↓dRaise, ↓dRaise0, ↓dIsi, ↓dIsi2, ↓oAdd, ↓oSubI, ↓oMulI, ↓oDivI, ↓oModI, ↓oPowI, ↓oSubB, ↓oCmpI, ↓oNeg, ↓oEq, ↓oNe, ↓oIsN, ↓oNotN, ↓oIsB, ↓oIx, ↓cLen, ↓lenQ, ↓D.len?, ↓cAbs, ↓cInt, ↓cMax2, ↓cMin2, ↓cGcd, ↓cSum, ↓cStr, ↓okEq_int, ↓okEq_bl, ↓okEq_non, ↓eqD_int, ↓eqD_bl, ↓eqD_intTup, ↓atI0, ↓atI1, ↓atI2, ↓atI3, ↓ty_int, ↓ty_bl, ↓ty_non, ↓ty_str, ↓ty_tup, ↓ty_lst, ↓endsOf, List.length_cons, List.length_nil, List.map_cons, List.map_nil, Bool.not_true, Bool.not_false, Bool.true_and, Bool.and_true, Bool.false_and, Bool.or_true, Bool.true_or, Bool.false_or, Bool.or_false, ite_true, ite_false, if_true, if_false, Bool.false_eq_true, reduceCtorEq, decide_true, decide_false, true_and, and_true, Bool.not_not, Option.isSome_some, if_false_left, decide_eq_true_eq, Bool.decide_eq_true, ↓isT_non_non, ↓isT_non_bool, ↓isT_non_int, ↓isT_non_str, ↓isT_non_tuple, ↓isT_non_list, ↓isT_non_dict, ↓isT_bool_non, ↓isT_bool_bool, ↓isT_bool_int, ↓isT_bool_str, ↓isT_bool_tuple, ↓isT_bool_list, ↓isT_bool_dict, ↓isT_int_non, ↓isT_int_bool, ↓isT_int_int, ↓isT_int_str, ↓isT_int_tuple, ↓isT_int_list, ↓isT_int_dict, ↓isT_str_non, ↓isT_str_bool, ↓isT_str_int, ↓isT_str_str, ↓isT_str_tuple, ↓isT_str_list, ↓isT_str_dict, ↓isT_tuple_non, ↓isT_tuple_bool, ↓isT_tuple_int, ↓isT_tuple_str, ↓isT_tuple_tuple, ↓isT_tuple_list, ↓isT_tuple_dict, ↓isT_list_non, ↓isT_list_bool, ↓isT_list_int, ↓isT_list_str, ↓isT_list_tuple, ↓isT_list_list, ↓isT_list_dict, ↓isT_dict_non, ↓isT_dict_bool, ↓isT_dict_int, ↓isT_dict_str, ↓isT_dict_tuple, ↓isT_dict_list, ↓isT_dict_dict, ↓slot_0, ↓slot_1, ↓slot_2, ↓slot_3, ↓slot_4, ↓slot_5, ↓slot_6, ↓slot_7, ↓slot_8, ↓slot_9, ↓slot_10, ↓slot_11, ↓slot_12, ↓slot_13, ↓slot_14, ↓slot_15, ↓slot_16, ↓slot_17, ↓set_0, ↓set_1, ↓set_2, ↓set_3, ↓set_4, ↓set_5, ↓set_6, ↓set_7, ↓set_8, ↓set_9, ↓set_10, ↓set_11, ↓set_12, ↓set_13, ↓set_14, ↓set_15, ↓set_16, ↓set_17, h3]
        rw [decide_eq_false h2, Bool.false_and] at q
        have e1 : eqD (.lst ([] ++ [D.int 0])) (.lst []) = false := rfl
        have e2 : okEq (.lst ([] ++ [D.int 0])) = true := rfl
        simp only [↓dSeq_eq, ↓wnx_nx, ↓wnx_rt, ↓wnx_bk, ↓wnx_ct, ↓wnx_ex, ↓wlp_nx, ↓wlp_rt, ↓wlp_bk, ↓wlp_ct, ↓wlp_ex, ↓wex_nx, ↓wex_rt, ↓wex_bk, ↓wex_ct, ↓wex_ex, ↓en_nx, ↓en_rt, ↓en_ex, ↓forGo_nil, ↓forGo_cons, ↓dNext, ↓dBreak, ↓dCont, ↓dDrop, ↓dRet, ↓dRetN, ↓dIfS, ↓hName, ↓hNil, ↓hCons, ↓hTup, ↓dAsg, ↓dPar, ↓dTest, ↓dAnd, ↓dOr, ↓dNot, ↓dAndV, ↓dOrV, ↓dNotV, ↓dIf, ↓dVar, ↓dC, ↓dOp, ↓dUn, ↓dNil, ↓dCons, ↓dTup, ↓dLst, ↓dLstM, ↓dCall, ↓dCallK, ↓pick, ↓dCB, ↓dSeqI, ↓dFor, ↓dRange1, ↓dRange2, ↓dRaise, ↓dRaise0, ↓dIsi, ↓dIsi2, ↓oAdd, ↓oSubI, ↓oMulI, ↓oDivI, ↓oModI, ↓oPowI, ↓oSubB, ↓oCmpI, ↓oNeg, ↓oEq, ↓oNe, ↓oIsN, ↓oNotN, ↓oIsB, ↓oIx, ↓cLen, ↓lenQ, ↓D.len?, ↓cAbs, ↓cInt, ↓cMax2, ↓cMin2, ↓cGcd, ↓cSum, ↓cStr, ↓okEq_int, ↓okEq_bl, ↓okEq_non, ↓eqD_int, ↓eqD_bl, ↓eqD_intTup, ↓atI0, ↓atI1, ↓atI2, ↓atI3, ↓ty_int, ↓ty_bl, ↓ty_non, ↓ty_str, ↓ty_tup, ↓ty_lst, ↓endsOf, List.length_cons, List.length_nil, List.map_cons, List.map_nil, Bool.not_true, Bool.not_false, Bool.true_and, Bool.and_true, Bool.false_and, Bool.or_true, Bool.true_or, Bool.false_or, Bool.or_false, ite_true, ite_false, if_true, if_false, Bool.false_eq_true, reduceCtorEq, decide_true, decide_false, true_and, and_true, Bool.not_not, Option.isSome_some, if_false_left, decide_eq_true_eq, Bool.decide_eq_true, ↓isT_non_non, ↓isT_non_bool, ↓isT_non_int, ↓isT_non_str, ↓isT_non_tuple, ↓isT_non_list, ↓isT_non_dict, ↓isT_bool_non, ↓isT_bool_bool, ↓isT_bool_int, ↓isT_bool_str, ↓isT_bool_tuple, ↓isT_bool_list, ↓isT_bool_dict, ↓isT_int_non, ↓isT_int_bool, ↓isT_int_int, ↓isT_int_str, ↓isT_int_tuple, ↓isT_int_list, ↓isT_int_dict, ↓isT_str_non, ↓isT_str_bool, ↓isT_str_int, ↓isT_str_str, ↓isT_str_tuple, ↓isT_str_list, ↓isT_str_dict, ↓isT_tuple_non, ↓isT_tuple_bool, ↓isT_tuple_int, ↓isT_tuple_str, ↓isT_tuple_tuple, ↓isT_tuple_list, ↓isT_tuple_dict, ↓isT_list_non, ↓isT_list_bool, ↓isT_list_int, ↓isT_list_str, ↓isT_list_tuple, ↓isT_list_list, ↓isT_list_dict, ↓isT_dict_non, ↓isT_dict_bool, ↓isT_dict_int, ↓isT_dict_str, ↓isT_dict_tuple, ↓isT_dict_list, ↓isT_dict_dict, ↓slot_0, ↓slot_1, ↓slot_2, ↓slot_3, ↓slot_4, ↓slot_5, ↓slot_6, ↓slot_7, ↓slot_8, ↓slot_9, ↓slot_10, ↓slot_11, ↓slot_12, ↓slot_13, ↓slot_14, ↓slot_15, ↓slot_16, ↓slot_17, ↓set_0, ↓set_1, ↓set_2, ↓set_3, ↓set_4, ↓set_5, ↓set_6, ↓set_7, ↓set_8, ↓set_9, ↓set_10, ↓set_11, ↓set_12, ↓set_13, ↓set_14, ↓set_15, ↓set_16, ↓set_17, eq_nil.1, e1, e2]
        exact ⟨by decide, _, .refl _, q⟩
      · simp only [↓dSeq_eq, ↓wnx_nx, ↓wnx_rt, ↓wnx_bk, ↓wnx_ct, ↓wnx_ex, ↓wlp_nx, ↓wlp_rt, ↓wlp_bk, ↓wlp_ct, ↓wlp_ex, ↓wex_nx, ↓wex_rt, ↓wex_bk, ↓wex_ct, ↓wex_ex, ↓en_nx, ↓en_rt, ↓en_ex, ↓forGo_nil, ↓forGo_cons, ↓dNext, ↓dBreak, ↓dCont, ↓dDrop, ↓dRet, ↓dRetN, ↓dIfS, ↓hName, ↓hNil, ↓hCons, ↓hTup, ↓dAsg, ↓dPar, ↓dTest, ↓dAnd, ↓dOr, ↓dNot, ↓dAndV, ↓dOrV, ↓dNotV, ↓dIf, ↓dVar, ↓dC, ↓dOp, ↓dUn, ↓dNil, ↓dCons, ↓dTup, ↓dLst, ↓dLstM, ↓dCall, ↓dCallK, ↓pick, ↓dCB, ↓dSeqI, ↓dFor, ↓dRange1, ↓dRange2, ↓dRaise, ↓dRaise0, ↓dIsi, ↓dIsi2, ↓oAdd, ↓oSubI, ↓oMulI, ↓oDivI, ↓oModI, ↓oPowI, ↓oSubB, ↓oCmpI, ↓oNeg, ↓oEq, ↓oNe, ↓oIsN, ↓oNotN, ↓oIsB, ↓oIx, ↓cLen, ↓lenQ, ↓D.len?, ↓cAbs, ↓cInt, ↓cMax2, ↓cMin2, ↓cGcd, ↓cSum, ↓cStr, ↓okEq_int, ↓okEq_bl, ↓okEq_non, ↓eqD_int, ↓eqD_bl, ↓eqD_intTup, ↓atI0, ↓atI1, ↓atI2, ↓atI3, ↓ty_int, ↓ty_bl, ↓ty_non, ↓ty_str, ↓ty_tup, ↓ty_lst, ↓endsOf, List.length_cons, List.length_nil, List.map_cons, List.map_nil, Bool.not_true, Bool.not_false, Bool.true_and, Bool.and_true, Bool.false_and, Bool.or_true, Bool.true_or, Bool.false_or, Bool.or_false, ite_true, ite_false, if_true, if_false, Bool.false_eq_true, reduceCtorEq, decide_true, decide_false, true_and, and_true, Bool.not_not, Option.isSome_some, if_false_left, decide_eq_true_eq, Bool.decide_eq_true, ↓isT_non_non, ↓isT_non_bool, ↓isT_non_int, ↓isT_non_str, ↓isT_non_tuple, ↓isT_non_list, ↓isT_non_dict, ↓isT_bool_non, ↓isT_bool_bool, ↓isT_bool_int, ↓isT_bool_str, ↓isT_bool_tuple, ↓isT_bool_list, ↓isT_bool_dict, ↓isT_int_non, ↓isT_int_bool, ↓isT_int_int, ↓isT_int_str, ↓isT_int_tuple, ↓isT_int_list, ↓isT_int_dict, ↓isT_str_non, ↓isT_str_bool, ↓isT_str_int, ↓isT_str_str, ↓isT_str_tuple, ↓isT_str_list, ↓isT_str_dict, ↓isT_tuple_non, ↓isT_tuple_bool, ↓isT_tuple_int, ↓isT_tuple_str, ↓isT_tuple_tuple, ↓isT_tuple_list, ↓isT_tuple_dict, ↓isT_list_non, ↓isT_list_bool, ↓isT_list_int, ↓isT_list_str, ↓isT_list_tuple, ↓isT_list_list, ↓isT_list_dict, ↓isT_dict_non, ↓isT_dict_bool, ↓isT_dict_int, ↓isT_dict_str, ↓isT_dict_tuple, ↓isT_dict_list, ↓isT_dict_dict, ↓slot_0, ↓slot_1, ↓slot_2, ↓slot_3, ↓slot_4, ↓slot_5, ↓slot_6, ↓slot_7, ↓slot_8, ↓slot_9, ↓slot_10, ↓slot_11, ↓slot_12, ↓slot_13, ↓slot_14, ↓slot_15, ↓slot_16, ↓slot_17, ↓set_0, ↓set_1, ↓set_2, ↓set_3, ↓set_4, ↓set_5, ↓set_6, ↓set_7, ↓set_8, ↓set_9, ↓set_10, ↓set_11, ↓set_12, ↓set_13, ↓set_14, ↓set_15, ↓set_16, ↓set_17, h3]
        rw [decide_eq_false h2, Bool.false_and] at q
        have e1 : eqD (.lst ([] ++ [D.int 0] ++ [D.int 1])) (.lst []) = false := rfl
        have e2 : okEq (.lst ([] ++ [D.int 0] ++ [D.int 1])) = true := rfl
        simp only [↓dSeq_eq, ↓wnx_nx, ↓wnx_rt, ↓wnx_bk, ↓wnx_ct, ↓wnx_ex, ↓wlp_nx, ↓wlp_rt, ↓wlp_bk, ↓wlp_ct, ↓wlp_ex, ↓wex_nx, ↓wex_rt, ↓wex_bk, ↓wex_ct, ↓wex_ex, ↓en_nx, ↓en_rt, ↓en_ex, ↓forGo_nil, ↓forGo_cons, ↓dNext, ↓dBreak, ↓dCont, ↓dDrop, ↓dRet, ↓dRetN, ↓dIfS, ↓hName, ↓hNil, ↓hCons, ↓hTup, ↓dAsg, ↓dPar, ↓dTest, ↓dAnd, ↓dOr, ↓dNot, ↓dAndV, ↓dOrV, ↓dNotV, ↓dIf, ↓dVar, ↓dC, ↓dOp, ↓dUn, ↓dNil, ↓dCons, ↓dTup, ↓dLst, ↓dLstM, ↓dCall, ↓dCallK, ↓pick, ↓dCB, ↓dSeqI, ↓dFor, ↓dRange1, ↓dRange2, ↓dRaise, ↓dRaise0, ↓dIsi, ↓dIsi2, ↓oAdd, ↓oSubI, ↓oMulI, ↓oDivI, ↓oModI, ↓oPowI, ↓oSubB, ↓oCmpI, ↓oNeg, ↓oEq, ↓oNe, ↓oIsN, ↓oNotN, ↓oIsB, ↓oIx, ↓cLen, ↓lenQ, ↓D.len?, ↓cAbs, ↓cInt, ↓cMax2, ↓cMin2, ↓cGcd, ↓cSum, ↓cStr, ↓okEq_int, ↓okEq_bl, ↓okEq_non, ↓eqD_int, ↓eqD_bl, ↓eqD_intTup, ↓atI0, ↓atI1, ↓atI2, ↓atI3, ↓ty_int, ↓ty_bl, ↓ty_non, ↓ty_str, ↓ty_tup, ↓ty_lst, ↓endsOf, List.length_cons, List.length_nil, List.map_cons, List.map_nil, Bool.not_true, Bool.not_false, Bool.true_and, Bool.and_true, Bool.false_and, Bool.or_true, Bool.true_or, Bool.false_or, Bool.or_false, ite_true, ite_false, if_true, if_false, Bool.false_eq_true, reduceCtorEq, decide_true, decide_false, true_and, and_true, Bool.not_not, Option.isSome_some, if_false_left, decide_eq_true_eq, Bool.decide_eq_true, ↓isT_non_non, ↓isT_non_bool, ↓isT_non_int, ↓isT_non_str, ↓isT_non_tuple, ↓isT_non_list, ↓isT_non_dict, ↓isT_bool_non, ↓isT_bool_bool, ↓isT_bool_int, ↓isT_bool_str, ↓isT_bool_tuple, ↓isT_bool_list, ↓isT_bool_dict, ↓isT_int_non, ↓isT_int_bool, ↓isT_int_int, ↓isT_int_str, ↓isT_int_tuple, ↓isT_int_list, ↓isT_int_dict, ↓isT_str_non, ↓isT_str_bool, ↓isT_str_int, ↓isT_str_str, ↓isT_str_tuple, ↓isT_str_list, ↓isT_str_dict, ↓isT_tuple_non, ↓isT_tuple_bool, ↓isT_tuple_int, ↓isT_tuple_str, ↓isT_tuple_tuple, ↓isT_tuple_list, ↓isT_tuple_dict, ↓isT_list_non, ↓isT_list_bool, ↓isT_list_int, ↓isT_list_str, ↓isT_list_tuple, ↓isT_list_list, ↓isT_list_dict, ↓isT_dict_non, ↓isT_dict_bool, ↓isT_dict_int, ↓isT_dict_str, ↓isT_dict_tuple, ↓isT_dict_list, ↓isT_dict_dict, ↓slot_0, ↓slot_1, ↓slot_2, ↓slot_3, ↓slot_4, ↓slot_5, ↓slot_6, ↓slot_7, ↓slot_8, ↓slot_9, ↓slot_10, ↓slot_11, ↓slot_12, ↓slot_13, ↓slot_14, ↓slot_15, ↓slot_16, ↓slot_17, ↓set_0, ↓set_1, ↓set_2, ↓set_3, ↓set_4, ↓set_5, ↓set_6, ↓set_7, ↓set_8, ↓set_9, ↓set_10, ↓set_11, ↓set_12, ↓set_13, ↓set_14, ↓set_15, ↓set_16, ↓set_17, eq_nil.1, e1, e2]
        exact ⟨by decide, by decide, _, .refl _, q⟩
end K01
end
section
set_option maxRecDepth 100000
set_option maxHeartbeats 1000000
set_option exponentiation.threshold 100
namespace K01
open PySem PySem.Spec L2 DL
variable {K : PySem.W.Frag}
/-! ### drawn numbers -/
theorem d60 {x : Int} (h : x.natAbs < 1152921504606846976) : szI 9000 x := up_sz (j := 60) h (by decide)
theorem box_le {M : Mst} {a : Addr} {b b' : Nat} (h : b ≤ b') : MLe (updM M a (.box b)) (updM M a (.box b')) := fun x cc e => by
  by_cases z : x = a
  · subst z
    rw [updM_same] at e
    cases e
    exact ⟨_, updM_same, h⟩
  · rw [updM_ne z] at e
    exact ⟨cc, by rw [updM_ne z]; exact e, .refl _⟩
def sp_law_integer : SpD := fun ds M Q _ => ∃ (a : Addr) (b : Nat), ds = [.ref a] ∧ M a = some (.box (b + 5)) ∧ ∀ i : Int, i.natAbs < 1000000000000 → Q (.int i) (updM M a (.box b))
theorem p_law_integer (ds M Q E) (h : sp_law_integer ds M Q E) : t_law_integer K sp_law_take (endsOf Q E) ⟨startD N_law_integer.length ds, M⟩ := by
  obtain ⟨a, b, rfl, hm, q⟩ := h
  show t_law_integer K sp_law_take (endsOf Q E) ⟨[some (.ref a), none, none, none], M⟩
  unfold t_law_integer
  refine seq_all (S' := fun k : Int => ⟨[some (.ref a), some (.int k), none, none], updM M a (.box (b + 4))⟩) (P := fun k => 0 ≤ k ∧ k < 4) (fun R hR => ?_) (fun way hw => ?_)
  · exact ⟨a, 4, b + 4, rfl, hm, by decide, d32 (by decide), fun k h0 h1 => hR k ⟨h0, h1⟩⟩
  refine seq_all (S' := fun k : Int => ⟨[some (.ref a), some (.int way), some (.int k), none], updM M a (.box (b + 4))⟩) (P := fun k => 0 ≤ k ∧ k < 1000000000000) (fun R hR => ?_) (fun most hmo => ?_)
  · have e : way = 0 ∨ way = 1 ∨ way = 2 ∨ way = 3 := by omega
    simp only [↓dSeq_eq, ↓wnx_nx, ↓wnx_rt, ↓wnx_bk, ↓wnx_ct, ↓wnx_ex, ↓wlp_nx, ↓wlp_rt, ↓wlp_bk, ↓wlp_ct, ↓wlp_ex, ↓wex_nx, ↓wex_rt, ↓wex_bk, ↓wex_ct, ↓wex_ex, ↓en_nx, ↓en_rt, ↓en_ex, ↓forGo_nil, ↓forGo_cons, ↓dNext, ↓dBreak, ↓dCont, ↓dDrop, ↓dRet, ↓dRetN, ↓dIfS, ↓hName, ↓hNil, ↓hCons, ↓hTup, ↓dAsg, ↓dPar, ↓dTest, ↓dAnd, ↓dOr, ↓dNot, ↓dAndV, ↓dOrV, ↓dNotV, ↓dIf, ↓dVar, ↓dC, ↓dOp, ↓dUn, ↓dNil, ↓dCons, ↓dTup, ↓dLst, ↓dLstM, ↓dCall, ↓dCallK, ↓pick, ↓dCB, ↓dSeqI, ↓dFor, ↓dRange1, ↓dRange2, ↓dRaise, ↓dRaise0, ↓dIsi, ↓dIsi2, ↓oAdd, ↓oSubI, ↓oMulI, ↓oDivI, ↓oModI, ↓oPowI, ↓oSubB, ↓oCmpI, ↓oNeg, ↓oEq, ↓oNe, ↓oIsN, ↓oNotN, ↓oIsB, ↓oIx, ↓cLen, ↓lenQ, ↓D.len?, ↓cAbs, ↓cInt, ↓cMax2, ↓cMin2, ↓cGcd, ↓cSum, ↓cStr, ↓okEq_int, ↓okEq_bl, ↓okEq_non, ↓eqD_int, ↓eqD_bl, ↓eqD_intTup, ↓atI0, ↓atI1, ↓atI2, ↓atI3, ↓ty_int, ↓ty_bl, ↓ty_non, ↓ty_str, ↓ty_tup, ↓ty_lst, ↓endsOf, List.length_cons, List.length_nil, List.map_cons, List.map_nil, Bool.not_true, Bool.not_false, Bool.true_and, Bool.and_true, Bool.false_and, Bool.or_true, Bool.true_or, Bool.false_or, Bool.or_false, ite_true, ite_false, if_true, if_false, Bool.false_eq_true, reduceCtorEq, decide_true, decide_false, true_and, and_true, Bool.not_not, Option.isSome_some, if_false_left, decide_eq_true_eq, Bool.decide_eq_true, ↓isT_non_non, ↓isT_non_bool, ↓isT_non_int, ↓isT_non_str, ↓isT_non_tuple, ↓isT_non_list, ↓isT_non_dict, ↓isT_bool_non, ↓isT_bool_bool, ↓isT_bool_int, ↓isT_bool_str, ↓isT_bool_tuple, ↓isT_bool_list, ↓isT_bool_dict, ↓isT_int_non, ↓isT_int_bool, ↓isT_int_int, ↓isT_int_str, ↓isT_int_tuple, ↓isT_int_list, ↓isT_int_dict, ↓isT_str_non, ↓isT_str_bool, ↓isT_str_int, ↓isT_str_str, ↓isT_str_tuple, ↓isT_str_list, ↓isT_str_dict, ↓isT_tuple_non, ↓isT_tuple_bool, ↓isT_tuple_int, ↓isT_tuple_str, ↓isT_tuple_tuple, ↓isT_tuple_list, ↓isT_tuple_dict, ↓isT_list_non, ↓isT_list_bool, ↓isT_list_int, ↓isT_list_str, ↓isT_list_tuple, ↓isT_list_list, ↓isT_list_dict, ↓isT_dict_non, ↓isT_dict_bool, ↓isT_dict_int, ↓isT_dict_str, ↓isT_dict_tuple, ↓isT_dict_list, ↓isT_dict_dict, ↓slot_0, ↓slot_1, ↓slot_2, ↓slot_3, ↓slot_4, ↓slot_5, ↓slot_6, ↓slot_7, ↓slot_8, ↓slot_9, ↓slot_10, ↓slot_11, ↓slot_12, ↓slot_13, ↓slot_14, ↓slot_15, ↓slot_16, ↓slot_17, ↓set_0, ↓set_1, ↓set_2, ↓set_3, ↓set_4, ↓set_5, ↓set_6, ↓set_7, ↓set_8, ↓set_9, ↓set_10, ↓set_11, ↓set_12, ↓set_13, ↓set_14, ↓set_15, ↓set_16, ↓set_17]
    refine ⟨⟨by decide, by decide, p64 (by decide)⟩, ⟨by decide, by decide, p64 (by decide)⟩, by decide, ?_⟩
    rcases e with rfl | rfl | rfl | rfl
    · simp only [↓dSeq_eq, ↓wnx_nx, ↓wnx_rt, ↓wnx_bk, ↓wnx_ct, ↓wnx_ex, ↓wlp_nx, ↓wlp_rt, ↓wlp_bk, ↓wlp_ct, ↓wlp_ex, ↓wex_nx, ↓wex_rt, ↓wex_bk, ↓wex_ct, ↓wex_ex, ↓en_nx, ↓en_rt, ↓en_ex, ↓forGo_nil, ↓forGo_cons, ↓dNext, ↓dBreak, ↓dCont, ↓dDrop, ↓dRet, ↓dRetN, ↓dIfS, ↓hName, ↓hNil, ↓hCons, ↓hTup, ↓dAsg, ↓dPar, ↓dTest, ↓dAnd, ↓dOr, ↓dNot, ↓dAndV, ↓dOrV, ↓dNotV, ↓dIf, ↓dVar, ↓dC, ↓dOp, ↓dUn, ↓dNil, ↓dCons, ↓dTup, ↓dLst, ↓dLstM, ↓dCall, ↓dCallK, ↓pick, ↓dCB, ↓dSeqI, ↓dFor, ↓dRange1, ↓dRange2, ↓dRaise, ↓dRaise0, ↓dIsi, ↓dIsi2, ↓oAdd, ↓oSubI, ↓oMulI, ↓oDivI, ↓oModI, ↓oPowI, ↓oSubB, ↓oCmpI, ↓oNeg, ↓oEq, ↓oNe, ↓oIsN, ↓oNotN, ↓oIsB, ↓oIx, ↓cLen, ↓lenQ, ↓D.len?, ↓cAbs, ↓cInt, ↓cMax2, ↓cMin2, ↓cGcd, ↓cSum, ↓cStr, ↓okEq_int, ↓okEq_bl, ↓okEq_non, ↓eqD_int, ↓eqD_bl, ↓eqD_intTup, ↓atI0, ↓atI1, ↓atI2, ↓atI3, ↓ty_int, ↓ty_bl, ↓ty_non, ↓ty_str, ↓ty_tup, ↓ty_lst, ↓endsOf, List.length_cons, List.length_nil, List.map_cons, List.map_nil, Bool.not_true, Bool.not_false, Bool.true_and, Bool.and_true, Bool.false_and, Bool.or_true, Bool.true_or, Bool.false_or, Bool.or_false, ite_true, ite_false, if_true, if_false, Bool.false_eq_true, reduceCtorEq, decide_true, decide_false, true_and, and_true, Bool.not_not, Option.isSome_some, if_false_left, decide_eq_true_eq, Bool.decide_eq_true, ↓isT_non_non, ↓isT_non_bool, ↓isT_non_int, ↓isT_non_str, ↓isT_non_tuple, ↓isT_non_list, ↓isT_non_dict, ↓isT_bool_non, ↓isT_bool_bool, ↓isT_bool_int, ↓isT_bool_str, ↓isT_bool_tuple, ↓isT_bool_list, ↓isT_bool_dict, ↓isT_int_non, ↓isT_int_bool, ↓isT_int_int, ↓isT_int_str, ↓isT_int_tuple, ↓isT_int_list, ↓isT_int_dict, ↓isT_str_non, ↓isT_str_bool, ↓isT_str_int, ↓isT_str_str, ↓isT_str_tuple, ↓isT_str_list, ↓isT_str_dict, ↓isT_tuple_non, ↓isT_tuple_bool, ↓isT_tuple_int, ↓isT_tuple_str, ↓isT_tuple_tuple, ↓isT_tuple_list, ↓isT_tuple_dict, ↓isT_list_non, ↓isT_list_bool, ↓isT_list_int, ↓isT_list_str, ↓isT_list_tuple, ↓isT_list_list, ↓isT_list_dict, ↓isT_dict_non, ↓isT_dict_bool, ↓isT_dict_int, ↓isT_dict_str, ↓isT_dict_tuple, ↓isT_dict_list, ↓isT_dict_dict, ↓slot_0, ↓slot_1, ↓slot_2, ↓slot_3, ↓slot_4, ↓slot_5, ↓slot_6, ↓slot_7, ↓slot_8, ↓slot_9, ↓slot_10, ↓slot_11, ↓slot_12, ↓slot_13, ↓slot_14, ↓slot_15, ↓slot_16, ↓slot_17, ↓set_0, ↓set_1, ↓set_2, ↓set_3, ↓set_4, ↓set_5, ↓set_6, ↓set_7, ↓set_8, ↓set_9, ↓set_10, ↓set_11, ↓set_12, ↓set_13, ↓set_14, ↓set_15, ↓set_16, ↓set_17]; exact hR _ ⟨by decide, by decide⟩
    · simp only [↓dSeq_eq, ↓wnx_nx, ↓wnx_rt, ↓wnx_bk, ↓wnx_ct, ↓wnx_ex, ↓wlp_nx, ↓wlp_rt, ↓wlp_bk, ↓wlp_ct, ↓wlp_ex, ↓wex_nx, ↓wex_rt, ↓wex_bk, ↓wex_ct, ↓wex_ex, ↓en_nx, ↓en_rt, ↓en_ex, ↓forGo_nil, ↓forGo_cons, ↓dNext, ↓dBreak, ↓dCont, ↓dDrop, ↓dRet, ↓dRetN, ↓dIfS, ↓hName, ↓hNil, ↓hCons, ↓hTup, ↓dAsg, ↓dPar, ↓dTest, ↓dAnd, ↓dOr, ↓dNot, ↓dAndV, ↓dOrV, ↓dNotV, ↓dIf, ↓dVar, ↓dC, ↓dOp, ↓dUn, ↓dNil, ↓dCons, ↓dTup, ↓dLst, ↓dLstM, ↓dCall, ↓dCallK, ↓pick, ↓dCB, ↓dSeqI, ↓dFor, ↓dRange1, ↓dRange2, ↓dRaise, ↓dRaise0, ↓dIsi, ↓dIsi2, ↓oAdd, ↓oSubI, ↓oMulI, ↓oDivI, ↓oModI, ↓oPowI, ↓oSubB, ↓oCmpI, ↓oNeg, ↓oEq, ↓oNe, ↓oIsN, ↓oNotN, ↓oIsB, ↓oIx, ↓cLen, ↓lenQ, ↓D.len?, ↓cAbs, ↓cInt, ↓cMax2, ↓cMin2, ↓cGcd, ↓cSum, ↓cStr, ↓okEq_int, ↓okEq_bl, ↓okEq_non, ↓eqD_int, ↓eqD_bl, ↓eqD_intTup, ↓atI0, ↓atI1, ↓atI2, ↓atI3, ↓ty_int, ↓ty_bl, ↓ty_non, ↓ty_str, ↓ty_tup, ↓ty_lst, ↓endsOf, List.length_cons, List.length_nil, List.map_cons, List.map_nil, Bool.not_true, Bool.not_false, Bool.true_and, Bool.and_true, Bool.false_and, Bool.or_true, Bool.true_or, Bool.false_or, Bool.or_false, ite_true, ite_false, if_true, if_false, Bool.false_eq_true, reduceCtorEq, decide_true, decide_false, true_and, and_true, Bool.not_not, Option.isSome_some, if_false_left, decide_eq_true_eq, Bool.decide_eq_true, ↓isT_non_non, ↓isT_non_bool, ↓isT_non_int, ↓isT_non_str, ↓isT_non_tuple, ↓isT_non_list, ↓isT_non_dict, ↓isT_bool_non, ↓isT_bool_bool, ↓isT_bool_int, ↓isT_bool_str, ↓isT_bool_tuple, ↓isT_bool_list, ↓isT_bool_dict, ↓isT_int_non, ↓isT_int_bool, ↓isT_int_int, ↓isT_int_str, ↓isT_int_tuple, ↓isT_int_list, ↓isT_int_dict, ↓isT_str_non, ↓isT_str_bool, ↓isT_str_int, ↓isT_str_str, ↓isT_str_tuple, ↓isT_str_list, ↓isT_str_dict, ↓isT_tuple_non, ↓isT_tuple_bool, ↓isT_tuple_int, ↓isT_tuple_str, ↓isT_tuple_tuple, ↓isT_tuple_list, ↓isT_tuple_dict, ↓isT_list_non, ↓isT_list_bool, ↓isT_list_int, ↓isT_list_str, ↓isT_list_tuple, ↓isT_list_list, ↓isT_list_dict, ↓isT_dict_non, ↓isT_dict_bool, ↓isT_dict_int, ↓isT_dict_str, ↓isT_dict_tuple, ↓isT_dict_list, ↓isT_dict_dict, ↓slot_0, ↓slot_1, ↓slot_2, ↓slot_3, ↓slot_4, ↓slot_5, ↓slot_6, ↓slot_7, ↓slot_8, ↓slot_9, ↓slot_10, ↓slot_11, ↓slot_12, ↓slot_13, ↓slot_14, ↓slot_15, ↓slot_16, ↓slot_17, ↓set_0, ↓set_1, ↓set_2, ↓set_3, ↓set_4, ↓set_5, ↓set_6, ↓set_7, ↓set_8, ↓set_9, ↓set_10, ↓set_11, ↓set_12, ↓set_13, ↓set_14, ↓set_15, ↓set_16, ↓set_17]; exact hR _ ⟨by decide, by decide⟩
    · simp only [↓dSeq_eq, ↓wnx_nx, ↓wnx_rt, ↓wnx_bk, ↓wnx_ct, ↓wnx_ex, ↓wlp_nx, ↓wlp_rt, ↓wlp_bk, ↓wlp_ct, ↓wlp_ex, ↓wex_nx, ↓wex_rt, ↓wex_bk, ↓wex_ct, ↓wex_ex, ↓en_nx, ↓en_rt, ↓en_ex, ↓forGo_nil, ↓forGo_cons, ↓dNext, ↓dBreak, ↓dCont, ↓dDrop, ↓dRet, ↓dRetN, ↓dIfS, ↓hName, ↓hNil, ↓hCons, ↓hTup, ↓dAsg, ↓dPar, ↓dTest, ↓dAnd, ↓dOr, ↓dNot, ↓dAndV, ↓dOrV, ↓dNotV, ↓dIf, ↓dVar, ↓dC, ↓dOp, ↓dUn, ↓dNil, ↓dCons, ↓dTup, ↓dLst, ↓dLstM, ↓dCall, ↓dCallK, ↓pick, ↓dCB, ↓dSeqI, ↓dFor, ↓dRange1, ↓dRange2, ↓dRaise, ↓dRaise0, ↓dIsi, ↓dIsi2, ↓oAdd, ↓oSubI, ↓oMulI, ↓oDivI, ↓oModI, ↓oPowI, ↓oSubB, ↓oCmpI, ↓oNeg, ↓oEq, ↓oNe, ↓oIsN, ↓oNotN, ↓oIsB, ↓oIx, ↓cLen, ↓lenQ, ↓D.len?, ↓cAbs, ↓cInt, ↓cMax2, ↓cMin2, ↓cGcd, ↓cSum, ↓cStr, ↓okEq_int, ↓okEq_bl, ↓okEq_non, ↓eqD_int, ↓eqD_bl, ↓eqD_intTup, ↓atI0, ↓atI1, ↓atI2, ↓atI3, ↓ty_int, ↓ty_bl, ↓ty_non, ↓ty_str, ↓ty_tup, ↓ty_lst, ↓endsOf, List.length_cons, List.length_nil, List.map_cons, List.map_nil, Bool.not_true, Bool.not_false, Bool.true_and, Bool.and_true, Bool.false_and, Bool.or_true, Bool.true_or, Bool.false_or, Bool.or_false, ite_true, ite_false, if_true, if_false, Bool.false_eq_true, reduceCtorEq, decide_true, decide_false, true_and, and_true, Bool.not_not, Option.isSome_some, if_false_left, decide_eq_true_eq, Bool.decide_eq_true, ↓isT_non_non, ↓isT_non_bool, ↓isT_non_int, ↓isT_non_str, ↓isT_non_tuple, ↓isT_non_list, ↓isT_non_dict, ↓isT_bool_non, ↓isT_bool_bool, ↓isT_bool_int, ↓isT_bool_str, ↓isT_bool_tuple, ↓isT_bool_list, ↓isT_bool_dict, ↓isT_int_non, ↓isT_int_bool, ↓isT_int_int, ↓isT_int_str, ↓isT_int_tuple, ↓isT_int_list, ↓isT_int_dict, ↓isT_str_non, ↓isT_str_bool, ↓isT_str_int, ↓isT_str_str, ↓isT_str_tuple, ↓isT_str_list, ↓isT_str_dict, ↓isT_tuple_non, ↓isT_tuple_bool, ↓isT_tuple_int, ↓isT_tuple_str, ↓isT_tuple_tuple, ↓isT_tuple_list, ↓isT_tuple_dict, ↓isT_list_non, ↓isT_list_bool, ↓isT_list_int, ↓isT_list_str, ↓isT_list_tuple, ↓isT_list_list, ↓isT_list_dict, ↓isT_dict_non, ↓isT_dict_bool, ↓isT_dict_int, ↓isT_dict_str, ↓isT_dict_tuple, ↓isT_dict_list, ↓isT_dict_dict, ↓slot_0, ↓slot_1, ↓slot_2, ↓slot_3, ↓slot_4, ↓slot_5, ↓slot_6, ↓slot_7, ↓slot_8, ↓slot_9, ↓slot_10, ↓slot_11, ↓slot_12, ↓slot_13, ↓slot_14, ↓slot_15, ↓slot_16, ↓slot_17, ↓set_0, ↓set_1, ↓set_2, ↓set_3, ↓set_4, ↓set_5, ↓set_6, ↓set_7, ↓set_8, ↓set_9, ↓set_10, ↓set_11, ↓set_12, ↓set_13, ↓set_14, ↓set_15, ↓set_16, ↓set_17]; exact hR _ ⟨by decide, by decide⟩
    · simp only [↓dSeq_eq, ↓wnx_nx, ↓wnx_rt, ↓wnx_bk, ↓wnx_ct, ↓wnx_ex, ↓wlp_nx, ↓wlp_rt, ↓wlp_bk, ↓wlp_ct, ↓wlp_ex, ↓wex_nx, ↓wex_rt, ↓wex_bk, ↓wex_ct, ↓wex_ex, ↓en_nx, ↓en_rt, ↓en_ex, ↓forGo_nil, ↓forGo_cons, ↓dNext, ↓dBreak, ↓dCont, ↓dDrop, ↓dRet, ↓dRetN, ↓dIfS, ↓hName, ↓hNil, ↓hCons, ↓hTup, ↓dAsg, ↓dPar, ↓dTest, ↓dAnd, ↓dOr, ↓dNot, ↓dAndV, ↓dOrV, ↓dNotV, ↓dIf, ↓dVar, ↓dC, ↓dOp, ↓dUn, ↓dNil, ↓dCons, ↓dTup, ↓dLst, ↓dLstM, ↓dCall, ↓dCallK, ↓pick, ↓dCB, ↓dSeqI, ↓dFor, ↓dRange1, ↓dRange2, ↓dRaise, ↓dRaise0, ↓dIsi, ↓dIsi2, ↓oAdd, ↓oSubI, ↓oMulI, ↓oDivI, ↓oModI, ↓oPowI, ↓oSubB, ↓oCmpI, ↓oNeg, ↓oEq, ↓oNe, ↓oIsN, ↓oNotN, ↓oIsB, ↓oIx, ↓cLen, ↓lenQ, ↓D.len?, ↓cAbs, ↓cInt, ↓cMax2, ↓cMin2, ↓cGcd, ↓cSum, ↓cStr, ↓okEq_int, ↓okEq_bl, ↓okEq_non, ↓eqD_int, ↓eqD_bl, ↓eqD_intTup, ↓atI0, ↓atI1, ↓atI2, ↓atI3, ↓ty_int, ↓ty_bl, ↓ty_non, ↓ty_str, ↓ty_tup, ↓ty_lst, ↓endsOf, List.length_cons, List.length_nil, List.map_cons, List.map_nil, Bool.not_true, Bool.not_false, Bool.true_and, Bool.and_true, Bool.false_and, Bool.or_true, Bool.true_or, Bool.false_or, Bool.or_false, ite_true, ite_false, if_true, if_false, Bool.false_eq_true, reduceCtorEq, decide_true, decide_false, true_and, and_true, Bool.not_not, Option.isSome_some, if_false_left, decide_eq_true_eq, Bool.decide_eq_true, ↓isT_non_non, ↓isT_non_bool, ↓isT_non_int, ↓isT_non_str, ↓isT_non_tuple, ↓isT_non_list, ↓isT_non_dict, ↓isT_bool_non, ↓isT_bool_bool, ↓isT_bool_int, ↓isT_bool_str, ↓isT_bool_tuple, ↓isT_bool_list, ↓isT_bool_dict, ↓isT_int_non, ↓isT_int_bool, ↓isT_int_int, ↓isT_int_str, ↓isT_int_tuple, ↓isT_int_list, ↓isT_int_dict, ↓isT_str_non, ↓isT_str_bool, ↓isT_str_int, ↓isT_str_str, ↓isT_str_tuple, ↓isT_str_list, ↓isT_str_dict, ↓isT_tuple_non, ↓isT_tuple_bool, ↓isT_tuple_int, ↓isT_tuple_str, ↓isT_tuple_tuple, ↓isT_tuple_list, ↓isT_tuple_dict, ↓isT_list_non, ↓isT_list_bool, ↓isT_list_int, ↓isT_list_str, ↓isT_list_tuple, ↓isT_list_list, ↓isT_list_dict, ↓isT_dict_non, ↓isT_dict_bool, ↓isT_dict_int, ↓isT_dict_str, ↓isT_dict_tuple, ↓isT_dict_list, ↓isT_dict_dict, ↓slot_0, ↓slot_1, ↓slot_2, ↓slot_3, ↓slot_4, ↓slot_5, ↓slot_6, ↓slot_7, ↓slot_8, ↓slot_9, ↓slot_10, ↓slot_11, ↓slot_12, ↓slot_13, ↓slot_14, ↓slot_15, ↓slot_16, ↓slot_17, ↓set_0, ↓set_1, ↓set_2, ↓set_3, ↓set_4, ↓set_5, ↓set_6, ↓set_7, ↓set_8, ↓set_9, ↓set_10, ↓set_11, ↓set_12, ↓set_13, ↓set_14, ↓set_15, ↓set_16, ↓set_17]; exact hR _ ⟨by decide, by decide⟩
  refine seq_all (S' := fun k : Int => ⟨[some (.ref a), some (.int way), some (.int most), some (.int k)], updM M a (.box (b + 3))⟩) (P := fun k => 0 ≤ k ∧ k ≤ most) (fun R hR => ?_) (fun found hf => ?_)
  · simp only [↓dSeq_eq, ↓wnx_nx, ↓wnx_rt, ↓wnx_bk, ↓wnx_ct, ↓wnx_ex, ↓wlp_nx, ↓wlp_rt, ↓wlp_bk, ↓wlp_ct, ↓wlp_ex, ↓wex_nx, ↓wex_rt, ↓wex_bk, ↓wex_ct, ↓wex_ex, ↓en_nx, ↓en_rt, ↓en_ex, ↓forGo_nil, ↓forGo_cons, ↓dNext, ↓dBreak, ↓dCont, ↓dDrop, ↓dRet, ↓dRetN, ↓dIfS, ↓hName, ↓hNil, ↓hCons, ↓hTup, ↓dAsg, ↓dPar, ↓dTest, ↓dAnd, ↓dOr, ↓dNot, ↓dAndV, ↓dOrV, ↓dNotV, ↓dIf, ↓dVar, ↓dC, ↓dOp, ↓dUn, ↓dNil, ↓dCons, ↓dTup, ↓dLst, ↓dLstM, ↓dCall, ↓dCallK, ↓pick, ↓dCB, ↓dSeqI, ↓dFor, ↓dRange1, ↓dRange2, ↓dRaise, ↓dRaise0, ↓dIsi, ↓dIsi2, ↓oAdd, ↓oSubI, ↓oMulI, ↓oDivI, ↓oModI, ↓oPowI, ↓oSubB, ↓oCmpI, ↓oNeg, ↓oEq, ↓oNe, ↓oIsN, ↓oNotN, ↓oIsB, ↓oIx, ↓cLen, ↓lenQ, ↓D.len?, ↓cAbs, ↓cInt, ↓cMax2, ↓cMin2, ↓cGcd, ↓cSum, ↓cStr, ↓okEq_int, ↓okEq_bl, ↓okEq_non, ↓eqD_int, ↓eqD_bl, ↓eqD_intTup, ↓atI0, ↓atI1, ↓atI2, ↓atI3, ↓ty_int, ↓ty_bl, ↓ty_non, ↓ty_str, ↓ty_tup, ↓ty_lst, ↓endsOf, List.length_cons, List.length_nil, List.map_cons, List.map_nil, Bool.not_true, Bool.not_false, Bool.true_and, Bool.and_true, Bool.false_and, Bool.or_true, Bool.true_or, Bool.false_or, Bool.or_false, ite_true, ite_false, if_true, if_false, Bool.false_eq_true, reduceCtorEq, decide_true, decide_false, true_and, and_true, Bool.not_not, Option.isSome_some, if_false_left, decide_eq_true_eq, Bool.decide_eq_true, ↓isT_non_non, ↓isT_non_bool, ↓isT_non_int, ↓isT_non_str, ↓isT_non_tuple, ↓isT_non_list, ↓isT_non_dict, ↓isT_bool_non, ↓isT_bool_bool, ↓isT_bool_int, ↓isT_bool_str, ↓isT_bool_tuple, ↓isT_bool_list, ↓isT_bool_dict, ↓isT_int_non, ↓isT_int_bool, ↓isT_int_int, ↓isT_int_str, ↓isT_int_tuple, ↓isT_int_list, ↓isT_int_dict, ↓isT_str_non, ↓isT_str_bool, ↓isT_str_int, ↓isT_str_str, ↓isT_str_tuple, ↓isT_str_list, ↓isT_str_dict, ↓isT_tuple_non, ↓isT_tuple_bool, ↓isT_tuple_int, ↓isT_tuple_str, ↓isT_tuple_tuple, ↓isT_tuple_list, ↓isT_tuple_dict, ↓isT_list_non, ↓isT_list_bool, ↓isT_list_int, ↓isT_list_str, ↓isT_list_tuple, ↓isT_list_list, ↓isT_list_dict, ↓isT_dict_non, ↓isT_dict_bool, ↓isT_dict_int, ↓isT_dict_str, ↓isT_dict_tuple, ↓isT_dict_list, ↓isT_dict_dict, ↓slot_0, ↓slot_1, ↓slot_2, ↓slot_3, ↓slot_4, ↓slot_5, ↓slot_6, ↓slot_7, ↓slot_8, ↓slot_9, ↓slot_10, ↓slot_11, ↓slot_12, ↓slot_13, ↓slot_14, ↓slot_15, ↓slot_16, ↓slot_17, ↓set_0, ↓set_1, ↓set_2, ↓set_3, ↓set_4, ↓set_5, ↓set_6, ↓set_7, ↓set_8, ↓set_9, ↓set_10, ↓set_11, ↓set_12, ↓set_13, ↓set_14, ↓set_15, ↓set_16, ↓set_17]
    refine ⟨a, most + 1, b + 3, rfl, updM_same, by omega, d60 (by omega), fun k h0 h1 => ?_⟩
    simp only [↓dSeq_eq, ↓wnx_nx, ↓wnx_rt, ↓wnx_bk, ↓wnx_ct, ↓wnx_ex, ↓wlp_nx, ↓wlp_rt, ↓wlp_bk, ↓wlp_ct, ↓wlp_ex, ↓wex_nx, ↓wex_rt, ↓wex_bk, ↓wex_ct, ↓wex_ex, ↓en_nx, ↓en_rt, ↓en_ex, ↓forGo_nil, ↓forGo_cons, ↓dNext, ↓dBreak, ↓dCont, ↓dDrop, ↓dRet, ↓dRetN, ↓dIfS, ↓hName, ↓hNil, ↓hCons, ↓hTup, ↓dAsg, ↓dPar, ↓dTest, ↓dAnd, ↓dOr, ↓dNot, ↓dAndV, ↓dOrV, ↓dNotV, ↓dIf, ↓dVar, ↓dC, ↓dOp, ↓dUn, ↓dNil, ↓dCons, ↓dTup, ↓dLst, ↓dLstM, ↓dCall, ↓dCallK, ↓pick, ↓dCB, ↓dSeqI, ↓dFor, ↓dRange1, ↓dRange2, ↓dRaise, ↓dRaise0, ↓dIsi, ↓dIsi2, ↓oAdd, ↓oSubI, ↓oMulI, ↓oDivI, ↓oModI, ↓oPowI, ↓oSubB, ↓oCmpI, ↓oNeg, ↓oEq, ↓oNe, ↓oIsN, ↓oNotN, ↓oIsB, ↓oIx, ↓cLen, ↓lenQ, ↓D.len?, ↓cAbs, ↓cInt, ↓cMax2, ↓cMin2, ↓cGcd, ↓cSum, ↓cStr, ↓okEq_int, ↓okEq_bl, ↓okEq_non, ↓eqD_int, ↓eqD_bl, ↓eqD_intTup, ↓atI0, ↓atI1, ↓atI2, ↓atI3, ↓ty_int, ↓ty_bl, ↓ty_non, ↓ty_str, ↓ty_tup, ↓ty_lst, ↓endsOf, List.length_cons, List.length_nil, List.map_cons, List.map_nil, Bool.not_true, Bool.not_false, Bool.true_and, Bool.and_true, Bool.false_and, Bool.or_true, Bool.true_or, Bool.false_or, Bool.or_false, ite_true, ite_false, if_true, if_false, Bool.false_eq_true, reduceCtorEq, decide_true, decide_false, true_and, and_true, Bool.not_not, Option.isSome_some, if_false_left, decide_eq_true_eq, Bool.decide_eq_true, ↓isT_non_non, ↓isT_non_bool, ↓isT_non_int, ↓isT_non_str, ↓isT_non_tuple, ↓isT_non_list, ↓isT_non_dict, ↓isT_bool_non, ↓isT_bool_bool, ↓isT_bool_int, ↓isT_bool_str, ↓isT_bool_tuple, ↓isT_bool_list, ↓isT_bool_dict, ↓isT_int_non, ↓isT_int_bool, ↓isT_int_int, ↓isT_int_str, ↓isT_int_tuple, ↓isT_int_list, ↓isT_int_dict, ↓isT_str_non, ↓isT_str_bool, ↓isT_str_int, ↓isT_str_str, ↓isT_str_tuple, ↓isT_str_list, ↓isT_str_dict, ↓isT_tuple_non, ↓isT_tuple_bool, ↓isT_tuple_int, ↓isT_tuple_str, ↓isT_tuple_tuple, ↓isT_tuple_list, ↓isT_tuple_dict, ↓isT_list_non, ↓isT_list_bool, ↓isT_list_int, ↓isT_list_str, ↓isT_list_tuple, ↓isT_list_list, ↓isT_list_dict, ↓isT_dict_non, ↓isT_dict_bool, ↓isT_dict_int, ↓isT_dict_str, ↓isT_dict_tuple, ↓isT_dict_list, ↓isT_dict_dict, ↓slot_0, ↓slot_1, ↓slot_2, ↓slot_3, ↓slot_4, ↓slot_5, ↓slot_6, ↓slot_7, ↓slot_8, ↓slot_9, ↓slot_10, ↓slot_11, ↓slot_12, ↓slot_13, ↓slot_14, ↓slot_15, ↓slot_16, ↓slot_17, ↓set_0, ↓set_1, ↓set_2, ↓set_3, ↓set_4, ↓set_5, ↓set_6, ↓set_7, ↓set_8, ↓set_9, ↓set_10, ↓set_11, ↓set_12, ↓set_13, ↓set_14, ↓set_15, ↓set_16, ↓set_17, updM_updM]
    exact hR k ⟨h0, by omega⟩
  have fin : ∀ (i : Int) (b' : Nat), b ≤ b' → i.natAbs < 1000000000000 → (dRet (dIf (dTest (dOp oEq (dCall sp_law_take (dCons (dVar 0) (dCons (dC (.int 2)) dNil))) (dC (.int 0)))) (dUn oNeg (dVar 3)) (dVar 3))) (endsOf Q E) ⟨[some (.ref a), some (.int way), some (.int most), some (.int i)], updM M a (.box (b' + 1))⟩ := fun i b' hb hi => by
    simp only [↓dSeq_eq, ↓wnx_nx, ↓wnx_rt, ↓wnx_bk, ↓wnx_ct, ↓wnx_ex, ↓wlp_nx, ↓wlp_rt, ↓wlp_bk, ↓wlp_ct, ↓wlp_ex, ↓wex_nx, ↓wex_rt, ↓wex_bk, ↓wex_ct, ↓wex_ex, ↓en_nx, ↓en_rt, ↓en_ex, ↓forGo_nil, ↓forGo_cons, ↓dNext, ↓dBreak, ↓dCont, ↓dDrop, ↓dRet, ↓dRetN, ↓dIfS, ↓hName, ↓hNil, ↓hCons, ↓hTup, ↓dAsg, ↓dPar, ↓dTest, ↓dAnd, ↓dOr, ↓dNot, ↓dAndV, ↓dOrV, ↓dNotV, ↓dIf, ↓dVar, ↓dC, ↓dOp, ↓dUn, ↓dNil, ↓dCons, ↓dTup, ↓dLst, ↓dLstM, ↓dCall, ↓dCallK, ↓pick, ↓dCB, ↓dSeqI, ↓dFor, ↓dRange1, ↓dRange2, ↓dRaise, ↓dRaise0, ↓dIsi, ↓dIsi2, ↓oAdd, ↓oSubI, ↓oMulI, ↓oDivI, ↓oModI, ↓oPowI, ↓oSubB, ↓oCmpI, ↓oNeg, ↓oEq, ↓oNe, ↓oIsN, ↓oNotN, ↓oIsB, ↓oIx, ↓cLen, ↓lenQ, ↓D.len?, ↓cAbs, ↓cInt, ↓cMax2, ↓cMin2, ↓cGcd, ↓cSum, ↓cStr, ↓okEq_int, ↓okEq_bl, ↓okEq_non, ↓eqD_int, ↓eqD_bl, ↓eqD_intTup, ↓atI0, ↓atI1, ↓atI2, ↓atI3, ↓ty_int, ↓ty_bl, ↓ty_non, ↓ty_str, ↓ty_tup, ↓ty_lst, ↓endsOf, List.length_cons, List.length_nil, List.map_cons, List.map_nil, Bool.not_true, Bool.not_false, Bool.true_and, Bool.and_true, Bool.false_and, Bool.or_true, Bool.true_or, Bool.false_or, Bool.or_false, ite_true, ite_false, if_true, if_false, Bool.false_eq_true, reduceCtorEq, decide_true, decide_false, true_and, and_true, Bool.not_not, Option.isSome_some, if_false_left, decide_eq_true_eq, Bool.decide_eq_true, ↓isT_non_non, ↓isT_non_bool, ↓isT_non_int, ↓isT_non_str, ↓isT_non_tuple, ↓isT_non_list, ↓isT_non_dict, ↓isT_bool_non, ↓isT_bool_bool, ↓isT_bool_int, ↓isT_bool_str, ↓isT_bool_tuple, ↓isT_bool_list, ↓isT_bool_dict, ↓isT_int_non, ↓isT_int_bool, ↓isT_int_int, ↓isT_int_str, ↓isT_int_tuple, ↓isT_int_list, ↓isT_int_dict, ↓isT_str_non, ↓isT_str_bool, ↓isT_str_int, ↓isT_str_str, ↓isT_str_tuple, ↓isT_str_list, ↓isT_str_dict, ↓isT_tuple_non, ↓isT_tuple_bool, ↓isT_tuple_int, ↓isT_tuple_str, ↓isT_tuple_tuple, ↓isT_tuple_list, ↓isT_tuple_dict, ↓isT_list_non, ↓isT_list_bool, ↓isT_list_int, ↓isT_list_str, ↓isT_list_tuple, ↓isT_list_list, ↓isT_list_dict, ↓isT_dict_non, ↓isT_dict_bool, ↓isT_dict_int, ↓isT_dict_str, ↓isT_dict_tuple, ↓isT_dict_list, ↓isT_dict_dict, ↓slot_0, ↓slot_1, ↓slot_2, ↓slot_3, ↓slot_4, ↓slot_5, ↓slot_6, ↓slot_7, ↓slot_8, ↓slot_9, ↓slot_10, ↓slot_11, ↓slot_12, ↓slot_13, ↓slot_14, ↓slot_15, ↓slot_16, ↓slot_17, ↓set_0, ↓set_1, ↓set_2, ↓set_3, ↓set_4, ↓set_5, ↓set_6, ↓set_7, ↓set_8, ↓set_9, ↓set_10, ↓set_11, ↓set_12, ↓set_13, ↓set_14, ↓set_15, ↓set_16, ↓set_17]
    refine ⟨a, 2, b', rfl, updM_same, by decide, d32 (by decide), fun k h0 h1 => ?_⟩
    by_cases e : k = 0
    · simp only [↓dSeq_eq, ↓wnx_nx, ↓wnx_rt, ↓wnx_bk, ↓wnx_ct, ↓wnx_ex, ↓wlp_nx, ↓wlp_rt, ↓wlp_bk, ↓wlp_ct, ↓wlp_ex, ↓wex_nx, ↓wex_rt, ↓wex_bk, ↓wex_ct, ↓wex_ex, ↓en_nx, ↓en_rt, ↓en_ex, ↓forGo_nil, ↓forGo_cons, ↓dNext, ↓dBreak, ↓dCont, ↓dDrop, ↓dRet, ↓dRetN, ↓dIfS, ↓hName, ↓hNil, ↓hCons, ↓hTup, ↓dAsg, ↓dPar, ↓dTest, ↓dAnd, ↓dOr, ↓dNot, ↓dAndV, ↓dOrV, ↓dNotV, ↓dIf, ↓dVar, ↓dC, ↓dOp, ↓dUn, ↓dNil, ↓dCons, ↓dTup, ↓dLst, ↓dLstM, ↓dCall, ↓dCallK, ↓pick, ↓dCB, ↓dSeqI, ↓dFor, ↓dRange1, ↓dRange2, ↓dRaise, ↓dRaise0, ↓dIsi, ↓dIsi2, ↓oAdd, ↓oSubI, ↓oMulI, ↓oDivI, ↓oModI, ↓oPowI, ↓oSubB, ↓oCmpI, ↓oNeg, ↓oEq, ↓oNe, ↓oIsN, ↓oNotN, ↓oIsB, ↓oIx, ↓cLen, ↓lenQ, ↓D.len?, ↓cAbs, ↓cInt, ↓cMax2, ↓cMin2, ↓cGcd, ↓cSum, ↓cStr, ↓okEq_int, ↓okEq_bl, ↓okEq_non, ↓eqD_int, ↓eqD_bl, ↓eqD_intTup, ↓atI0, ↓atI1, ↓atI2, ↓atI3, ↓ty_int, ↓ty_bl, ↓ty_non, ↓ty_str, ↓ty_tup, ↓ty_lst, ↓endsOf, List.length_cons, List.length_nil, List.map_cons, List.map_nil, Bool.not_true, Bool.not_false, Bool.true_and, Bool.and_true, Bool.false_and, Bool.or_true, Bool.true_or, Bool.false_or, Bool.or_false, ite_true, ite_false, if_true, if_false, Bool.false_eq_true, reduceCtorEq, decide_true, decide_false, true_and, and_true, Bool.not_not, Option.isSome_some, if_false_left, decide_eq_true_eq, Bool.decide_eq_true, ↓isT_non_non, ↓isT_non_bool, ↓isT_non_int, ↓isT_non_str, ↓isT_non_tuple, ↓isT_non_list, ↓isT_non_dict, ↓isT_bool_non, ↓isT_bool_bool, ↓isT_bool_int, ↓isT_bool_str, ↓isT_bool_tuple, ↓isT_bool_list, ↓isT_bool_dict, ↓isT_int_non, ↓isT_int_bool, ↓isT_int_int, ↓isT_int_str, ↓isT_int_tuple, ↓isT_int_list, ↓isT_int_dict, ↓isT_str_non, ↓isT_str_bool, ↓isT_str_int, ↓isT_str_str, ↓isT_str_tuple, ↓isT_str_list, ↓isT_str_dict, ↓isT_tuple_non, ↓isT_tuple_bool, ↓isT_tuple_int, ↓isT_tuple_str, ↓isT_tuple_tuple, ↓isT_tuple_list, ↓isT_tuple_dict, ↓isT_list_non, ↓isT_list_bool, ↓isT_list_int, ↓isT_list_str, ↓isT_list_tuple, ↓isT_list_list, ↓isT_list_dict, ↓isT_dict_non, ↓isT_dict_bool, ↓isT_dict_int, ↓isT_dict_str, ↓isT_dict_tuple, ↓isT_dict_list, ↓isT_dict_dict, ↓slot_0, ↓slot_1, ↓slot_2, ↓slot_3, ↓slot_4, ↓slot_5, ↓slot_6, ↓slot_7, ↓slot_8, ↓slot_9, ↓slot_10, ↓slot_11, ↓slot_12, ↓slot_13, ↓slot_14, ↓slot_15, ↓slot_16, ↓slot_17, ↓set_0, ↓set_1, ↓set_2, ↓set_3, ↓set_4, ↓set_5, ↓set_6, ↓set_7, ↓set_8, ↓set_9, ↓set_10, ↓set_11, ↓set_12, ↓set_13, ↓set_14, ↓set_15, ↓set_16, ↓set_17, e, updM_updM]
      exact ⟨_, box_le hb, q _ (by omega)⟩
    · simp only [↓dSeq_eq, ↓wnx_nx, ↓wnx_rt, ↓wnx_bk, ↓wnx_ct, ↓wnx_ex, ↓wlp_nx, ↓wlp_rt, ↓wlp_bk, ↓wlp_ct, ↓wlp_ex, ↓wex_nx, ↓wex_rt, ↓wex_bk, ↓wex_ct, ↓wex_ex, ↓en_nx, ↓en_rt, ↓en_ex, ↓forGo_nil, ↓forGo_cons, ↓dNext, ↓dBreak, ↓dCont, ↓dDrop, ↓dRet, ↓dRetN, ↓dIfS, ↓hName, ↓hNil, ↓hCons, ↓hTup, ↓dAsg, ↓dPar, ↓dTest, ↓dAnd, ↓dOr, ↓dNot, ↓dAndV, ↓dOrV, ↓dNotV, ↓dIf, ↓dVar, ↓dC, ↓dOp, ↓dUn, ↓dNil, ↓dCons, ↓dTup, ↓dLst, ↓dLstM, ↓dCall, ↓dCallK, ↓pick, ↓dCB, ↓dSeqI, ↓dFor, ↓dRange1, ↓dRange2, ↓dRaise, ↓dRaise0, ↓dIsi, ↓dIsi2, ↓oAdd, ↓oSubI, ↓oMulI, ↓oDivI, ↓oModI, ↓oPowI, ↓oSubB, ↓oCmpI, ↓oNeg, ↓oEq, ↓oNe, ↓oIsN, ↓oNotN, ↓oIsB, ↓oIx, ↓cLen, ↓lenQ, ↓D.len?, ↓cAbs, ↓cInt, ↓cMax2, ↓cMin2, ↓cGcd, ↓cSum, ↓cStr, ↓okEq_int, ↓okEq_bl, ↓okEq_non, ↓eqD_int, ↓eqD_bl, ↓eqD_intTup, ↓atI0, ↓atI1, ↓atI2, ↓atI3, ↓ty_int, ↓ty_bl, ↓ty_non, ↓ty_str, ↓ty_tup, ↓ty_lst, ↓endsOf, List.length_cons, List.length_nil, List.map_cons, List.map_nil, Bool.not_true, Bool.not_false, Bool.true_and, Bool.and_true, Bool.false_and, Bool.or_true, Bool.true_or, Bool.false_or, Bool.or_false, ite_true, ite_false, if_true, if_false, Bool.false_eq_true, reduceCtorEq, decide_true, decide_false, true_and, and_true, Bool.not_not, Option.isSome_some, if_false_left, decide_eq_true_eq, Bool.decide_eq_true, ↓isT_non_non, ↓isT_non_bool, ↓isT_non_int, ↓isT_non_str, ↓isT_non_tuple, ↓isT_non_list, ↓isT_non_dict, ↓isT_bool_non, ↓isT_bool_bool, ↓isT_bool_int, ↓isT_bool_str, ↓isT_bool_tuple, ↓isT_bool_list, ↓isT_bool_dict, ↓isT_int_non, ↓isT_int_bool, ↓isT_int_int, ↓isT_int_str, ↓isT_int_tuple, ↓isT_int_list, ↓isT_int_dict, ↓isT_str_non, ↓isT_str_bool, ↓isT_str_int, ↓isT_str_str, ↓isT_str_tuple, ↓isT_str_list, ↓isT_str_dict, ↓isT_tuple_non, ↓isT_tuple_bool, ↓isT_tuple_int, ↓isT_tuple_str, ↓isT_tuple_tuple, ↓isT_tuple_list, ↓isT_tuple_dict, ↓isT_list_non, ↓isT_list_bool, ↓isT_list_int, ↓isT_list_str, ↓isT_list_tuple, ↓isT_list_list, ↓isT_list_dict, ↓isT_dict_non, ↓isT_dict_bool, ↓isT_dict_int, ↓isT_dict_str, ↓isT_dict_tuple, ↓isT_dict_list, ↓isT_dict_dict, ↓slot_0, ↓slot_1, ↓slot_2, ↓slot_3, ↓slot_4, ↓slot_5, ↓slot_6, ↓slot_7, ↓slot_8, ↓slot_9, ↓slot_10, ↓slot_11, ↓slot_12, ↓slot_13, ↓slot_14, ↓slot_15, ↓slot_16, ↓slot_17, ↓set_0, ↓set_1, ↓set_2, ↓set_3, ↓set_4, ↓set_5, ↓set_6, ↓set_7, ↓set_8, ↓set_9, ↓set_10, ↓set_11, ↓set_12, ↓set_13, ↓set_14, ↓set_15, ↓set_16, ↓set_17, e, updM_updM]
      exact ⟨_, box_le hb, q _ hi⟩
  by_cases hmm : (1000000 : Int) < most
  · refine seq_all (α := Nat × Int) (S' := fun k => ⟨[some (.ref a), some (.int way), some (.int most), some (.int k.2)], updM M a (.box (k.1 + 1))⟩) (P := fun k => b ≤ k.1 ∧ k.2.natAbs < 1000000000000) (fun R hR => ?_) (fun k hk => fin k.2 k.1 hk.1 hk.2)
    have e10 : (10 : Int) ^ Int.toNat 6 = 1000000 := rfl
    simp only [↓dSeq_eq, ↓wnx_nx, ↓wnx_rt, ↓wnx_bk, ↓wnx_ct, ↓wnx_ex, ↓wlp_nx, ↓wlp_rt, ↓wlp_bk, ↓wlp_ct, ↓wlp_ex, ↓wex_nx, ↓wex_rt, ↓wex_bk, ↓wex_ct, ↓wex_ex, ↓en_nx, ↓en_rt, ↓en_ex, ↓forGo_nil, ↓forGo_cons, ↓dNext, ↓dBreak, ↓dCont, ↓dDrop, ↓dRet, ↓dRetN, ↓dIfS, ↓hName, ↓hNil, ↓hCons, ↓hTup, ↓dAsg, ↓dPar, ↓dTest, ↓dAnd, ↓dOr, ↓dNot, ↓dAndV, ↓dOrV, ↓dNotV, ↓dIf, ↓dVar, ↓dC, ↓dOp, ↓dUn, ↓dNil, ↓dCons, ↓dTup, ↓dLst, ↓dLstM, ↓dCall, ↓dCallK, ↓pick, ↓dCB, ↓dSeqI, ↓dFor, ↓dRange1, ↓dRange2, ↓dRaise, ↓dRaise0, ↓dIsi, ↓dIsi2, ↓oAdd, ↓oSubI, ↓oMulI, ↓oDivI, ↓oModI, ↓oPowI, ↓oSubB, ↓oCmpI, ↓oNeg, ↓oEq, ↓oNe, ↓oIsN, ↓oNotN, ↓oIsB, ↓oIx, ↓cLen, ↓lenQ, ↓D.len?, ↓cAbs, ↓cInt, ↓cMax2, ↓cMin2, ↓cGcd, ↓cSum, ↓cStr, ↓okEq_int, ↓okEq_bl, ↓okEq_non, ↓eqD_int, ↓eqD_bl, ↓eqD_intTup, ↓atI0, ↓atI1, ↓atI2, ↓atI3, ↓ty_int, ↓ty_bl, ↓ty_non, ↓ty_str, ↓ty_tup, ↓ty_lst, ↓endsOf, List.length_cons, List.length_nil, List.map_cons, List.map_nil, Bool.not_true, Bool.not_false, Bool.true_and, Bool.and_true, Bool.false_and, Bool.or_true, Bool.true_or, Bool.false_or, Bool.or_false, ite_true, ite_false, if_true, if_false, Bool.false_eq_true, reduceCtorEq, decide_true, decide_false, true_and, and_true, Bool.not_not, Option.isSome_some, if_false_left, decide_eq_true_eq, Bool.decide_eq_true, ↓isT_non_non, ↓isT_non_bool, ↓isT_non_int, ↓isT_non_str, ↓isT_non_tuple, ↓isT_non_list, ↓isT_non_dict, ↓isT_bool_non, ↓isT_bool_bool, ↓isT_bool_int, ↓isT_bool_str, ↓isT_bool_tuple, ↓isT_bool_list, ↓isT_bool_dict, ↓isT_int_non, ↓isT_int_bool, ↓isT_int_int, ↓isT_int_str, ↓isT_int_tuple, ↓isT_int_list, ↓isT_int_dict, ↓isT_str_non, ↓isT_str_bool, ↓isT_str_int, ↓isT_str_str, ↓isT_str_tuple, ↓isT_str_list, ↓isT_str_dict, ↓isT_tuple_non, ↓isT_tuple_bool, ↓isT_tuple_int, ↓isT_tuple_str, ↓isT_tuple_tuple, ↓isT_tuple_list, ↓isT_tuple_dict, ↓isT_list_non, ↓isT_list_bool, ↓isT_list_int, ↓isT_list_str, ↓isT_list_tuple, ↓isT_list_list, ↓isT_list_dict, ↓isT_dict_non, ↓isT_dict_bool, ↓isT_dict_int, ↓isT_dict_str, ↓isT_dict_tuple, ↓isT_dict_list, ↓isT_dict_dict, ↓slot_0, ↓slot_1, ↓slot_2, ↓slot_3, ↓slot_4, ↓slot_5, ↓slot_6, ↓slot_7, ↓slot_8, ↓slot_9, ↓slot_10, ↓slot_11, ↓slot_12, ↓slot_13, ↓slot_14, ↓slot_15, ↓slot_16, ↓slot_17, ↓set_0, ↓set_1, ↓set_2, ↓set_3, ↓set_4, ↓set_5, ↓set_6, ↓set_7, ↓set_8, ↓set_9, ↓set_10, ↓set_11, ↓set_12, ↓set_13, ↓set_14, ↓set_15, ↓set_16, ↓set_17, e10, hmm]
    refine ⟨⟨by decide, by decide, p64 (by decide)⟩, a, 2, b + 2, rfl, updM_same, by decide, d32 (by decide), fun k h0 h1 => ?_⟩
    by_cases e : k = 0
    · simp only [↓dSeq_eq, ↓wnx_nx, ↓wnx_rt, ↓wnx_bk, ↓wnx_ct, ↓wnx_ex, ↓wlp_nx, ↓wlp_rt, ↓wlp_bk, ↓wlp_ct, ↓wlp_ex, ↓wex_nx, ↓wex_rt, ↓wex_bk, ↓wex_ct, ↓wex_ex, ↓en_nx, ↓en_rt, ↓en_ex, ↓forGo_nil, ↓forGo_cons, ↓dNext, ↓dBreak, ↓dCont, ↓dDrop, ↓dRet, ↓dRetN, ↓dIfS, ↓hName, ↓hNil, ↓hCons, ↓hTup, ↓dAsg, ↓dPar, ↓dTest, ↓dAnd, ↓dOr, ↓dNot, ↓dAndV, ↓dOrV, ↓dNotV, ↓dIf, ↓dVar, ↓dC, ↓dOp, ↓dUn, ↓dNil, ↓dCons, ↓dTup, ↓dLst, ↓dLstM, ↓dCall, ↓dCallK, ↓pick, ↓dCB, ↓dSeqI, ↓dFor, ↓dRange1, ↓dRange2, ↓dRaise, ↓dRaise0, ↓dIsi, ↓dIsi2, ↓oAdd, ↓oSubI, ↓oMulI, ↓oDivI, ↓oModI, ↓oPowI, ↓oSubB, ↓oCmpI, ↓oNeg, ↓oEq, ↓oNe, ↓oIsN, ↓oNotN, ↓oIsB, ↓oIx, ↓cLen, ↓lenQ, ↓D.len?, ↓cAbs, ↓cInt, ↓cMax2, ↓cMin2, ↓cGcd, ↓cSum, ↓cStr, ↓okEq_int, ↓okEq_bl, ↓okEq_non, ↓eqD_int, ↓eqD_bl, ↓eqD_intTup, ↓atI0, ↓atI1, ↓atI2, ↓atI3, ↓ty_int, ↓ty_bl, ↓ty_non, ↓ty_str, ↓ty_tup, ↓ty_lst, ↓endsOf, List.length_cons, List.length_nil, List.map_cons, List.map_nil, Bool.not_true, Bool.not_false, Bool.true_and, Bool.and_true, Bool.false_and, Bool.or_true, Bool.true_or, Bool.false_or, Bool.or_false, ite_true, ite_false, if_true, if_false, Bool.false_eq_true, reduceCtorEq, decide_true, decide_false, true_and, and_true, Bool.not_not, Option.isSome_some, if_false_left, decide_eq_true_eq, Bool.decide_eq_true, ↓isT_non_non, ↓isT_non_bool, ↓isT_non_int, ↓isT_non_str, ↓isT_non_tuple, ↓isT_non_list, ↓isT_non_dict, ↓isT_bool_non, ↓isT_bool_bool, ↓isT_bool_int, ↓isT_bool_str, ↓isT_bool_tuple, ↓isT_bool_list, ↓isT_bool_dict, ↓isT_int_non, ↓isT_int_bool, ↓isT_int_int, ↓isT_int_str, ↓isT_int_tuple, ↓isT_int_list, ↓isT_int_dict, ↓isT_str_non, ↓isT_str_bool, ↓isT_str_int, ↓isT_str_str, ↓isT_str_tuple, ↓isT_str_list, ↓isT_str_dict, ↓isT_tuple_non, ↓isT_tuple_bool, ↓isT_tuple_int, ↓isT_tuple_str, ↓isT_tuple_tuple, ↓isT_tuple_list, ↓isT_tuple_dict, ↓isT_list_non, ↓isT_list_bool, ↓isT_list_int, ↓isT_list_str, ↓isT_list_tuple, ↓isT_list_list, ↓isT_list_dict, ↓isT_dict_non, ↓isT_dict_bool, ↓isT_dict_int, ↓isT_dict_str, ↓isT_dict_tuple, ↓isT_dict_list, ↓isT_dict_dict, ↓slot_0, ↓slot_1, ↓slot_2, ↓slot_3, ↓slot_4, ↓slot_5, ↓slot_6, ↓slot_7, ↓slot_8, ↓slot_9, ↓slot_10, ↓slot_11, ↓slot_12, ↓slot_13, ↓slot_14, ↓slot_15, ↓slot_16, ↓slot_17, ↓set_0, ↓set_1, ↓set_2, ↓set_3, ↓set_4, ↓set_5, ↓set_6, ↓set_7, ↓set_8, ↓set_9, ↓set_10, ↓set_11, ↓set_12, ↓set_13, ↓set_14, ↓set_15, ↓set_16, ↓set_17, e, updM_updM]
      refine ⟨a, 9, b + 1, rfl, updM_same, by decide, d32 (by decide), fun k h0 h1 => ?_⟩
      simp only [↓dSeq_eq, ↓wnx_nx, ↓wnx_rt, ↓wnx_bk, ↓wnx_ct, ↓wnx_ex, ↓wlp_nx, ↓wlp_rt, ↓wlp_bk, ↓wlp_ct, ↓wlp_ex, ↓wex_nx, ↓wex_rt, ↓wex_bk, ↓wex_ct, ↓wex_ex, ↓en_nx, ↓en_rt, ↓en_ex, ↓forGo_nil, ↓forGo_cons, ↓dNext, ↓dBreak, ↓dCont, ↓dDrop, ↓dRet, ↓dRetN, ↓dIfS, ↓hName, ↓hNil, ↓hCons, ↓hTup, ↓dAsg, ↓dPar, ↓dTest, ↓dAnd, ↓dOr, ↓dNot, ↓dAndV, ↓dOrV, ↓dNotV, ↓dIf, ↓dVar, ↓dC, ↓dOp, ↓dUn, ↓dNil, ↓dCons, ↓dTup, ↓dLst, ↓dLstM, ↓dCall, ↓dCallK, ↓pick, ↓dCB, ↓dSeqI, ↓dFor, ↓dRange1, ↓dRange2, ↓dRaise, ↓dRaise0, ↓dIsi, ↓dIsi2, ↓oAdd, ↓oSubI, ↓oMulI, ↓oDivI, ↓oModI, ↓oPowI, ↓oSubB, ↓oCmpI, ↓oNeg, ↓oEq, ↓oNe, ↓oIsN, ↓oNotN, ↓oIsB, ↓oIx, ↓cLen, ↓lenQ, ↓D.len?, ↓cAbs, ↓cInt, ↓cMax2, ↓cMin2, ↓cGcd, ↓cSum, ↓cStr, ↓okEq_int, ↓okEq_bl, ↓okEq_non, ↓eqD_int, ↓eqD_bl, ↓eqD_intTup, ↓atI0, ↓atI1, ↓atI2, ↓atI3, ↓ty_int, ↓ty_bl, ↓ty_non, ↓ty_str, ↓ty_tup, ↓ty_lst, ↓endsOf, List.length_cons, List.length_nil, List.map_cons, List.map_nil, Bool.not_true, Bool.not_false, Bool.true_and, Bool.and_true, Bool.false_and, Bool.or_true, Bool.true_or, Bool.false_or, Bool.or_false, ite_true, ite_false, if_true, if_false, Bool.false_eq_true, reduceCtorEq, decide_true, decide_false, true_and, and_true, Bool.not_not, Option.isSome_some, if_false_left, decide_eq_true_eq, Bool.decide_eq_true, ↓isT_non_non, ↓isT_non_bool, ↓isT_non_int, ↓isT_non_str, ↓isT_non_tuple, ↓isT_non_list, ↓isT_non_dict, ↓isT_bool_non, ↓isT_bool_bool, ↓isT_bool_int, ↓isT_bool_str, ↓isT_bool_tuple, ↓isT_bool_list, ↓isT_bool_dict, ↓isT_int_non, ↓isT_int_bool, ↓isT_int_int, ↓isT_int_str, ↓isT_int_tuple, ↓isT_int_list, ↓isT_int_dict, ↓isT_str_non, ↓isT_str_bool, ↓isT_str_int, ↓isT_str_str, ↓isT_str_tuple, ↓isT_str_list, ↓isT_str_dict, ↓isT_tuple_non, ↓isT_tuple_bool, ↓isT_tuple_int, ↓isT_tuple_str, ↓isT_tuple_tuple, ↓isT_tuple_list, ↓isT_tuple_dict, ↓isT_list_non, ↓isT_list_bool, ↓isT_list_int, ↓isT_list_str, ↓isT_list_tuple, ↓isT_list_list, ↓isT_list_dict, ↓isT_dict_non, ↓isT_dict_bool, ↓isT_dict_int, ↓isT_dict_str, ↓isT_dict_tuple, ↓isT_dict_list, ↓isT_dict_dict, ↓slot_0, ↓slot_1, ↓slot_2, ↓slot_3, ↓slot_4, ↓slot_5, ↓slot_6, ↓slot_7, ↓slot_8, ↓slot_9, ↓slot_10, ↓slot_11, ↓slot_12, ↓slot_13, ↓slot_14, ↓slot_15, ↓slot_16, ↓slot_17, ↓set_0, ↓set_1, ↓set_2, ↓set_3, ↓set_4, ↓set_5, ↓set_6, ↓set_7, ↓set_8, ↓set_9, ↓set_10, ↓set_11, ↓set_12, ↓set_13, ↓set_14, ↓set_15, ↓set_16, ↓set_17, updM_updM]
      exact hR (b, most - k) ⟨Nat.le_refl _, by show (most - k).natAbs < _; omega⟩
    · simp only [↓dSeq_eq, ↓wnx_nx, ↓wnx_rt, ↓wnx_bk, ↓wnx_ct, ↓wnx_ex, ↓wlp_nx, ↓wlp_rt, ↓wlp_bk, ↓wlp_ct, ↓wlp_ex, ↓wex_nx, ↓wex_rt, ↓wex_bk, ↓wex_ct, ↓wex_ex, ↓en_nx, ↓en_rt, ↓en_ex, ↓forGo_nil, ↓forGo_cons, ↓dNext, ↓dBreak, ↓dCont, ↓dDrop, ↓dRet, ↓dRetN, ↓dIfS, ↓hName, ↓hNil, ↓hCons, ↓hTup, ↓dAsg, ↓dPar, ↓dTest, ↓dAnd, ↓dOr, ↓dNot, ↓dAndV, ↓dOrV, ↓dNotV, ↓dIf, ↓dVar, ↓dC, ↓dOp, ↓dUn, ↓dNil, ↓dCons, ↓dTup, ↓dLst, ↓dLstM, ↓dCall, ↓dCallK, ↓pick, ↓dCB, ↓dSeqI, ↓dFor, ↓dRange1, ↓dRange2, ↓dRaise, ↓dRaise0, ↓dIsi, ↓dIsi2, ↓oAdd, ↓oSubI, ↓oMulI, ↓oDivI, ↓oModI, ↓oPowI, ↓oSubB, ↓oCmpI, ↓oNeg, ↓oEq, ↓oNe, ↓oIsN, ↓oNotN, ↓oIsB, ↓oIx, ↓cLen, ↓lenQ, ↓D.len?, ↓cAbs, ↓cInt, ↓cMax2, ↓cMin2, ↓cGcd, ↓cSum, ↓cStr, ↓okEq_int, ↓okEq_bl, ↓okEq_non, ↓eqD_int, ↓eqD_bl, ↓eqD_intTup, ↓atI0, ↓atI1, ↓atI2, ↓atI3, ↓ty_int, ↓ty_bl, ↓ty_non, ↓ty_str, ↓ty_tup, ↓ty_lst, ↓endsOf, List.length_cons, List.length_nil, List.map_cons, List.map_nil, Bool.not_true, Bool.not_false, Bool.true_and, Bool.and_true, Bool.false_and, Bool.or_true, Bool.true_or, Bool.false_or, Bool.or_false, ite_true, ite_false, if_true, if_false, Bool.false_eq_true, reduceCtorEq, decide_true, decide_false, true_and, and_true, Bool.not_not, Option.isSome_some, if_false_left, decide_eq_true_eq, Bool.decide_eq_true, ↓isT_non_non, ↓isT_non_bool, ↓isT_non_int, ↓isT_non_str, ↓isT_non_tuple, ↓isT_non_list, ↓isT_non_dict, ↓isT_bool_non, ↓isT_bool_bool, ↓isT_bool_int, ↓isT_bool_str, ↓isT_bool_tuple, ↓isT_bool_list, ↓isT_bool_dict, ↓isT_int_non, ↓isT_int_bool, ↓isT_int_int, ↓isT_int_str, ↓isT_int_tuple, ↓isT_int_list, ↓isT_int_dict, ↓isT_str_non, ↓isT_str_bool, ↓isT_str_int, ↓isT_str_str, ↓isT_str_tuple, ↓isT_str_list, ↓isT_str_dict, ↓isT_tuple_non, ↓isT_tuple_bool, ↓isT_tuple_int, ↓isT_tuple_str, ↓isT_tuple_tuple, ↓isT_tuple_list, ↓isT_tuple_dict, ↓isT_list_non, ↓isT_list_bool, ↓isT_list_int, ↓isT_list_str, ↓isT_list_tuple, ↓isT_list_list, ↓isT_list_dict, ↓isT_dict_non, ↓isT_dict_bool, ↓isT_dict_int, ↓isT_dict_str, ↓isT_dict_tuple, ↓isT_dict_list, ↓isT_dict_dict, ↓slot_0, ↓slot_1, ↓slot_2, ↓slot_3, ↓slot_4, ↓slot_5, ↓slot_6, ↓slot_7, ↓slot_8, ↓slot_9, ↓slot_10, ↓slot_11, ↓slot_12, ↓slot_13, ↓slot_14, ↓slot_15, ↓slot_16, ↓slot_17, ↓set_0, ↓set_1, ↓set_2, ↓set_3, ↓set_4, ↓set_5, ↓set_6, ↓set_7, ↓set_8, ↓set_9, ↓set_10, ↓set_11, ↓set_12, ↓set_13, ↓set_14, ↓set_15, ↓set_16, ↓set_17, e, updM_updM]
      exact hR (b + 1, found) ⟨by show b ≤ b + 1; omega, by show found.natAbs < _; omega⟩
  · refine seq_to (S' := ⟨[some (.ref a), some (.int way), some (.int most), some (.int found)], updM M a (.box (b + 3))⟩) (fun R hR => ?_) (fin found (b + 2) (by omega) (by omega))
    have e10 : (10 : Int) ^ Int.toNat 6 = 1000000 := rfl
    simp only [↓dSeq_eq, ↓wnx_nx, ↓wnx_rt, ↓wnx_bk, ↓wnx_ct, ↓wnx_ex, ↓wlp_nx, ↓wlp_rt, ↓wlp_bk, ↓wlp_ct, ↓wlp_ex, ↓wex_nx, ↓wex_rt, ↓wex_bk, ↓wex_ct, ↓wex_ex, ↓en_nx, ↓en_rt, ↓en_ex, ↓forGo_nil, ↓forGo_cons, ↓dNext, ↓dBreak, ↓dCont, ↓dDrop, ↓dRet, ↓dRetN, ↓dIfS, ↓hName, ↓hNil, ↓hCons, ↓hTup, ↓dAsg, ↓dPar, ↓dTest, ↓dAnd, ↓dOr, ↓dNot, ↓dAndV, ↓dOrV, ↓dNotV, ↓dIf, ↓dVar, ↓dC, ↓dOp, ↓dUn, ↓dNil, ↓dCons, ↓dTup, ↓dLst, ↓dLstM, ↓dCall, ↓dCallK, ↓pick, ↓dCB, ↓dSeqI, ↓dFor, ↓dRange1, ↓dRange2, ↓dRaise, ↓dRaise0, ↓dIsi, ↓dIsi2, ↓oAdd, ↓oSubI, ↓oMulI, ↓oDivI, ↓oModI, ↓oPowI, ↓oSubB, ↓oCmpI, ↓oNeg, ↓oEq, ↓oNe, ↓oIsN, ↓oNotN, ↓oIsB, ↓oIx, ↓cLen, ↓lenQ, ↓D.len?, ↓cAbs, ↓cInt, ↓cMax2, ↓cMin2, ↓cGcd, ↓cSum, ↓cStr, ↓okEq_int, ↓okEq_bl, ↓okEq_non, ↓eqD_int, ↓eqD_bl, ↓eqD_intTup, ↓atI0, ↓atI1, ↓atI2, ↓atI3, ↓ty_int, ↓ty_bl, ↓ty_non, ↓ty_str, ↓ty_tup, ↓ty_lst, ↓endsOf, List.length_cons, List.length_nil, List.map_cons, List.map_nil, Bool.not_true, Bool.not_false, Bool.true_and, Bool.and_true, Bool.false_and, Bool.or_true, Bool.true_or, Bool.false_or, Bool.or_false, ite_true, ite_false, if_true, if_false, Bool.false_eq_true, reduceCtorEq, decide_true, decide_false, true_and, and_true, Bool.not_not, Option.isSome_some, if_false_left, decide_eq_true_eq, Bool.decide_eq_true, ↓isT_non_non, ↓isT_non_bool, ↓isT_non_int, ↓isT_non_str, ↓isT_non_tuple, ↓isT_non_list, ↓isT_non_dict, ↓isT_bool_non, ↓isT_bool_bool, ↓isT_bool_int, ↓isT_bool_str, ↓isT_bool_tuple, ↓isT_bool_list, ↓isT_bool_dict, ↓isT_int_non, ↓isT_int_bool, ↓isT_int_int, ↓isT_int_str, ↓isT_int_tuple, ↓isT_int_list, ↓isT_int_dict, ↓isT_str_non, ↓isT_str_bool, ↓isT_str_int, ↓isT_str_str, ↓isT_str_tuple, ↓isT_str_list, ↓isT_str_dict, ↓isT_tuple_non, ↓isT_tuple_bool, ↓isT_tuple_int, ↓isT_tuple_str, ↓isT_tuple_tuple, ↓isT_tuple_list, ↓isT_tuple_dict, ↓isT_list_non, ↓isT_list_bool, ↓isT_list_int, ↓isT_list_str, ↓isT_list_tuple, ↓isT_list_list, ↓isT_list_dict, ↓isT_dict_non, ↓isT_dict_bool, ↓isT_dict_int, ↓isT_dict_str, ↓isT_dict_tuple, ↓isT_dict_list, ↓isT_dict_dict, ↓slot_0, ↓slot_1, ↓slot_2, ↓slot_3, ↓slot_4, ↓slot_5, ↓slot_6, ↓slot_7, ↓slot_8, ↓slot_9, ↓slot_10, ↓slot_11, ↓slot_12, ↓slot_13, ↓slot_14, ↓slot_15, ↓slot_16, ↓slot_17, ↓set_0, ↓set_1, ↓set_2, ↓set_3, ↓set_4, ↓set_5, ↓set_6, ↓set_7, ↓set_8, ↓set_9, ↓set_10, ↓set_11, ↓set_12, ↓set_13, ↓set_14, ↓set_15, ↓set_16, ↓set_17, e10, hmm]
    exact ⟨⟨by decide, by decide, p64 (by decide)⟩, hR⟩
def sp_law_fraction : SpD := fun ds M Q _ => ∃ (a : Addr) (b : Nat), ds = [.ref a] ∧ M a = some (.box (b + 10)) ∧ ∀ p, Fr 42 p → Q (pD p) (updM M a (.box b))
theorem p42 {x : Int} (h : x.natAbs < 1000000000000) : x.natAbs < 2 ^ 42 := by
  have : x.natAbs < 4398046511104 := by omega
  exact this
theorem p_law_fraction (ds M Q E) (h : sp_law_fraction ds M Q E) : t_law_fraction K sp_law_low sp_law_integer (endsOf Q E) ⟨startD N_law_fraction.length ds, M⟩ := by
  obtain ⟨a, b, rfl, hm, q⟩ := h
  show t_law_fraction K sp_law_low sp_law_integer (endsOf Q E) ⟨[some (.ref a)], M⟩
  simp only [↓dSeq_eq, ↓wnx_nx, ↓wnx_rt, ↓wnx_bk, ↓wnx_ct, ↓wnx_ex, ↓wlp_nx, ↓wlp_rt, ↓wlp_bk, ↓wlp_ct, ↓wlp_ex, ↓wex_nx, ↓wex_rt, ↓wex_bk, ↓wex_ct, ↓wex_ex, ↓en_nx, ↓en_rt, ↓en_ex, ↓forGo_nil, ↓forGo_cons, ↓dNext, ↓dBreak, ↓dCont, ↓dDrop, ↓dRet, ↓dRetN, ↓dIfS, ↓hName, ↓hNil, ↓hCons, ↓hTup, ↓dAsg, ↓dPar, ↓dTest, ↓dAnd, ↓dOr, ↓dNot, ↓dAndV, ↓dOrV, ↓dNotV, ↓dIf, ↓dVar, ↓dC, ↓dOp, ↓dUn, ↓dNil, ↓dCons, ↓dTup, ↓dLst, ↓dLstM, ↓dCall, ↓dCallK, ↓pick, ↓dCB, ↓dSeqI, ↓dFor, ↓dRange1, ↓dRange2, ↓dRaise, ↓dRaise0, ↓dIsi, ↓dIsi2, ↓oAdd, ↓oSubI, ↓oMulI, ↓oDivI, ↓oModI, ↓oPowI, ↓oSubB, ↓oCmpI, ↓oNeg, ↓oEq, ↓oNe, ↓oIsN, ↓oNotN, ↓oIsB, ↓oIx, ↓cLen, ↓lenQ, ↓D.len?, ↓cAbs, ↓cInt, ↓cMax2, ↓cMin2, ↓cGcd, ↓cSum, ↓cStr, ↓okEq_int, ↓okEq_bl, ↓okEq_non, ↓eqD_int, ↓eqD_bl, ↓eqD_intTup, ↓atI0, ↓atI1, ↓atI2, ↓atI3, ↓ty_int, ↓ty_bl, ↓ty_non, ↓ty_str, ↓ty_tup, ↓ty_lst, ↓endsOf, List.length_cons, List.length_nil, List.map_cons, List.map_nil, Bool.not_true, Bool.not_false, Bool.true_and, Bool.and_true, Bool.false_and, Bool.or_true, Bool.true_or, Bool.false_or, Bool.or_false, ite_true, ite_false, if_true, if_false, Bool.false_eq_true, reduceCtorEq, decide_true, decide_false, true_and, and_true, Bool.not_not, Option.isSome_some, if_false_left, decide_eq_true_eq, Bool.decide_eq_true, ↓isT_non_non, ↓isT_non_bool, ↓isT_non_int, ↓isT_non_str, ↓isT_non_tuple, ↓isT_non_list, ↓isT_non_dict, ↓isT_bool_non, ↓isT_bool_bool, ↓isT_bool_int, ↓isT_bool_str, ↓isT_bool_tuple, ↓isT_bool_list, ↓isT_bool_dict, ↓isT_int_non, ↓isT_int_bool, ↓isT_int_int, ↓isT_int_str, ↓isT_int_tuple, ↓isT_int_list, ↓isT_int_dict, ↓isT_str_non, ↓isT_str_bool, ↓isT_str_int, ↓isT_str_str, ↓isT_str_tuple, ↓isT_str_list, ↓isT_str_dict, ↓isT_tuple_non, ↓isT_tuple_bool, ↓isT_tuple_int, ↓isT_tuple_str, ↓isT_tuple_tuple, ↓isT_tuple_list, ↓isT_tuple_dict, ↓isT_list_non, ↓isT_list_bool, ↓isT_list_int, ↓isT_list_str, ↓isT_list_tuple, ↓isT_list_list, ↓isT_list_dict, ↓isT_dict_non, ↓isT_dict_bool, ↓isT_dict_int, ↓isT_dict_str, ↓isT_dict_tuple, ↓isT_dict_list, ↓isT_dict_dict, ↓slot_0, ↓slot_1, ↓slot_2, ↓slot_3, ↓slot_4, ↓slot_5, ↓slot_6, ↓slot_7, ↓slot_8, ↓slot_9, ↓slot_10, ↓slot_11, ↓slot_12, ↓slot_13, ↓slot_14, ↓slot_15, ↓slot_16, ↓slot_17, ↓set_0, ↓set_1, ↓set_2, ↓set_3, ↓set_4, ↓set_5, ↓set_6, ↓set_7, ↓set_8, ↓set_9, ↓set_10, ↓set_11, ↓set_12, ↓set_13, ↓set_14, ↓set_15, ↓set_16, ↓set_17, ↓t_law_fraction]
  refine ⟨a, b + 5, rfl, hm, fun i hi => ?_⟩
  simp only [↓dSeq_eq, ↓wnx_nx, ↓wnx_rt, ↓wnx_bk, ↓wnx_ct, ↓wnx_ex, ↓wlp_nx, ↓wlp_rt, ↓wlp_bk, ↓wlp_ct, ↓wlp_ex, ↓wex_nx, ↓wex_rt, ↓wex_bk, ↓wex_ct, ↓wex_ex, ↓en_nx, ↓en_rt, ↓en_ex, ↓forGo_nil, ↓forGo_cons, ↓dNext, ↓dBreak, ↓dCont, ↓dDrop, ↓dRet, ↓dRetN, ↓dIfS, ↓hName, ↓hNil, ↓hCons, ↓hTup, ↓dAsg, ↓dPar, ↓dTest, ↓dAnd, ↓dOr, ↓dNot, ↓dAndV, ↓dOrV, ↓dNotV, ↓dIf, ↓dVar, ↓dC, ↓dOp, ↓dUn, ↓dNil, ↓dCons, ↓dTup, ↓dLst, ↓dLstM, ↓dCall, ↓dCallK, ↓pick, ↓dCB, ↓dSeqI, ↓dFor, ↓dRange1, ↓dRange2, ↓dRaise, ↓dRaise0, ↓dIsi, ↓dIsi2, ↓oAdd, ↓oSubI, ↓oMulI, ↓oDivI, ↓oModI, ↓oPowI, ↓oSubB, ↓oCmpI, ↓oNeg, ↓oEq, ↓oNe, ↓oIsN, ↓oNotN, ↓oIsB, ↓oIx, ↓cLen, ↓lenQ, ↓D.len?, ↓cAbs, ↓cInt, ↓cMax2, ↓cMin2, ↓cGcd, ↓cSum, ↓cStr, ↓okEq_int, ↓okEq_bl, ↓okEq_non, ↓eqD_int, ↓eqD_bl, ↓eqD_intTup, ↓atI0, ↓atI1, ↓atI2, ↓atI3, ↓ty_int, ↓ty_bl, ↓ty_non, ↓ty_str, ↓ty_tup, ↓ty_lst, ↓endsOf, List.length_cons, List.length_nil, List.map_cons, List.map_nil, Bool.not_true, Bool.not_false, Bool.true_and, Bool.and_true, Bool.false_and, Bool.or_true, Bool.true_or, Bool.false_or, Bool.or_false, ite_true, ite_false, if_true, if_false, Bool.false_eq_true, reduceCtorEq, decide_true, decide_false, true_and, and_true, Bool.not_not, Option.isSome_some, if_false_left, decide_eq_true_eq, Bool.decide_eq_true, ↓isT_non_non, ↓isT_non_bool, ↓isT_non_int, ↓isT_non_str, ↓isT_non_tuple, ↓isT_non_list, ↓isT_non_dict, ↓isT_bool_non, ↓isT_bool_bool, ↓isT_bool_int, ↓isT_bool_str, ↓isT_bool_tuple, ↓isT_bool_list, ↓isT_bool_dict, ↓isT_int_non, ↓isT_int_bool, ↓isT_int_int, ↓isT_int_str, ↓isT_int_tuple, ↓isT_int_list, ↓isT_int_dict, ↓isT_str_non, ↓isT_str_bool, ↓isT_str_int, ↓isT_str_str, ↓isT_str_tuple, ↓isT_str_list, ↓isT_str_dict, ↓isT_tuple_non, ↓isT_tuple_bool, ↓isT_tuple_int, ↓isT_tuple_str, ↓isT_tuple_tuple, ↓isT_tuple_list, ↓isT_tuple_dict, ↓isT_list_non, ↓isT_list_bool, ↓isT_list_int, ↓isT_list_str, ↓isT_list_tuple, ↓isT_list_list, ↓isT_list_dict, ↓isT_dict_non, ↓isT_dict_bool, ↓isT_dict_int, ↓isT_dict_str, ↓isT_dict_tuple, ↓isT_dict_list, ↓isT_dict_dict, ↓slot_0, ↓slot_1, ↓slot_2, ↓slot_3, ↓slot_4, ↓slot_5, ↓slot_6, ↓slot_7, ↓slot_8, ↓slot_9, ↓slot_10, ↓slot_11, ↓slot_12, ↓slot_13, ↓slot_14, ↓slot_15, ↓slot_16, ↓slot_17, ↓set_0, ↓set_1, ↓set_2, ↓set_3, ↓set_4, ↓set_5, ↓set_6, ↓set_7, ↓set_8, ↓set_9, ↓set_10, ↓set_11, ↓set_12, ↓set_13, ↓set_14, ↓set_15, ↓set_16, ↓set_17]
  refine ⟨a, b, rfl, updM_same, fun j hj => ?_⟩
  simp only [↓dSeq_eq, ↓wnx_nx, ↓wnx_rt, ↓wnx_bk, ↓wnx_ct, ↓wnx_ex, ↓wlp_nx, ↓wlp_rt, ↓wlp_bk, ↓wlp_ct, ↓wlp_ex, ↓wex_nx, ↓wex_rt, ↓wex_bk, ↓wex_ct, ↓wex_ex, ↓en_nx, ↓en_rt, ↓en_ex, ↓forGo_nil, ↓forGo_cons, ↓dNext, ↓dBreak, ↓dCont, ↓dDrop, ↓dRet, ↓dRetN, ↓dIfS, ↓hName, ↓hNil, ↓hCons, ↓hTup, ↓dAsg, ↓dPar, ↓dTest, ↓dAnd, ↓dOr, ↓dNot, ↓dAndV, ↓dOrV, ↓dNotV, ↓dIf, ↓dVar, ↓dC, ↓dOp, ↓dUn, ↓dNil, ↓dCons, ↓dTup, ↓dLst, ↓dLstM, ↓dCall, ↓dCallK, ↓pick, ↓dCB, ↓dSeqI, ↓dFor, ↓dRange1, ↓dRange2, ↓dRaise, ↓dRaise0, ↓dIsi, ↓dIsi2, ↓oAdd, ↓oSubI, ↓oMulI, ↓oDivI, ↓oModI, ↓oPowI, ↓oSubB, ↓oCmpI, ↓oNeg, ↓oEq, ↓oNe, ↓oIsN, ↓oNotN, ↓oIsB, ↓oIx, ↓cLen, ↓lenQ, ↓D.len?, ↓cAbs, ↓cInt, ↓cMax2, ↓cMin2, ↓cGcd, ↓cSum, ↓cStr, ↓okEq_int, ↓okEq_bl, ↓okEq_non, ↓eqD_int, ↓eqD_bl, ↓eqD_intTup, ↓atI0, ↓atI1, ↓atI2, ↓atI3, ↓ty_int, ↓ty_bl, ↓ty_non, ↓ty_str, ↓ty_tup, ↓ty_lst, ↓endsOf, List.length_cons, List.length_nil, List.map_cons, List.map_nil, Bool.not_true, Bool.not_false, Bool.true_and, Bool.and_true, Bool.false_and, Bool.or_true, Bool.true_or, Bool.false_or, Bool.or_false, ite_true, ite_false, if_true, if_false, Bool.false_eq_true, reduceCtorEq, decide_true, decide_false, true_and, and_true, Bool.not_not, Option.isSome_some, if_false_left, decide_eq_true_eq, Bool.decide_eq_true, ↓isT_non_non, ↓isT_non_bool, ↓isT_non_int, ↓isT_non_str, ↓isT_non_tuple, ↓isT_non_list, ↓isT_non_dict, ↓isT_bool_non, ↓isT_bool_bool, ↓isT_bool_int, ↓isT_bool_str, ↓isT_bool_tuple, ↓isT_bool_list, ↓isT_bool_dict, ↓isT_int_non, ↓isT_int_bool, ↓isT_int_int, ↓isT_int_str, ↓isT_int_tuple, ↓isT_int_list, ↓isT_int_dict, ↓isT_str_non, ↓isT_str_bool, ↓isT_str_int, ↓isT_str_str, ↓isT_str_tuple, ↓isT_str_list, ↓isT_str_dict, ↓isT_tuple_non, ↓isT_tuple_bool, ↓isT_tuple_int, ↓isT_tuple_str, ↓isT_tuple_tuple, ↓isT_tuple_list, ↓isT_tuple_dict, ↓isT_list_non, ↓isT_list_bool, ↓isT_list_int, ↓isT_list_str, ↓isT_list_tuple, ↓isT_list_list, ↓isT_list_dict, ↓isT_dict_non, ↓isT_dict_bool, ↓isT_dict_int, ↓isT_dict_str, ↓isT_dict_tuple, ↓isT_dict_list, ↓isT_dict_dict, ↓slot_0, ↓slot_1, ↓slot_2, ↓slot_3, ↓slot_4, ↓slot_5, ↓slot_6, ↓slot_7, ↓slot_8, ↓slot_9, ↓slot_10, ↓slot_11, ↓slot_12, ↓slot_13, ↓slot_14, ↓slot_15, ↓slot_16, ↓slot_17, ↓set_0, ↓set_1, ↓set_2, ↓set_3, ↓set_4, ↓set_5, ↓set_6, ↓set_7, ↓set_8, ↓set_9, ↓set_10, ↓set_11, ↓set_12, ↓set_13, ↓set_14, ↓set_15, ↓set_16, ↓set_17, updM_updM, abs_if]
  have h1 : (if (1 : Int) < (j.natAbs : Int) then (j.natAbs : Int) else 1) ≠ 0 := by split <;> omega
  have h2 : (if (1 : Int) < (j.natAbs : Int) then (j.natAbs : Int) else 1).natAbs < 1000000000000 := by split <;> omega
  exact ⟨_, _, rfl, h1, up_sz (p42 h2) (by decide), _, .refl _, q _ (low_fr h1 (p42 hi) (p42 h2))⟩
def sp_law_beside : SpD := fun ds M Q _ => ∃ (a : Addr) (b : Nat) (x : Int × Int), ds = [.ref a, pD x] ∧ M a = some (.box (b + 12)) ∧ Fr 42 x ∧ ∀ p, Fr 42 p → Q (pD p) (updM M a (.box b))
theorem p_law_beside (ds M Q E) (h : sp_law_beside ds M Q E) : t_law_beside K sp_law_take sp_law_fraction sp_law_low (endsOf Q E) ⟨startD N_law_beside.length ds, M⟩ := by
  obtain ⟨a, b, ⟨n, d⟩, rfl, hm, hx, q⟩ := h
  show t_law_beside K sp_law_take sp_law_fraction sp_law_low (endsOf Q E) ⟨[some (.ref a), some (.tup [.int n, .int d]), none], M⟩
  unfold t_law_beside
  have hd : 0 < d := hx.pos
  have hn1 : n.natAbs < 2 ^ 42 := hx.n1
  have hd1 : d.natAbs < 2 ^ 42 := hx.n2
  refine seq_all (S' := fun k : Int => ⟨[some (.ref a), some (.tup [.int n, .int d]), some (.int k)], updM M a (.box (b + 11))⟩) (P := fun k => 0 ≤ k ∧ k < 6) (fun R hR => ?_) (fun way hw => ?_)
  · exact ⟨a, 6, b + 11, rfl, hm, by decide, d32 (by decide), fun k h0 h1 => hR k ⟨h0, h1⟩⟩
  have leaf : ∀ p, Fr 42 p → ∀ b', b ≤ b' → ∃ M_1, MLe M_1 (updM M a (.box b')) ∧ Q (pD p) M_1 := fun p hp b' hb => ⟨_, box_le hb, q p hp⟩
  refine cond_if (S' := ⟨[some (.ref a), some (.tup [.int n, .int d]), some (.int way)], updM M a (.box (b + 11))⟩) (decide (way = 0)) (fun R E hR => ?_) (fun e R => ?_) (fun e0 => ?_)
  · simp only [↓dSeq_eq, ↓wnx_nx, ↓wnx_rt, ↓wnx_bk, ↓wnx_ct, ↓wnx_ex, ↓wlp_nx, ↓wlp_rt, ↓wlp_bk, ↓wlp_ct, ↓wlp_ex, ↓wex_nx, ↓wex_rt, ↓wex_bk, ↓wex_ct, ↓wex_ex, ↓en_nx, ↓en_rt, ↓en_ex, ↓forGo_nil, ↓forGo_cons, ↓dNext, ↓dBreak, ↓dCont, ↓dDrop, ↓dRet, ↓dRetN, ↓dIfS, ↓hName, ↓hNil, ↓hCons, ↓hTup, ↓dAsg, ↓dPar, ↓dTest, ↓dAnd, ↓dOr, ↓dNot, ↓dAndV, ↓dOrV, ↓dNotV, ↓dIf, ↓dVar, ↓dC, ↓dOp, ↓dUn, ↓dNil, ↓dCons, ↓dTup, ↓dLst, ↓dLstM, ↓dCall, ↓dCallK, ↓pick, ↓dCB, ↓dSeqI, ↓dFor, ↓dRange1, ↓dRange2, ↓dRaise, ↓dRaise0, ↓dIsi, ↓dIsi2, ↓oAdd, ↓oSubI, ↓oMulI, ↓oDivI, ↓oModI, ↓oPowI, ↓oSubB, ↓oCmpI, ↓oNeg, ↓oEq, ↓oNe, ↓oIsN, ↓oNotN, ↓oIsB, ↓oIx, ↓cLen, ↓lenQ, ↓D.len?, ↓cAbs, ↓cInt, ↓cMax2, ↓cMin2, ↓cGcd, ↓cSum, ↓cStr, ↓okEq_int, ↓okEq_bl, ↓okEq_non, ↓eqD_int, ↓eqD_bl, ↓eqD_intTup, ↓atI0, ↓atI1, ↓atI2, ↓atI3, ↓ty_int, ↓ty_bl, ↓ty_non, ↓ty_str, ↓ty_tup, ↓ty_lst, ↓endsOf, List.length_cons, List.length_nil, List.map_cons, List.map_nil, Bool.not_true, Bool.not_false, Bool.true_and, Bool.and_true, Bool.false_and, Bool.or_true, Bool.true_or, Bool.false_or, Bool.or_false, ite_true, ite_false, if_true, if_false, Bool.false_eq_true, reduceCtorEq, decide_true, decide_false, true_and, and_true, Bool.not_not, Option.isSome_some, if_false_left, decide_eq_true_eq, Bool.decide_eq_true, ↓isT_non_non, ↓isT_non_bool, ↓isT_non_int, ↓isT_non_str, ↓isT_non_tuple, ↓isT_non_list, ↓isT_non_dict, ↓isT_bool_non, ↓isT_bool_bool, ↓isT_bool_int, ↓isT_bool_str, ↓isT_bool_tuple, ↓isT_bool_list, ↓isT_bool_dict, ↓isT_int_non, ↓isT_int_bool, ↓isT_int_int, ↓isT_int_str, ↓isT_int_tuple, ↓isT_int_list, ↓isT_int_dict, ↓isT_str_non, ↓isT_str_bool, ↓isT_str_int, ↓isT_str_str, ↓isT_str_tuple, ↓isT_str_list, ↓isT_str_dict, ↓isT_tuple_non, ↓isT_tuple_bool, ↓isT_tuple_int, ↓isT_tuple_str, ↓isT_tuple_tuple, ↓isT_tuple_list, ↓isT_tuple_dict, ↓isT_list_non, ↓isT_list_bool, ↓isT_list_int, ↓isT_list_str, ↓isT_list_tuple, ↓isT_list_list, ↓isT_list_dict, ↓isT_dict_non, ↓isT_dict_bool, ↓isT_dict_int, ↓isT_dict_str, ↓isT_dict_tuple, ↓isT_dict_list, ↓isT_dict_dict, ↓slot_0, ↓slot_1, ↓slot_2, ↓slot_3, ↓slot_4, ↓slot_5, ↓slot_6, ↓slot_7, ↓slot_8, ↓slot_9, ↓slot_10, ↓slot_11, ↓slot_12, ↓slot_13, ↓slot_14, ↓slot_15, ↓slot_16, ↓slot_17, ↓set_0, ↓set_1, ↓set_2, ↓set_3, ↓set_4, ↓set_5, ↓set_6, ↓set_7, ↓set_8, ↓set_9, ↓set_10, ↓set_11, ↓set_12, ↓set_13, ↓set_14, ↓set_15, ↓set_16, ↓set_17]; exact hR
  · simp only [↓dSeq_eq, ↓wnx_nx, ↓wnx_rt, ↓wnx_bk, ↓wnx_ct, ↓wnx_ex, ↓wlp_nx, ↓wlp_rt, ↓wlp_bk, ↓wlp_ct, ↓wlp_ex, ↓wex_nx, ↓wex_rt, ↓wex_bk, ↓wex_ct, ↓wex_ex, ↓en_nx, ↓en_rt, ↓en_ex, ↓forGo_nil, ↓forGo_cons, ↓dNext, ↓dBreak, ↓dCont, ↓dDrop, ↓dRet, ↓dRetN, ↓dIfS, ↓hName, ↓hNil, ↓hCons, ↓hTup, ↓dAsg, ↓dPar, ↓dTest, ↓dAnd, ↓dOr, ↓dNot, ↓dAndV, ↓dOrV, ↓dNotV, ↓dIf, ↓dVar, ↓dC, ↓dOp, ↓dUn, ↓dNil, ↓dCons, ↓dTup, ↓dLst, ↓dLstM, ↓dCall, ↓dCallK, ↓pick, ↓dCB, ↓dSeqI, ↓dFor, ↓dRange1, ↓dRange2, ↓dRaise, ↓dRaise0, ↓dIsi, ↓dIsi2, ↓oAdd, ↓oSubI, ↓oMulI, ↓oDivI, ↓oModI, ↓oPowI, ↓oSubB, ↓oCmpI, ↓oNeg, ↓oEq, ↓oNe, ↓oIsN, ↓oNotN, ↓oIsB, ↓oIx, ↓cLen, ↓lenQ, ↓D.len?, ↓cAbs, ↓cInt, ↓cMax2, ↓cMin2, ↓cGcd, ↓cSum, ↓cStr, ↓okEq_int, ↓okEq_bl, ↓okEq_non, ↓eqD_int, ↓eqD_bl, ↓eqD_intTup, ↓atI0, ↓atI1, ↓atI2, ↓atI3, ↓ty_int, ↓ty_bl, ↓ty_non, ↓ty_str, ↓ty_tup, ↓ty_lst, ↓endsOf, List.length_cons, List.length_nil, List.map_cons, List.map_nil, Bool.not_true, Bool.not_false, Bool.true_and, Bool.and_true, Bool.false_and, Bool.or_true, Bool.true_or, Bool.false_or, Bool.or_false, ite_true, ite_false, if_true, if_false, Bool.false_eq_true, reduceCtorEq, decide_true, decide_false, true_and, and_true, Bool.not_not, Option.isSome_some, if_false_left, decide_eq_true_eq, Bool.decide_eq_true, ↓isT_non_non, ↓isT_non_bool, ↓isT_non_int, ↓isT_non_str, ↓isT_non_tuple, ↓isT_non_list, ↓isT_non_dict, ↓isT_bool_non, ↓isT_bool_bool, ↓isT_bool_int, ↓isT_bool_str, ↓isT_bool_tuple, ↓isT_bool_list, ↓isT_bool_dict, ↓isT_int_non, ↓isT_int_bool, ↓isT_int_int, ↓isT_int_str, ↓isT_int_tuple, ↓isT_int_list, ↓isT_int_dict, ↓isT_str_non, ↓isT_str_bool, ↓isT_str_int, ↓isT_str_str, ↓isT_str_tuple, ↓isT_str_list, ↓isT_str_dict, ↓isT_tuple_non, ↓isT_tuple_bool, ↓isT_tuple_int, ↓isT_tuple_str, ↓isT_tuple_tuple, ↓isT_tuple_list, ↓isT_tuple_dict, ↓isT_list_non, ↓isT_list_bool, ↓isT_list_int, ↓isT_list_str, ↓isT_list_tuple, ↓isT_list_list, ↓isT_list_dict, ↓isT_dict_non, ↓isT_dict_bool, ↓isT_dict_int, ↓isT_dict_str, ↓isT_dict_tuple, ↓isT_dict_list, ↓isT_dict_dict, ↓slot_0, ↓slot_1, ↓slot_2, ↓slot_3, ↓slot_4, ↓slot_5, ↓slot_6, ↓slot_7, ↓slot_8, ↓slot_9, ↓slot_10, ↓slot_11, ↓slot_12, ↓slot_13, ↓slot_14, ↓slot_15, ↓slot_16, ↓slot_17, ↓set_0, ↓set_1, ↓set_2, ↓set_3, ↓set_4, ↓set_5, ↓set_6, ↓set_7, ↓set_8, ↓set_9, ↓set_10, ↓set_11, ↓set_12, ↓set_13, ↓set_14, ↓set_15, ↓set_16, ↓set_17]; exact leaf _ hx _ (by omega)
  refine cond_if (S' := ⟨[some (.ref a), some (.tup [.int n, .int d]), some (.int way)], updM M a (.box (b + 11))⟩) (decide (way = 1)) (fun R E hR => ?_) (fun e R => ?_) (fun e1 => ?_)
  · simp only [↓dSeq_eq, ↓wnx_nx, ↓wnx_rt, ↓wnx_bk, ↓wnx_ct, ↓wnx_ex, ↓wlp_nx, ↓wlp_rt, ↓wlp_bk, ↓wlp_ct, ↓wlp_ex, ↓wex_nx, ↓wex_rt, ↓wex_bk, ↓wex_ct, ↓wex_ex, ↓en_nx, ↓en_rt, ↓en_ex, ↓forGo_nil, ↓forGo_cons, ↓dNext, ↓dBreak, ↓dCont, ↓dDrop, ↓dRet, ↓dRetN, ↓dIfS, ↓hName, ↓hNil, ↓hCons, ↓hTup, ↓dAsg, ↓dPar, ↓dTest, ↓dAnd, ↓dOr, ↓dNot, ↓dAndV, ↓dOrV, ↓dNotV, ↓dIf, ↓dVar, ↓dC, ↓dOp, ↓dUn, ↓dNil, ↓dCons, ↓dTup, ↓dLst, ↓dLstM, ↓dCall, ↓dCallK, ↓pick, ↓dCB, ↓dSeqI, ↓dFor, ↓dRange1, ↓dRange2, ↓dRaise, ↓dRaise0, ↓dIsi, ↓dIsi2, ↓oAdd, ↓oSubI, ↓oMulI, ↓oDivI, ↓oModI, ↓oPowI, ↓oSubB, ↓oCmpI, ↓oNeg, ↓oEq, ↓oNe, ↓oIsN, ↓oNotN, ↓oIsB, ↓oIx, ↓cLen, ↓lenQ, ↓D.len?, ↓cAbs, ↓cInt, ↓cMax2, ↓cMin2, ↓cGcd, ↓cSum, ↓cStr, ↓okEq_int, ↓okEq_bl, ↓okEq_non, ↓eqD_int, ↓eqD_bl, ↓eqD_intTup, ↓atI0, ↓atI1, ↓atI2, ↓atI3, ↓ty_int, ↓ty_bl, ↓ty_non, ↓ty_str, ↓ty_tup, ↓ty_lst, ↓endsOf, List.length_cons, List.length_nil, List.map_cons, List.map_nil, Bool.not_true, Bool.not_false, Bool.true_and, Bool.and_true, Bool.false_and, Bool.or_true, Bool.true_or, Bool.false_or, Bool.or_false, ite_true, ite_false, if_true, if_false, Bool.false_eq_true, reduceCtorEq, decide_true, decide_false, true_and, and_true, Bool.not_not, Option.isSome_some, if_false_left, decide_eq_true_eq, Bool.decide_eq_true, ↓isT_non_non, ↓isT_non_bool, ↓isT_non_int, ↓isT_non_str, ↓isT_non_tuple, ↓isT_non_list, ↓isT_non_dict, ↓isT_bool_non, ↓isT_bool_bool, ↓isT_bool_int, ↓isT_bool_str, ↓isT_bool_tuple, ↓isT_bool_list, ↓isT_bool_dict, ↓isT_int_non, ↓isT_int_bool, ↓isT_int_int, ↓isT_int_str, ↓isT_int_tuple, ↓isT_int_list, ↓isT_int_dict, ↓isT_str_non, ↓isT_str_bool, ↓isT_str_int, ↓isT_str_str, ↓isT_str_tuple, ↓isT_str_list, ↓isT_str_dict, ↓isT_tuple_non, ↓isT_tuple_bool, ↓isT_tuple_int, ↓isT_tuple_str, ↓isT_tuple_tuple, ↓isT_tuple_list, ↓isT_tuple_dict, ↓isT_list_non, ↓isT_list_bool, ↓isT_list_int, ↓isT_list_str, ↓isT_list_tuple, ↓isT_list_list, ↓isT_list_dict, ↓isT_dict_non, ↓isT_dict_bool, ↓isT_dict_int, ↓isT_dict_str, ↓isT_dict_tuple, ↓isT_dict_list, ↓isT_dict_dict, ↓slot_0, ↓slot_1, ↓slot_2, ↓slot_3, ↓slot_4, ↓slot_5, ↓slot_6, ↓slot_7, ↓slot_8, ↓slot_9, ↓slot_10, ↓slot_11, ↓slot_12, ↓slot_13, ↓slot_14, ↓slot_15, ↓slot_16, ↓slot_17, ↓set_0, ↓set_1, ↓set_2, ↓set_3, ↓set_4, ↓set_5, ↓set_6, ↓set_7, ↓set_8, ↓set_9, ↓set_10, ↓set_11, ↓set_12, ↓set_13, ↓set_14, ↓set_15, ↓set_16, ↓set_17]; exact hR
  · simp only [↓dSeq_eq, ↓wnx_nx, ↓wnx_rt, ↓wnx_bk, ↓wnx_ct, ↓wnx_ex, ↓wlp_nx, ↓wlp_rt, ↓wlp_bk, ↓wlp_ct, ↓wlp_ex, ↓wex_nx, ↓wex_rt, ↓wex_bk, ↓wex_ct, ↓wex_ex, ↓en_nx, ↓en_rt, ↓en_ex, ↓forGo_nil, ↓forGo_cons, ↓dNext, ↓dBreak, ↓dCont, ↓dDrop, ↓dRet, ↓dRetN, ↓dIfS, ↓hName, ↓hNil, ↓hCons, ↓hTup, ↓dAsg, ↓dPar, ↓dTest, ↓dAnd, ↓dOr, ↓dNot, ↓dAndV, ↓dOrV, ↓dNotV, ↓dIf, ↓dVar, ↓dC, ↓dOp, ↓dUn, ↓dNil, ↓dCons, ↓dTup, ↓dLst, ↓dLstM, ↓dCall, ↓dCallK, ↓pick, ↓dCB, ↓dSeqI, ↓dFor, ↓dRange1, ↓dRange2, ↓dRaise, ↓dRaise0, ↓dIsi, ↓dIsi2, ↓oAdd, ↓oSubI, ↓oMulI, ↓oDivI, ↓oModI, ↓oPowI, ↓oSubB, ↓oCmpI, ↓oNeg, ↓oEq, ↓oNe, ↓oIsN, ↓oNotN, ↓oIsB, ↓oIx, ↓cLen, ↓lenQ, ↓D.len?, ↓cAbs, ↓cInt, ↓cMax2, ↓cMin2, ↓cGcd, ↓cSum, ↓cStr, ↓okEq_int, ↓okEq_bl, ↓okEq_non, ↓eqD_int, ↓eqD_bl, ↓eqD_intTup, ↓atI0, ↓atI1, ↓atI2, ↓atI3, ↓ty_int, ↓ty_bl, ↓ty_non, ↓ty_str, ↓ty_tup, ↓ty_lst, ↓endsOf, List.length_cons, List.length_nil, List.map_cons, List.map_nil, Bool.not_true, Bool.not_false, Bool.true_and, Bool.and_true, Bool.false_and, Bool.or_true, Bool.true_or, Bool.false_or, Bool.or_false, ite_true, ite_false, if_true, if_false, Bool.false_eq_true, reduceCtorEq, decide_true, decide_false, true_and, and_true, Bool.not_not, Option.isSome_some, if_false_left, decide_eq_true_eq, Bool.decide_eq_true, ↓isT_non_non, ↓isT_non_bool, ↓isT_non_int, ↓isT_non_str, ↓isT_non_tuple, ↓isT_non_list, ↓isT_non_dict, ↓isT_bool_non, ↓isT_bool_bool, ↓isT_bool_int, ↓isT_bool_str, ↓isT_bool_tuple, ↓isT_bool_list, ↓isT_bool_dict, ↓isT_int_non, ↓isT_int_bool, ↓isT_int_int, ↓isT_int_str, ↓isT_int_tuple, ↓isT_int_list, ↓isT_int_dict, ↓isT_str_non, ↓isT_str_bool, ↓isT_str_int, ↓isT_str_str, ↓isT_str_tuple, ↓isT_str_list, ↓isT_str_dict, ↓isT_tuple_non, ↓isT_tuple_bool, ↓isT_tuple_int, ↓isT_tuple_str, ↓isT_tuple_tuple, ↓isT_tuple_list, ↓isT_tuple_dict, ↓isT_list_non, ↓isT_list_bool, ↓isT_list_int, ↓isT_list_str, ↓isT_list_tuple, ↓isT_list_list, ↓isT_list_dict, ↓isT_dict_non, ↓isT_dict_bool, ↓isT_dict_int, ↓isT_dict_str, ↓isT_dict_tuple, ↓isT_dict_list, ↓isT_dict_dict, ↓slot_0, ↓slot_1, ↓slot_2, ↓slot_3, ↓slot_4, ↓slot_5, ↓slot_6, ↓slot_7, ↓slot_8, ↓slot_9, ↓slot_10, ↓slot_11, ↓slot_12, ↓slot_13, ↓slot_14, ↓slot_15, ↓slot_16, ↓slot_17, ↓set_0, ↓set_1, ↓set_2, ↓set_3, ↓set_4, ↓set_5, ↓set_6, ↓set_7, ↓set_8, ↓set_9, ↓set_10, ↓set_11, ↓set_12, ↓set_13, ↓set_14, ↓set_15, ↓set_16, ↓set_17]; exact ⟨by decide, leaf _ (neg_fr hx) _ (by omega)⟩
  refine cond_if (S' := ⟨[some (.ref a), some (.tup [.int n, .int d]), some (.int way)], updM M a (.box (b + 11))⟩) (decide (way = 2) && !decide (n = 0)) (fun R E hR => ?_) (fun e R => ?_) (fun e2 => ?_)
  · simp only [↓dSeq_eq, ↓wnx_nx, ↓wnx_rt, ↓wnx_bk, ↓wnx_ct, ↓wnx_ex, ↓wlp_nx, ↓wlp_rt, ↓wlp_bk, ↓wlp_ct, ↓wlp_ex, ↓wex_nx, ↓wex_rt, ↓wex_bk, ↓wex_ct, ↓wex_ex, ↓en_nx, ↓en_rt, ↓en_ex, ↓forGo_nil, ↓forGo_cons, ↓dNext, ↓dBreak, ↓dCont, ↓dDrop, ↓dRet, ↓dRetN, ↓dIfS, ↓hName, ↓hNil, ↓hCons, ↓hTup, ↓dAsg, ↓dPar, ↓dTest, ↓dAnd, ↓dOr, ↓dNot, ↓dAndV, ↓dOrV, ↓dNotV, ↓dIf, ↓dVar, ↓dC, ↓dOp, ↓dUn, ↓dNil, ↓dCons, ↓dTup, ↓dLst, ↓dLstM, ↓dCall, ↓dCallK, ↓pick, ↓dCB, ↓dSeqI, ↓dFor, ↓dRange1, ↓dRange2, ↓dRaise, ↓dRaise0, ↓dIsi, ↓dIsi2, ↓oAdd, ↓oSubI, ↓oMulI, ↓oDivI, ↓oModI, ↓oPowI, ↓oSubB, ↓oCmpI, ↓oNeg, ↓oEq, ↓oNe, ↓oIsN, ↓oNotN, ↓oIsB, ↓oIx, ↓cLen, ↓lenQ, ↓D.len?, ↓cAbs, ↓cInt, ↓cMax2, ↓cMin2, ↓cGcd, ↓cSum, ↓cStr, ↓okEq_int, ↓okEq_bl, ↓okEq_non, ↓eqD_int, ↓eqD_bl, ↓eqD_intTup, ↓atI0, ↓atI1, ↓atI2, ↓atI3, ↓ty_int, ↓ty_bl, ↓ty_non, ↓ty_str, ↓ty_tup, ↓ty_lst, ↓endsOf, List.length_cons, List.length_nil, List.map_cons, List.map_nil, Bool.not_true, Bool.not_false, Bool.true_and, Bool.and_true, Bool.false_and, Bool.or_true, Bool.true_or, Bool.false_or, Bool.or_false, ite_true, ite_false, if_true, if_false, Bool.false_eq_true, reduceCtorEq, decide_true, decide_false, true_and, and_true, Bool.not_not, Option.isSome_some, if_false_left, decide_eq_true_eq, Bool.decide_eq_true, ↓isT_non_non, ↓isT_non_bool, ↓isT_non_int, ↓isT_non_str, ↓isT_non_tuple, ↓isT_non_list, ↓isT_non_dict, ↓isT_bool_non, ↓isT_bool_bool, ↓isT_bool_int, ↓isT_bool_str, ↓isT_bool_tuple, ↓isT_bool_list, ↓isT_bool_dict, ↓isT_int_non, ↓isT_int_bool, ↓isT_int_int, ↓isT_int_str, ↓isT_int_tuple, ↓isT_int_list, ↓isT_int_dict, ↓isT_str_non, ↓isT_str_bool, ↓isT_str_int, ↓isT_str_str, ↓isT_str_tuple, ↓isT_str_list, ↓isT_str_dict, ↓isT_tuple_non, ↓isT_tuple_bool, ↓isT_tuple_int, ↓isT_tuple_str, ↓isT_tuple_tuple, ↓isT_tuple_list, ↓isT_tuple_dict, ↓isT_list_non, ↓isT_list_bool, ↓isT_list_int, ↓isT_list_str, ↓isT_list_tuple, ↓isT_list_list, ↓isT_list_dict, ↓isT_dict_non, ↓isT_dict_bool, ↓isT_dict_int, ↓isT_dict_str, ↓isT_dict_tuple, ↓isT_dict_list, ↓isT_dict_dict, ↓slot_0, ↓slot_1, ↓slot_2, ↓slot_3, ↓slot_4, ↓slot_5, ↓slot_6, ↓slot_7, ↓slot_8, ↓slot_9, ↓slot_10, ↓slot_11, ↓slot_12, ↓slot_13, ↓slot_14, ↓slot_15, ↓slot_16, ↓slot_17, ↓set_0, ↓set_1, ↓set_2, ↓set_3, ↓set_4, ↓set_5, ↓set_6, ↓set_7, ↓set_8, ↓set_9, ↓set_10, ↓set_11, ↓set_12, ↓set_13, ↓set_14, ↓set_15, ↓set_16, ↓set_17]
    by_cases h : way = 2
    · rw [if_pos h]; rw [decide_eq_true h, Bool.true_and] at hR; exact hR
    · rw [if_neg h]; rw [decide_eq_false h, Bool.false_and] at hR; exact hR
  · simp only [↓dSeq_eq, ↓wnx_nx, ↓wnx_rt, ↓wnx_bk, ↓wnx_ct, ↓wnx_ex, ↓wlp_nx, ↓wlp_rt, ↓wlp_bk, ↓wlp_ct, ↓wlp_ex, ↓wex_nx, ↓wex_rt, ↓wex_bk, ↓wex_ct, ↓wex_ex, ↓en_nx, ↓en_rt, ↓en_ex, ↓forGo_nil, ↓forGo_cons, ↓dNext, ↓dBreak, ↓dCont, ↓dDrop, ↓dRet, ↓dRetN, ↓dIfS, ↓hName, ↓hNil, ↓hCons, ↓hTup, ↓dAsg, ↓dPar, ↓dTest, ↓dAnd, ↓dOr, ↓dNot, ↓dAndV, ↓dOrV, ↓dNotV, ↓dIf, ↓dVar, ↓dC, ↓dOp, ↓dUn, ↓dNil, ↓dCons, ↓dTup, ↓dLst, ↓dLstM, ↓dCall, ↓dCallK, ↓pick, ↓dCB, ↓dSeqI, ↓dFor, ↓dRange1, ↓dRange2, ↓dRaise, ↓dRaise0, ↓dIsi, ↓dIsi2, ↓oAdd, ↓oSubI, ↓oMulI, ↓oDivI, ↓oModI, ↓oPowI, ↓oSubB, ↓oCmpI, ↓oNeg, ↓oEq, ↓oNe, ↓oIsN, ↓oNotN, ↓oIsB, ↓oIx, ↓cLen, ↓lenQ, ↓D.len?, ↓cAbs, ↓cInt, ↓cMax2, ↓cMin2, ↓cGcd, ↓cSum, ↓cStr, ↓okEq_int, ↓okEq_bl, ↓okEq_non, ↓eqD_int, ↓eqD_bl, ↓eqD_intTup, ↓atI0, ↓atI1, ↓atI2, ↓atI3, ↓ty_int, ↓ty_bl, ↓ty_non, ↓ty_str, ↓ty_tup, ↓ty_lst, ↓endsOf, List.length_cons, List.length_nil, List.map_cons, List.map_nil, Bool.not_true, Bool.not_false, Bool.true_and, Bool.and_true, Bool.false_and, Bool.or_true, Bool.true_or, Bool.false_or, Bool.or_false, ite_true, ite_false, if_true, if_false, Bool.false_eq_true, reduceCtorEq, decide_true, decide_false, true_and, and_true, Bool.not_not, Option.isSome_some, if_false_left, decide_eq_true_eq, Bool.decide_eq_true, ↓isT_non_non, ↓isT_non_bool, ↓isT_non_int, ↓isT_non_str, ↓isT_non_tuple, ↓isT_non_list, ↓isT_non_dict, ↓isT_bool_non, ↓isT_bool_bool, ↓isT_bool_int, ↓isT_bool_str, ↓isT_bool_tuple, ↓isT_bool_list, ↓isT_bool_dict, ↓isT_int_non, ↓isT_int_bool, ↓isT_int_int, ↓isT_int_str, ↓isT_int_tuple, ↓isT_int_list, ↓isT_int_dict, ↓isT_str_non, ↓isT_str_bool, ↓isT_str_int, ↓isT_str_str, ↓isT_str_tuple, ↓isT_str_list, ↓isT_str_dict, ↓isT_tuple_non, ↓isT_tuple_bool, ↓isT_tuple_int, ↓isT_tuple_str, ↓isT_tuple_tuple, ↓isT_tuple_list, ↓isT_tuple_dict, ↓isT_list_non, ↓isT_list_bool, ↓isT_list_int, ↓isT_list_str, ↓isT_list_tuple, ↓isT_list_list, ↓isT_list_dict, ↓isT_dict_non, ↓isT_dict_bool, ↓isT_dict_int, ↓isT_dict_str, ↓isT_dict_tuple, ↓isT_dict_list, ↓isT_dict_dict, ↓slot_0, ↓slot_1, ↓slot_2, ↓slot_3, ↓slot_4, ↓slot_5, ↓slot_6, ↓slot_7, ↓slot_8, ↓slot_9, ↓slot_10, ↓slot_11, ↓slot_12, ↓slot_13, ↓slot_14, ↓slot_15, ↓slot_16, ↓slot_17, ↓set_0, ↓set_1, ↓set_2, ↓set_3, ↓set_4, ↓set_5, ↓set_6, ↓set_7, ↓set_8, ↓set_9, ↓set_10, ↓set_11, ↓set_12, ↓set_13, ↓set_14, ↓set_15, ↓set_16, ↓set_17]
    have hn : n ≠ 0 := by
      intro z
      rw [z] at e
      simp at e
    exact ⟨_, _, rfl, hn, up_sz hn1 (by decide), leaf _ (low_fr hn hd1 hn1) _ (by omega)⟩
  by_cases h3 : way = 3 ∧ n.natAbs < 100000000000
  · obtain ⟨e3, l3⟩ := h3
    subst e3
    refine stop_if (S' := ⟨[some (.ref a), some (.tup [.int n, .int d]), some (.int 3)], updM M a (.box (b + 11))⟩) (fun R E hR => ?_) (fun R => ?_)
    · have e11 : (10 : Int) ^ Int.toNat 11 = 100000000000 := rfl
      have l : ((n.natAbs : Nat) : Int) < 100000000000 := by omega
      simp only [↓dSeq_eq, ↓wnx_nx, ↓wnx_rt, ↓wnx_bk, ↓wnx_ct, ↓wnx_ex, ↓wlp_nx, ↓wlp_rt, ↓wlp_bk, ↓wlp_ct, ↓wlp_ex, ↓wex_nx, ↓wex_rt, ↓wex_bk, ↓wex_ct, ↓wex_ex, ↓en_nx, ↓en_rt, ↓en_ex, ↓forGo_nil, ↓forGo_cons, ↓dNext, ↓dBreak, ↓dCont, ↓dDrop, ↓dRet, ↓dRetN, ↓dIfS, ↓hName, ↓hNil, ↓hCons, ↓hTup, ↓dAsg, ↓dPar, ↓dTest, ↓dAnd, ↓dOr, ↓dNot, ↓dAndV, ↓dOrV, ↓dNotV, ↓dIf, ↓dVar, ↓dC, ↓dOp, ↓dUn, ↓dNil, ↓dCons, ↓dTup, ↓dLst, ↓dLstM, ↓dCall, ↓dCallK, ↓pick, ↓dCB, ↓dSeqI, ↓dFor, ↓dRange1, ↓dRange2, ↓dRaise, ↓dRaise0, ↓dIsi, ↓dIsi2, ↓oAdd, ↓oSubI, ↓oMulI, ↓oDivI, ↓oModI, ↓oPowI, ↓oSubB, ↓oCmpI, ↓oNeg, ↓oEq, ↓oNe, ↓oIsN, ↓oNotN, ↓oIsB, ↓oIx, ↓cLen, ↓lenQ, ↓D.len?, ↓cAbs, ↓cInt, ↓cMax2, ↓cMin2, ↓cGcd, ↓cSum, ↓cStr, ↓okEq_int, ↓okEq_bl, ↓okEq_non, ↓eqD_int, ↓eqD_bl, ↓eqD_intTup, ↓atI0, ↓atI1, ↓atI2, ↓atI3, ↓ty_int, ↓ty_bl, ↓ty_non, ↓ty_str, ↓ty_tup, ↓ty_lst, ↓endsOf, List.length_cons, List.length_nil, List.map_cons, List.map_nil, Bool.not_true, Bool.not_false, Bool.true_and, Bool.and_true, Bool.false_and, Bool.or_true, Bool.true_or, Bool.false_or, Bool.or_false, ite_true, ite_false, if_true, if_false, Bool.false_eq_true, reduceCtorEq, decide_true, decide_false, true_and, and_true, Bool.not_not, Option.isSome_some, if_false_left, decide_eq_true_eq, Bool.decide_eq_true, ↓isT_non_non, ↓isT_non_bool, ↓isT_non_int, ↓isT_non_str, ↓isT_non_tuple, ↓isT_non_list, ↓isT_non_dict, ↓isT_bool_non, ↓isT_bool_bool, ↓isT_bool_int, ↓isT_bool_str, ↓isT_bool_tuple, ↓isT_bool_list, ↓isT_bool_dict, ↓isT_int_non, ↓isT_int_bool, ↓isT_int_int, ↓isT_int_str, ↓isT_int_tuple, ↓isT_int_list, ↓isT_int_dict, ↓isT_str_non, ↓isT_str_bool, ↓isT_str_int, ↓isT_str_str, ↓isT_str_tuple, ↓isT_str_list, ↓isT_str_dict, ↓isT_tuple_non, ↓isT_tuple_bool, ↓isT_tuple_int, ↓isT_tuple_str, ↓isT_tuple_tuple, ↓isT_tuple_list, ↓isT_tuple_dict, ↓isT_list_non, ↓isT_list_bool, ↓isT_list_int, ↓isT_list_str, ↓isT_list_tuple, ↓isT_list_list, ↓isT_list_dict, ↓isT_dict_non, ↓isT_dict_bool, ↓isT_dict_int, ↓isT_dict_str, ↓isT_dict_tuple, ↓isT_dict_list, ↓isT_dict_dict, ↓slot_0, ↓slot_1, ↓slot_2, ↓slot_3, ↓slot_4, ↓slot_5, ↓slot_6, ↓slot_7, ↓slot_8, ↓slot_9, ↓slot_10, ↓slot_11, ↓slot_12, ↓slot_13, ↓slot_14, ↓slot_15, ↓slot_16, ↓slot_17, ↓set_0, ↓set_1, ↓set_2, ↓set_3, ↓set_4, ↓set_5, ↓set_6, ↓set_7, ↓set_8, ↓set_9, ↓set_10, ↓set_11, ↓set_12, ↓set_13, ↓set_14, ↓set_15, ↓set_16, ↓set_17, abs_if, e11, l]
      exact ⟨⟨by decide, by decide, p64 (by decide)⟩, hR⟩
    · simp only [↓dSeq_eq, ↓wnx_nx, ↓wnx_rt, ↓wnx_bk, ↓wnx_ct, ↓wnx_ex, ↓wlp_nx, ↓wlp_rt, ↓wlp_bk, ↓wlp_ct, ↓wlp_ex, ↓wex_nx, ↓wex_rt, ↓wex_bk, ↓wex_ct, ↓wex_ex, ↓en_nx, ↓en_rt, ↓en_ex, ↓forGo_nil, ↓forGo_cons, ↓dNext, ↓dBreak, ↓dCont, ↓dDrop, ↓dRet, ↓dRetN, ↓dIfS, ↓hName, ↓hNil, ↓hCons, ↓hTup, ↓dAsg, ↓dPar, ↓dTest, ↓dAnd, ↓dOr, ↓dNot, ↓dAndV, ↓dOrV, ↓dNotV, ↓dIf, ↓dVar, ↓dC, ↓dOp, ↓dUn, ↓dNil, ↓dCons, ↓dTup, ↓dLst, ↓dLstM, ↓dCall, ↓dCallK, ↓pick, ↓dCB, ↓dSeqI, ↓dFor, ↓dRange1, ↓dRange2, ↓dRaise, ↓dRaise0, ↓dIsi, ↓dIsi2, ↓oAdd, ↓oSubI, ↓oMulI, ↓oDivI, ↓oModI, ↓oPowI, ↓oSubB, ↓oCmpI, ↓oNeg, ↓oEq, ↓oNe, ↓oIsN, ↓oNotN, ↓oIsB, ↓oIx, ↓cLen, ↓lenQ, ↓D.len?, ↓cAbs, ↓cInt, ↓cMax2, ↓cMin2, ↓cGcd, ↓cSum, ↓cStr, ↓okEq_int, ↓okEq_bl, ↓okEq_non, ↓eqD_int, ↓eqD_bl, ↓eqD_intTup, ↓atI0, ↓atI1, ↓atI2, ↓atI3, ↓ty_int, ↓ty_bl, ↓ty_non, ↓ty_str, ↓ty_tup, ↓ty_lst, ↓endsOf, List.length_cons, List.length_nil, List.map_cons, List.map_nil, Bool.not_true, Bool.not_false, Bool.true_and, Bool.and_true, Bool.false_and, Bool.or_true, Bool.true_or, Bool.false_or, Bool.or_false, ite_true, ite_false, if_true, if_false, Bool.false_eq_true, reduceCtorEq, decide_true, decide_false, true_and, and_true, Bool.not_not, Option.isSome_some, if_false_left, decide_eq_true_eq, Bool.decide_eq_true, ↓isT_non_non, ↓isT_non_bool, ↓isT_non_int, ↓isT_non_str, ↓isT_non_tuple, ↓isT_non_list, ↓isT_non_dict, ↓isT_bool_non, ↓isT_bool_bool, ↓isT_bool_int, ↓isT_bool_str, ↓isT_bool_tuple, ↓isT_bool_list, ↓isT_bool_dict, ↓isT_int_non, ↓isT_int_bool, ↓isT_int_int, ↓isT_int_str, ↓isT_int_tuple, ↓isT_int_list, ↓isT_int_dict, ↓isT_str_non, ↓isT_str_bool, ↓isT_str_int, ↓isT_str_str, ↓isT_str_tuple, ↓isT_str_list, ↓isT_str_dict, ↓isT_tuple_non, ↓isT_tuple_bool, ↓isT_tuple_int, ↓isT_tuple_str, ↓isT_tuple_tuple, ↓isT_tuple_list, ↓isT_tuple_dict, ↓isT_list_non, ↓isT_list_bool, ↓isT_list_int, ↓isT_list_str, ↓isT_list_tuple, ↓isT_list_list, ↓isT_list_dict, ↓isT_dict_non, ↓isT_dict_bool, ↓isT_dict_int, ↓isT_dict_str, ↓isT_dict_tuple, ↓isT_dict_list, ↓isT_dict_dict, ↓slot_0, ↓slot_1, ↓slot_2, ↓slot_3, ↓slot_4, ↓slot_5, ↓slot_6, ↓slot_7, ↓slot_8, ↓slot_9, ↓slot_10, ↓slot_11, ↓slot_12, ↓slot_13, ↓slot_14, ↓slot_15, ↓slot_16, ↓slot_17, ↓set_0, ↓set_1, ↓set_2, ↓set_3, ↓set_4, ↓set_5, ↓set_6, ↓set_7, ↓set_8, ↓set_9, ↓set_10, ↓set_11, ↓set_12, ↓set_13, ↓set_14, ↓set_15, ↓set_16, ↓set_17]
      refine ⟨by decide, a, 2, b + 10, rfl, updM_same, by decide, d32 (by decide), fun k h0 h1 => ?_⟩
      have sm : ∀ m : Int, m.natAbs < 1000000000000 → m.natAbs < 2 ^ 42 := fun m h => p42 h
      have ek : k = 0 ∨ k = 1 := by omega
      rcases ek with rfl | rfl
      · simp only [↓dSeq_eq, ↓wnx_nx, ↓wnx_rt, ↓wnx_bk, ↓wnx_ct, ↓wnx_ex, ↓wlp_nx, ↓wlp_rt, ↓wlp_bk, ↓wlp_ct, ↓wlp_ex, ↓wex_nx, ↓wex_rt, ↓wex_bk, ↓wex_ct, ↓wex_ex, ↓en_nx, ↓en_rt, ↓en_ex, ↓forGo_nil, ↓forGo_cons, ↓dNext, ↓dBreak, ↓dCont, ↓dDrop, ↓dRet, ↓dRetN, ↓dIfS, ↓hName, ↓hNil, ↓hCons, ↓hTup, ↓dAsg, ↓dPar, ↓dTest, ↓dAnd, ↓dOr, ↓dNot, ↓dAndV, ↓dOrV, ↓dNotV, ↓dIf, ↓dVar, ↓dC, ↓dOp, ↓dUn, ↓dNil, ↓dCons, ↓dTup, ↓dLst, ↓dLstM, ↓dCall, ↓dCallK, ↓pick, ↓dCB, ↓dSeqI, ↓dFor, ↓dRange1, ↓dRange2, ↓dRaise, ↓dRaise0, ↓dIsi, ↓dIsi2, ↓oAdd, ↓oSubI, ↓oMulI, ↓oDivI, ↓oModI, ↓oPowI, ↓oSubB, ↓oCmpI, ↓oNeg, ↓oEq, ↓oNe, ↓oIsN, ↓oNotN, ↓oIsB, ↓oIx, ↓cLen, ↓lenQ, ↓D.len?, ↓cAbs, ↓cInt, ↓cMax2, ↓cMin2, ↓cGcd, ↓cSum, ↓cStr, ↓okEq_int, ↓okEq_bl, ↓okEq_non, ↓eqD_int, ↓eqD_bl, ↓eqD_intTup, ↓atI0, ↓atI1, ↓atI2, ↓atI3, ↓ty_int, ↓ty_bl, ↓ty_non, ↓ty_str, ↓ty_tup, ↓ty_lst, ↓endsOf, List.length_cons, List.length_nil, List.map_cons, List.map_nil, Bool.not_true, Bool.not_false, Bool.true_and, Bool.and_true, Bool.false_and, Bool.or_true, Bool.true_or, Bool.false_or, Bool.or_false, ite_true, ite_false, if_true, if_false, Bool.false_eq_true, reduceCtorEq, decide_true, decide_false, true_and, and_true, Bool.not_not, Option.isSome_some, if_false_left, decide_eq_true_eq, Bool.decide_eq_true, ↓isT_non_non, ↓isT_non_bool, ↓isT_non_int, ↓isT_non_str, ↓isT_non_tuple, ↓isT_non_list, ↓isT_non_dict, ↓isT_bool_non, ↓isT_bool_bool, ↓isT_bool_int, ↓isT_bool_str, ↓isT_bool_tuple, ↓isT_bool_list, ↓isT_bool_dict, ↓isT_int_non, ↓isT_int_bool, ↓isT_int_int, ↓isT_int_str, ↓isT_int_tuple, ↓isT_int_list, ↓isT_int_dict, ↓isT_str_non, ↓isT_str_bool, ↓isT_str_int, ↓isT_str_str, ↓isT_str_tuple, ↓isT_str_list, ↓isT_str_dict, ↓isT_tuple_non, ↓isT_tuple_bool, ↓isT_tuple_int, ↓isT_tuple_str, ↓isT_tuple_tuple, ↓isT_tuple_list, ↓isT_tuple_dict, ↓isT_list_non, ↓isT_list_bool, ↓isT_list_int, ↓isT_list_str, ↓isT_list_tuple, ↓isT_list_list, ↓isT_list_dict, ↓isT_dict_non, ↓isT_dict_bool, ↓isT_dict_int, ↓isT_dict_str, ↓isT_dict_tuple, ↓isT_dict_list, ↓isT_dict_dict, ↓slot_0, ↓slot_1, ↓slot_2, ↓slot_3, ↓slot_4, ↓slot_5, ↓slot_6, ↓slot_7, ↓slot_8, ↓slot_9, ↓slot_10, ↓slot_11, ↓slot_12, ↓slot_13, ↓slot_14, ↓slot_15, ↓slot_16, ↓slot_17, ↓set_0, ↓set_1, ↓set_2, ↓set_3, ↓set_4, ↓set_5, ↓set_6, ↓set_7, ↓set_8, ↓set_9, ↓set_10, ↓set_11, ↓set_12, ↓set_13, ↓set_14, ↓set_15, ↓set_16, ↓set_17, updM_updM]
        exact ⟨_, _, rfl, by omega, up_sz hd1 (by decide), leaf _ (low_fr (by omega) (sm _ (by omega)) hd1) _ (by omega)⟩
      · simp only [↓dSeq_eq, ↓wnx_nx, ↓wnx_rt, ↓wnx_bk, ↓wnx_ct, ↓wnx_ex, ↓wlp_nx, ↓wlp_rt, ↓wlp_bk, ↓wlp_ct, ↓wlp_ex, ↓wex_nx, ↓wex_rt, ↓wex_bk, ↓wex_ct, ↓wex_ex, ↓en_nx, ↓en_rt, ↓en_ex, ↓forGo_nil, ↓forGo_cons, ↓dNext, ↓dBreak, ↓dCont, ↓dDrop, ↓dRet, ↓dRetN, ↓dIfS, ↓hName, ↓hNil, ↓hCons, ↓hTup, ↓dAsg, ↓dPar, ↓dTest, ↓dAnd, ↓dOr, ↓dNot, ↓dAndV, ↓dOrV, ↓dNotV, ↓dIf, ↓dVar, ↓dC, ↓dOp, ↓dUn, ↓dNil, ↓dCons, ↓dTup, ↓dLst, ↓dLstM, ↓dCall, ↓dCallK, ↓pick, ↓dCB, ↓dSeqI, ↓dFor, ↓dRange1, ↓dRange2, ↓dRaise, ↓dRaise0, ↓dIsi, ↓dIsi2, ↓oAdd, ↓oSubI, ↓oMulI, ↓oDivI, ↓oModI, ↓oPowI, ↓oSubB, ↓oCmpI, ↓oNeg, ↓oEq, ↓oNe, ↓oIsN, ↓oNotN, ↓oIsB, ↓oIx, ↓cLen, ↓lenQ, ↓D.len?, ↓cAbs, ↓cInt, ↓cMax2, ↓cMin2, ↓cGcd, ↓cSum, ↓cStr, ↓okEq_int, ↓okEq_bl, ↓okEq_non, ↓eqD_int, ↓eqD_bl, ↓eqD_intTup, ↓atI0, ↓atI1, ↓atI2, ↓atI3, ↓ty_int, ↓ty_bl, ↓ty_non, ↓ty_str, ↓ty_tup, ↓ty_lst, ↓endsOf, List.length_cons, List.length_nil, List.map_cons, List.map_nil, Bool.not_true, Bool.not_false, Bool.true_and, Bool.and_true, Bool.false_and, Bool.or_true, Bool.true_or, Bool.false_or, Bool.or_false, ite_true, ite_false, if_true, if_false, Bool.false_eq_true, reduceCtorEq, decide_true, decide_false, true_and, and_true, Bool.not_not, Option.isSome_some, if_false_left, decide_eq_true_eq, Bool.decide_eq_true, ↓isT_non_non, ↓isT_non_bool, ↓isT_non_int, ↓isT_non_str, ↓isT_non_tuple, ↓isT_non_list, ↓isT_non_dict, ↓isT_bool_non, ↓isT_bool_bool, ↓isT_bool_int, ↓isT_bool_str, ↓isT_bool_tuple, ↓isT_bool_list, ↓isT_bool_dict, ↓isT_int_non, ↓isT_int_bool, ↓isT_int_int, ↓isT_int_str, ↓isT_int_tuple, ↓isT_int_list, ↓isT_int_dict, ↓isT_str_non, ↓isT_str_bool, ↓isT_str_int, ↓isT_str_str, ↓isT_str_tuple, ↓isT_str_list, ↓isT_str_dict, ↓isT_tuple_non, ↓isT_tuple_bool, ↓isT_tuple_int, ↓isT_tuple_str, ↓isT_tuple_tuple, ↓isT_tuple_list, ↓isT_tuple_dict, ↓isT_list_non, ↓isT_list_bool, ↓isT_list_int, ↓isT_list_str, ↓isT_list_tuple, ↓isT_list_list, ↓isT_list_dict, ↓isT_dict_non, ↓isT_dict_bool, ↓isT_dict_int, ↓isT_dict_str, ↓isT_dict_tuple, ↓isT_dict_list, ↓isT_dict_dict, ↓slot_0, ↓slot_1, ↓slot_2, ↓slot_3, ↓slot_4, ↓slot_5, ↓slot_6, ↓slot_7, ↓slot_8, ↓slot_9, ↓slot_10, ↓slot_11, ↓slot_12, ↓slot_13, ↓slot_14, ↓slot_15, ↓slot_16, ↓slot_17, ↓set_0, ↓set_1, ↓set_2, ↓set_3, ↓set_4, ↓set_5, ↓set_6, ↓set_7, ↓set_8, ↓set_9, ↓set_10, ↓set_11, ↓set_12, ↓set_13, ↓set_14, ↓set_15, ↓set_16, ↓set_17, updM_updM]
        exact ⟨_, _, rfl, by omega, up_sz hd1 (by decide), leaf _ (low_fr (by omega) (sm _ (by omega)) hd1) _ (by omega)⟩
  refine skip_if (fun R E hR => ?_) ?_
  · have e11 : (10 : Int) ^ Int.toNat 11 = 100000000000 := rfl
    simp only [↓dSeq_eq, ↓wnx_nx, ↓wnx_rt, ↓wnx_bk, ↓wnx_ct, ↓wnx_ex, ↓wlp_nx, ↓wlp_rt, ↓wlp_bk, ↓wlp_ct, ↓wlp_ex, ↓wex_nx, ↓wex_rt, ↓wex_bk, ↓wex_ct, ↓wex_ex, ↓en_nx, ↓en_rt, ↓en_ex, ↓forGo_nil, ↓forGo_cons, ↓dNext, ↓dBreak, ↓dCont, ↓dDrop, ↓dRet, ↓dRetN, ↓dIfS, ↓hName, ↓hNil, ↓hCons, ↓hTup, ↓dAsg, ↓dPar, ↓dTest, ↓dAnd, ↓dOr, ↓dNot, ↓dAndV, ↓dOrV, ↓dNotV, ↓dIf, ↓dVar, ↓dC, ↓dOp, ↓dUn, ↓dNil, ↓dCons, ↓dTup, ↓dLst, ↓dLstM, ↓dCall, ↓dCallK, ↓pick, ↓dCB, ↓dSeqI, ↓dFor, ↓dRange1, ↓dRange2, ↓dRaise, ↓dRaise0, ↓dIsi, ↓dIsi2, ↓oAdd, ↓oSubI, ↓oMulI, ↓oDivI, ↓oModI, ↓oPowI, ↓oSubB, ↓oCmpI, ↓oNeg, ↓oEq, ↓oNe, ↓oIsN, ↓oNotN, ↓oIsB, ↓oIx, ↓cLen, ↓lenQ, ↓D.len?, ↓cAbs, ↓cInt, ↓cMax2, ↓cMin2, ↓cGcd, ↓cSum, ↓cStr, ↓okEq_int, ↓okEq_bl, ↓okEq_non, ↓eqD_int, ↓eqD_bl, ↓eqD_intTup, ↓atI0, ↓atI1, ↓atI2, ↓atI3, ↓ty_int, ↓ty_bl, ↓ty_non, ↓ty_str, ↓ty_tup, ↓ty_lst, ↓endsOf, List.length_cons, List.length_nil, List.map_cons, List.map_nil, Bool.not_true, Bool.not_false, Bool.true_and, Bool.and_true, Bool.false_and, Bool.or_true, Bool.true_or, Bool.false_or, Bool.or_false, ite_true, ite_false, if_true, if_false, Bool.false_eq_true, reduceCtorEq, decide_true, decide_false, true_and, and_true, Bool.not_not, Option.isSome_some, if_false_left, decide_eq_true_eq, Bool.decide_eq_true, ↓isT_non_non, ↓isT_non_bool, ↓isT_non_int, ↓isT_non_str, ↓isT_non_tuple, ↓isT_non_list, ↓isT_non_dict, ↓isT_bool_non, ↓isT_bool_bool, ↓isT_bool_int, ↓isT_bool_str, ↓isT_bool_tuple, ↓isT_bool_list, ↓isT_bool_dict, ↓isT_int_non, ↓isT_int_bool, ↓isT_int_int, ↓isT_int_str, ↓isT_int_tuple, ↓isT_int_list, ↓isT_int_dict, ↓isT_str_non, ↓isT_str_bool, ↓isT_str_int, ↓isT_str_str, ↓isT_str_tuple, ↓isT_str_list, ↓isT_str_dict, ↓isT_tuple_non, ↓isT_tuple_bool, ↓isT_tuple_int, ↓isT_tuple_str, ↓isT_tuple_tuple, ↓isT_tuple_list, ↓isT_tuple_dict, ↓isT_list_non, ↓isT_list_bool, ↓isT_list_int, ↓isT_list_str, ↓isT_list_tuple, ↓isT_list_list, ↓isT_list_dict, ↓isT_dict_non, ↓isT_dict_bool, ↓isT_dict_int, ↓isT_dict_str, ↓isT_dict_tuple, ↓isT_dict_list, ↓isT_dict_dict, ↓slot_0, ↓slot_1, ↓slot_2, ↓slot_3, ↓slot_4, ↓slot_5, ↓slot_6, ↓slot_7, ↓slot_8, ↓slot_9, ↓slot_10, ↓slot_11, ↓slot_12, ↓slot_13, ↓slot_14, ↓slot_15, ↓slot_16, ↓slot_17, ↓set_0, ↓set_1, ↓set_2, ↓set_3, ↓set_4, ↓set_5, ↓set_6, ↓set_7, ↓set_8, ↓set_9, ↓set_10, ↓set_11, ↓set_12, ↓set_13, ↓set_14, ↓set_15, ↓set_16, ↓set_17, abs_if, e11]
    by_cases h : way = 3
    · rw [if_pos h]
      have l : ¬ ((n.natAbs : Nat) : Int) < 100000000000 := fun z => h3 ⟨h, by omega⟩
      exact ⟨⟨by decide, by decide, p64 (by decide)⟩, by rw [decide_eq_false l]; exact hR⟩
    · rw [if_neg h]; exact hR
  simp only [↓dSeq_eq, ↓wnx_nx, ↓wnx_rt, ↓wnx_bk, ↓wnx_ct, ↓wnx_ex, ↓wlp_nx, ↓wlp_rt, ↓wlp_bk, ↓wlp_ct, ↓wlp_ex, ↓wex_nx, ↓wex_rt, ↓wex_bk, ↓wex_ct, ↓wex_ex, ↓en_nx, ↓en_rt, ↓en_ex, ↓forGo_nil, ↓forGo_cons, ↓dNext, ↓dBreak, ↓dCont, ↓dDrop, ↓dRet, ↓dRetN, ↓dIfS, ↓hName, ↓hNil, ↓hCons, ↓hTup, ↓dAsg, ↓dPar, ↓dTest, ↓dAnd, ↓dOr, ↓dNot, ↓dAndV, ↓dOrV, ↓dNotV, ↓dIf, ↓dVar, ↓dC, ↓dOp, ↓dUn, ↓dNil, ↓dCons, ↓dTup, ↓dLst, ↓dLstM, ↓dCall, ↓dCallK, ↓pick, ↓dCB, ↓dSeqI, ↓dFor, ↓dRange1, ↓dRange2, ↓dRaise, ↓dRaise0, ↓dIsi, ↓dIsi2, ↓oAdd, ↓oSubI, ↓oMulI, ↓oDivI, ↓oModI, ↓oPowI, ↓oSubB, ↓oCmpI, ↓oNeg, ↓oEq, ↓oNe, ↓oIsN, ↓oNotN, ↓oIsB, ↓oIx, ↓cLen, ↓lenQ, ↓D.len?, ↓cAbs, ↓cInt, ↓cMax2, ↓cMin2, ↓cGcd, ↓cSum, ↓cStr, ↓okEq_int, ↓okEq_bl, ↓okEq_non, ↓eqD_int, ↓eqD_bl, ↓eqD_intTup, ↓atI0, ↓atI1, ↓atI2, ↓atI3, ↓ty_int, ↓ty_bl, ↓ty_non, ↓ty_str, ↓ty_tup, ↓ty_lst, ↓endsOf, List.length_cons, List.length_nil, List.map_cons, List.map_nil, Bool.not_true, Bool.not_false, Bool.true_and, Bool.and_true, Bool.false_and, Bool.or_true, Bool.true_or, Bool.false_or, Bool.or_false, ite_true, ite_false, if_true, if_false, Bool.false_eq_true, reduceCtorEq, decide_true, decide_false, true_and, and_true, Bool.not_not, Option.isSome_some, if_false_left, decide_eq_true_eq, Bool.decide_eq_true, ↓isT_non_non, ↓isT_non_bool, ↓isT_non_int, ↓isT_non_str, ↓isT_non_tuple, ↓isT_non_list, ↓isT_non_dict, ↓isT_bool_non, ↓isT_bool_bool, ↓isT_bool_int, ↓isT_bool_str, ↓isT_bool_tuple, ↓isT_bool_list, ↓isT_bool_dict, ↓isT_int_non, ↓isT_int_bool, ↓isT_int_int, ↓isT_int_str, ↓isT_int_tuple, ↓isT_int_list, ↓isT_int_dict, ↓isT_str_non, ↓isT_str_bool, ↓isT_str_int, ↓isT_str_str, ↓isT_str_tuple, ↓isT_str_list, ↓isT_str_dict, ↓isT_tuple_non, ↓isT_tuple_bool, ↓isT_tuple_int, ↓isT_tuple_str, ↓isT_tuple_tuple, ↓isT_tuple_list, ↓isT_tuple_dict, ↓isT_list_non, ↓isT_list_bool, ↓isT_list_int, ↓isT_list_str, ↓isT_list_tuple, ↓isT_list_list, ↓isT_list_dict, ↓isT_dict_non, ↓isT_dict_bool, ↓isT_dict_int, ↓isT_dict_str, ↓isT_dict_tuple, ↓isT_dict_list, ↓isT_dict_dict, ↓slot_0, ↓slot_1, ↓slot_2, ↓slot_3, ↓slot_4, ↓slot_5, ↓slot_6, ↓slot_7, ↓slot_8, ↓slot_9, ↓slot_10, ↓slot_11, ↓slot_12, ↓slot_13, ↓slot_14, ↓slot_15, ↓slot_16, ↓slot_17, ↓set_0, ↓set_1, ↓set_2, ↓set_3, ↓set_4, ↓set_5, ↓set_6, ↓set_7, ↓set_8, ↓set_9, ↓set_10, ↓set_11, ↓set_12, ↓set_13, ↓set_14, ↓set_15, ↓set_16, ↓set_17]
  by_cases h : way = 4
  · rw [if_pos h]
    refine ⟨a, 2, b + 10, rfl, updM_same, by decide, d32 (by decide), fun k h0 h1 => ?_⟩
    have fr01 : Fr 42 (0, 1) := ⟨by decide, by decide, by decide, by decide⟩
    by_cases e : k = 0
    · simp only [↓dSeq_eq, ↓wnx_nx, ↓wnx_rt, ↓wnx_bk, ↓wnx_ct, ↓wnx_ex, ↓wlp_nx, ↓wlp_rt, ↓wlp_bk, ↓wlp_ct, ↓wlp_ex, ↓wex_nx, ↓wex_rt, ↓wex_bk, ↓wex_ct, ↓wex_ex, ↓en_nx, ↓en_rt, ↓en_ex, ↓forGo_nil, ↓forGo_cons, ↓dNext, ↓dBreak, ↓dCont, ↓dDrop, ↓dRet, ↓dRetN, ↓dIfS, ↓hName, ↓hNil, ↓hCons, ↓hTup, ↓dAsg, ↓dPar, ↓dTest, ↓dAnd, ↓dOr, ↓dNot, ↓dAndV, ↓dOrV, ↓dNotV, ↓dIf, ↓dVar, ↓dC, ↓dOp, ↓dUn, ↓dNil, ↓dCons, ↓dTup, ↓dLst, ↓dLstM, ↓dCall, ↓dCallK, ↓pick, ↓dCB, ↓dSeqI, ↓dFor, ↓dRange1, ↓dRange2, ↓dRaise, ↓dRaise0, ↓dIsi, ↓dIsi2, ↓oAdd, ↓oSubI, ↓oMulI, ↓oDivI, ↓oModI, ↓oPowI, ↓oSubB, ↓oCmpI, ↓oNeg, ↓oEq, ↓oNe, ↓oIsN, ↓oNotN, ↓oIsB, ↓oIx, ↓cLen, ↓lenQ, ↓D.len?, ↓cAbs, ↓cInt, ↓cMax2, ↓cMin2, ↓cGcd, ↓cSum, ↓cStr, ↓okEq_int, ↓okEq_bl, ↓okEq_non, ↓eqD_int, ↓eqD_bl, ↓eqD_intTup, ↓atI0, ↓atI1, ↓atI2, ↓atI3, ↓ty_int, ↓ty_bl, ↓ty_non, ↓ty_str, ↓ty_tup, ↓ty_lst, ↓endsOf, List.length_cons, List.length_nil, List.map_cons, List.map_nil, Bool.not_true, Bool.not_false, Bool.true_and, Bool.and_true, Bool.false_and, Bool.or_true, Bool.true_or, Bool.false_or, Bool.or_false, ite_true, ite_false, if_true, if_false, Bool.false_eq_true, reduceCtorEq, decide_true, decide_false, true_and, and_true, Bool.not_not, Option.isSome_some, if_false_left, decide_eq_true_eq, Bool.decide_eq_true, ↓isT_non_non, ↓isT_non_bool, ↓isT_non_int, ↓isT_non_str, ↓isT_non_tuple, ↓isT_non_list, ↓isT_non_dict, ↓isT_bool_non, ↓isT_bool_bool, ↓isT_bool_int, ↓isT_bool_str, ↓isT_bool_tuple, ↓isT_bool_list, ↓isT_bool_dict, ↓isT_int_non, ↓isT_int_bool, ↓isT_int_int, ↓isT_int_str, ↓isT_int_tuple, ↓isT_int_list, ↓isT_int_dict, ↓isT_str_non, ↓isT_str_bool, ↓isT_str_int, ↓isT_str_str, ↓isT_str_tuple, ↓isT_str_list, ↓isT_str_dict, ↓isT_tuple_non, ↓isT_tuple_bool, ↓isT_tuple_int, ↓isT_tuple_str, ↓isT_tuple_tuple, ↓isT_tuple_list, ↓isT_tuple_dict, ↓isT_list_non, ↓isT_list_bool, ↓isT_list_int, ↓isT_list_str, ↓isT_list_tuple, ↓isT_list_list, ↓isT_list_dict, ↓isT_dict_non, ↓isT_dict_bool, ↓isT_dict_int, ↓isT_dict_str, ↓isT_dict_tuple, ↓isT_dict_list, ↓isT_dict_dict, ↓slot_0, ↓slot_1, ↓slot_2, ↓slot_3, ↓slot_4, ↓slot_5, ↓slot_6, ↓slot_7, ↓slot_8, ↓slot_9, ↓slot_10, ↓slot_11, ↓slot_12, ↓slot_13, ↓slot_14, ↓slot_15, ↓slot_16, ↓slot_17, ↓set_0, ↓set_1, ↓set_2, ↓set_3, ↓set_4, ↓set_5, ↓set_6, ↓set_7, ↓set_8, ↓set_9, ↓set_10, ↓set_11, ↓set_12, ↓set_13, ↓set_14, ↓set_15, ↓set_16, ↓set_17, e, updM_updM]
      exact ⟨by decide, leaf _ fr01 _ (by omega)⟩
    · simp only [↓dSeq_eq, ↓wnx_nx, ↓wnx_rt, ↓wnx_bk, ↓wnx_ct, ↓wnx_ex, ↓wlp_nx, ↓wlp_rt, ↓wlp_bk, ↓wlp_ct, ↓wlp_ex, ↓wex_nx, ↓wex_rt, ↓wex_bk, ↓wex_ct, ↓wex_ex, ↓en_nx, ↓en_rt, ↓en_ex, ↓forGo_nil, ↓forGo_cons, ↓dNext, ↓dBreak, ↓dCont, ↓dDrop, ↓dRet, ↓dRetN, ↓dIfS, ↓hName, ↓hNil, ↓hCons, ↓hTup, ↓dAsg, ↓dPar, ↓dTest, ↓dAnd, ↓dOr, ↓dNot, ↓dAndV, ↓dOrV, ↓dNotV, ↓dIf, ↓dVar, ↓dC, ↓dOp, ↓dUn, ↓dNil, ↓dCons, ↓dTup, ↓dLst, ↓dLstM, ↓dCall, ↓dCallK, ↓pick, ↓dCB, ↓dSeqI, ↓dFor, ↓dRange1, ↓dRange2, ↓dRaise, ↓dRaise0, ↓dIsi, ↓dIsi2, ↓oAdd, ↓oSubI, ↓oMulI, ↓oDivI, ↓oModI, ↓oPowI, ↓oSubB, ↓oCmpI, ↓oNeg, ↓oEq, ↓oNe, ↓oIsN, ↓oNotN, ↓oIsB, ↓oIx, ↓cLen, ↓lenQ, ↓D.len?, ↓cAbs, ↓cInt, ↓cMax2, ↓cMin2, ↓cGcd, ↓cSum, ↓cStr, ↓okEq_int, ↓okEq_bl, ↓okEq_non, ↓eqD_int, ↓eqD_bl, ↓eqD_intTup, ↓atI0, ↓atI1, ↓atI2, ↓atI3, ↓ty_int, ↓ty_bl, ↓ty_non, ↓ty_str, ↓ty_tup, ↓ty_lst, ↓endsOf, List.length_cons, List.length_nil, List.map_cons, List.map_nil, Bool.not_true, Bool.not_false, Bool.true_and, Bool.and_true, Bool.false_and, Bool.or_true, Bool.true_or, Bool.false_or, Bool.or_false, ite_true, ite_false, if_true, if_false, Bool.false_eq_true, reduceCtorEq, decide_true, decide_false, true_and, and_true, Bool.not_not, Option.isSome_some, if_false_left, decide_eq_true_eq, Bool.decide_eq_true, ↓isT_non_non, ↓isT_non_bool, ↓isT_non_int, ↓isT_non_str, ↓isT_non_tuple, ↓isT_non_list, ↓isT_non_dict, ↓isT_bool_non, ↓isT_bool_bool, ↓isT_bool_int, ↓isT_bool_str, ↓isT_bool_tuple, ↓isT_bool_list, ↓isT_bool_dict, ↓isT_int_non, ↓isT_int_bool, ↓isT_int_int, ↓isT_int_str, ↓isT_int_tuple, ↓isT_int_list, ↓isT_int_dict, ↓isT_str_non, ↓isT_str_bool, ↓isT_str_int, ↓isT_str_str, ↓isT_str_tuple, ↓isT_str_list, ↓isT_str_dict, ↓isT_tuple_non, ↓isT_tuple_bool, ↓isT_tuple_int, ↓isT_tuple_str, ↓isT_tuple_tuple, ↓isT_tuple_list, ↓isT_tuple_dict, ↓isT_list_non, ↓isT_list_bool, ↓isT_list_int, ↓isT_list_str, ↓isT_list_tuple, ↓isT_list_list, ↓isT_list_dict, ↓isT_dict_non, ↓isT_dict_bool, ↓isT_dict_int, ↓isT_dict_str, ↓isT_dict_tuple, ↓isT_dict_list, ↓isT_dict_dict, ↓slot_0, ↓slot_1, ↓slot_2, ↓slot_3, ↓slot_4, ↓slot_5, ↓slot_6, ↓slot_7, ↓slot_8, ↓slot_9, ↓slot_10, ↓slot_11, ↓slot_12, ↓slot_13, ↓slot_14, ↓slot_15, ↓slot_16, ↓slot_17, ↓set_0, ↓set_1, ↓set_2, ↓set_3, ↓set_4, ↓set_5, ↓set_6, ↓set_7, ↓set_8, ↓set_9, ↓set_10, ↓set_11, ↓set_12, ↓set_13, ↓set_14, ↓set_15, ↓set_16, ↓set_17, e, updM_updM]
      refine ⟨a, b, rfl, updM_same, fun p hp => ?_⟩
      simp only [↓dSeq_eq, ↓wnx_nx, ↓wnx_rt, ↓wnx_bk, ↓wnx_ct, ↓wnx_ex, ↓wlp_nx, ↓wlp_rt, ↓wlp_bk, ↓wlp_ct, ↓wlp_ex, ↓wex_nx, ↓wex_rt, ↓wex_bk, ↓wex_ct, ↓wex_ex, ↓en_nx, ↓en_rt, ↓en_ex, ↓forGo_nil, ↓forGo_cons, ↓dNext, ↓dBreak, ↓dCont, ↓dDrop, ↓dRet, ↓dRetN, ↓dIfS, ↓hName, ↓hNil, ↓hCons, ↓hTup, ↓dAsg, ↓dPar, ↓dTest, ↓dAnd, ↓dOr, ↓dNot, ↓dAndV, ↓dOrV, ↓dNotV, ↓dIf, ↓dVar, ↓dC, ↓dOp, ↓dUn, ↓dNil, ↓dCons, ↓dTup, ↓dLst, ↓dLstM, ↓dCall, ↓dCallK, ↓pick, ↓dCB, ↓dSeqI, ↓dFor, ↓dRange1, ↓dRange2, ↓dRaise, ↓dRaise0, ↓dIsi, ↓dIsi2, ↓oAdd, ↓oSubI, ↓oMulI, ↓oDivI, ↓oModI, ↓oPowI, ↓oSubB, ↓oCmpI, ↓oNeg, ↓oEq, ↓oNe, ↓oIsN, ↓oNotN, ↓oIsB, ↓oIx, ↓cLen, ↓lenQ, ↓D.len?, ↓cAbs, ↓cInt, ↓cMax2, ↓cMin2, ↓cGcd, ↓cSum, ↓cStr, ↓okEq_int, ↓okEq_bl, ↓okEq_non, ↓eqD_int, ↓eqD_bl, ↓eqD_intTup, ↓atI0, ↓atI1, ↓atI2, ↓atI3, ↓ty_int, ↓ty_bl, ↓ty_non, ↓ty_str, ↓ty_tup, ↓ty_lst, ↓endsOf, List.length_cons, List.length_nil, List.map_cons, List.map_nil, Bool.not_true, Bool.not_false, Bool.true_and, Bool.and_true, Bool.false_and, Bool.or_true, Bool.true_or, Bool.false_or, Bool.or_false, ite_true, ite_false, if_true, if_false, Bool.false_eq_true, reduceCtorEq, decide_true, decide_false, true_and, and_true, Bool.not_not, Option.isSome_some, if_false_left, decide_eq_true_eq, Bool.decide_eq_true, ↓isT_non_non, ↓isT_non_bool, ↓isT_non_int, ↓isT_non_str, ↓isT_non_tuple, ↓isT_non_list, ↓isT_non_dict, ↓isT_bool_non, ↓isT_bool_bool, ↓isT_bool_int, ↓isT_bool_str, ↓isT_bool_tuple, ↓isT_bool_list, ↓isT_bool_dict, ↓isT_int_non, ↓isT_int_bool, ↓isT_int_int, ↓isT_int_str, ↓isT_int_tuple, ↓isT_int_list, ↓isT_int_dict, ↓isT_str_non, ↓isT_str_bool, ↓isT_str_int, ↓isT_str_str, ↓isT_str_tuple, ↓isT_str_list, ↓isT_str_dict, ↓isT_tuple_non, ↓isT_tuple_bool, ↓isT_tuple_int, ↓isT_tuple_str, ↓isT_tuple_tuple, ↓isT_tuple_list, ↓isT_tuple_dict, ↓isT_list_non, ↓isT_list_bool, ↓isT_list_int, ↓isT_list_str, ↓isT_list_tuple, ↓isT_list_list, ↓isT_list_dict, ↓isT_dict_non, ↓isT_dict_bool, ↓isT_dict_int, ↓isT_dict_str, ↓isT_dict_tuple, ↓isT_dict_list, ↓isT_dict_dict, ↓slot_0, ↓slot_1, ↓slot_2, ↓slot_3, ↓slot_4, ↓slot_5, ↓slot_6, ↓slot_7, ↓slot_8, ↓slot_9, ↓slot_10, ↓slot_11, ↓slot_12, ↓slot_13, ↓slot_14, ↓slot_15, ↓slot_16, ↓slot_17, ↓set_0, ↓set_1, ↓set_2, ↓set_3, ↓set_4, ↓set_5, ↓set_6, ↓set_7, ↓set_8, ↓set_9, ↓set_10, ↓set_11, ↓set_12, ↓set_13, ↓set_14, ↓set_15, ↓set_16, ↓set_17, updM_updM]
      exact leaf p hp b (Nat.le_refl _)
  · rw [if_neg h]
    refine ⟨a, b + 1, rfl, updM_same, fun p hp => ?_⟩
    simp only [↓dSeq_eq, ↓wnx_nx, ↓wnx_rt, ↓wnx_bk, ↓wnx_ct, ↓wnx_ex, ↓wlp_nx, ↓wlp_rt, ↓wlp_bk, ↓wlp_ct, ↓wlp_ex, ↓wex_nx, ↓wex_rt, ↓wex_bk, ↓wex_ct, ↓wex_ex, ↓en_nx, ↓en_rt, ↓en_ex, ↓forGo_nil, ↓forGo_cons, ↓dNext, ↓dBreak, ↓dCont, ↓dDrop, ↓dRet, ↓dRetN, ↓dIfS, ↓hName, ↓hNil, ↓hCons, ↓hTup, ↓dAsg, ↓dPar, ↓dTest, ↓dAnd, ↓dOr, ↓dNot, ↓dAndV, ↓dOrV, ↓dNotV, ↓dIf, ↓dVar, ↓dC, ↓dOp, ↓dUn, ↓dNil, ↓dCons, ↓dTup, ↓dLst, ↓dLstM, ↓dCall, ↓dCallK, ↓pick, ↓dCB, ↓dSeqI, ↓dFor, ↓dRange1, ↓dRange2, ↓dRaise, ↓dRaise0, ↓dIsi, ↓dIsi2, ↓oAdd, ↓oSubI, ↓oMulI, ↓oDivI, ↓oModI, ↓oPowI, ↓oSubB, ↓oCmpI, ↓oNeg, ↓oEq, ↓oNe, ↓oIsN, ↓oNotN, ↓oIsB, ↓oIx, ↓cLen, ↓lenQ, ↓D.len?, ↓cAbs, ↓cInt, ↓cMax2, ↓cMin2, ↓cGcd, ↓cSum, ↓cStr, ↓okEq_int, ↓okEq_bl, ↓okEq_non, ↓eqD_int, ↓eqD_bl, ↓eqD_intTup, ↓atI0, ↓atI1, ↓atI2, ↓atI3, ↓ty_int, ↓ty_bl, ↓ty_non, ↓ty_str, ↓ty_tup, ↓ty_lst, ↓endsOf, List.length_cons, List.length_nil, List.map_cons, List.map_nil, Bool.not_true, Bool.not_false, Bool.true_and, Bool.and_true, Bool.false_and, Bool.or_true, Bool.true_or, Bool.false_or, Bool.or_false, ite_true, ite_false, if_true, if_false, Bool.false_eq_true, reduceCtorEq, decide_true, decide_false, true_and, and_true, Bool.not_not, Option.isSome_some, if_false_left, decide_eq_true_eq, Bool.decide_eq_true, ↓isT_non_non, ↓isT_non_bool, ↓isT_non_int, ↓isT_non_str, ↓isT_non_tuple, ↓isT_non_list, ↓isT_non_dict, ↓isT_bool_non, ↓isT_bool_bool, ↓isT_bool_int, ↓isT_bool_str, ↓isT_bool_tuple, ↓isT_bool_list, ↓isT_bool_dict, ↓isT_int_non, ↓isT_int_bool, ↓isT_int_int, ↓isT_int_str, ↓isT_int_tuple, ↓isT_int_list, ↓isT_int_dict, ↓isT_str_non, ↓isT_str_bool, ↓isT_str_int, ↓isT_str_str, ↓isT_str_tuple, ↓isT_str_list, ↓isT_str_dict, ↓isT_tuple_non, ↓isT_tuple_bool, ↓isT_tuple_int, ↓isT_tuple_str, ↓isT_tuple_tuple, ↓isT_tuple_list, ↓isT_tuple_dict, ↓isT_list_non, ↓isT_list_bool, ↓isT_list_int, ↓isT_list_str, ↓isT_list_tuple, ↓isT_list_list, ↓isT_list_dict, ↓isT_dict_non, ↓isT_dict_bool, ↓isT_dict_int, ↓isT_dict_str, ↓isT_dict_tuple, ↓isT_dict_list, ↓isT_dict_dict, ↓slot_0, ↓slot_1, ↓slot_2, ↓slot_3, ↓slot_4, ↓slot_5, ↓slot_6, ↓slot_7, ↓slot_8, ↓slot_9, ↓slot_10, ↓slot_11, ↓slot_12, ↓slot_13, ↓slot_14, ↓slot_15, ↓slot_16, ↓slot_17, ↓set_0, ↓set_1, ↓set_2, ↓set_3, ↓set_4, ↓set_5, ↓set_6, ↓set_7, ↓set_8, ↓set_9, ↓set_10, ↓set_11, ↓set_12, ↓set_13, ↓set_14, ↓set_15, ↓set_16, ↓set_17, updM_updM]
    exact leaf p hp _ (by omega)
end K01
end
section
set_option maxRecDepth 100000
set_option maxHeartbeats 3000000
set_option exponentiation.threshold 100
namespace K01
open PySem PySem.Spec L2 DL
variable {K : PySem.W.Frag}
/-! ### strange values -/
def Keep (M M' : Mst) : Prop := ∀ a c, M a = some c → M' a = some c
theorem Keep.refl (M : Mst) : Keep M M := fun _ _ h => h
theorem Keep.trans {M M1 M2 : Mst} (a : Keep M M1) (b : Keep M1 M2) : Keep M M2 := fun x c h => b x c (a x c h)
theorem Keep.new {M : Mst} {p : Addr} {c : Cell} (h : M p = none) : Keep M (updM M p c) := fun a d e => by
  rw [updM_ne (fun z => by subst z; rw [h] at e; cases e)]; exact e
def notL : D → Bool
  | .lst _ => false
  | _ => true
/-- a value that is no fraction: pure data, or an object of pure data -/
def Val (M : Mst) (d : D) : Prop := isFr d = false ∧ (((∀ M', WF 6 M' d) ∧ notL d = true) ∨ ∃ p, d = .ref p ∧ ((∃ l, M p = some (.lst l) ∧ l.length ≤ 10 ∧ ∀ x ∈ l, ∀ M', WF 5 M' x) ∨
  ∃ l, M p = some (.dct l) ∧ l.length ≤ 10 ∧ ndK l = true ∧ (l.map (·.1)).Nodup ∧ (.inr ("more" : Str)) ∉ l.map (·.1) ∧ ∀ kv ∈ l, ∀ M', WF 5 M' kv.2))
theorem Val.keep {M M' : Mst} {d : D} (k : Keep M M') (h : Val M d) : Val M' d := by
  obtain ⟨h1, h⟩ := h
  refine ⟨h1, ?_⟩
  rcases h with h | ⟨p, e, ⟨l, hm, h⟩ | ⟨l, hm, h⟩⟩
  · exact .inl h
  · exact .inr ⟨p, e, .inl ⟨l, k _ _ hm, h⟩⟩
  · exact .inr ⟨p, e, .inr ⟨l, k _ _ hm, h⟩⟩
/-- a pair of ints has a small second place -/
def Sm (d : D) : Prop := ∀ a b, d = .tup [.int a, .int b] → szI 9000 b
theorem sm_int {n m : Int} (h : szI 9000 m) : Sm (.tup [.int n, .int m]) := fun a b e => by cases e; exact h
def sp_law_strange : SpD := fun ds M Q _ => ∃ (x : Int × Int) (at_ : Int), ds = [pD x, .int at_] ∧ Fr 42 x ∧ 0 ≤ at_ ∧ at_ < 23 ∧ ∀ d M', Keep M M' → (NDM M → NDM M') → Val M' d → Sm d → Q d M'
theorem digits_good : ((List.range 1000).all fun n => decide ((toString (n : Int) : Str).length ≤ 100000) && (toString (n : Int) : Str).cps.toList.all fun c => decide (c < 0x110000)) = true := by
  decide +kernel
theorem digit_good {i : Int} (h0 : 0 ≤ i) (h : i < 1000) : goodS (toString i : Str) := by
  have e := List.all_eq_true.mp digits_good i.toNat (List.mem_range.mpr (by omega))
  have ei : ((i.toNat : Nat) : Int) = i := by omega
  rw [ei] at e
  obtain ⟨e1, e2⟩ := and2 e
  exact ⟨of_decide_eq_true e1, fun c hc => of_decide_eq_true (List.all_eq_true.mp e2 c hc)⟩
theorem good_half : goodS ("1/2" : Str) := ⟨by decide +kernel, by decide +kernel⟩
theorem nd_int2 {n d : Int} : (Cell.lst [.int n, .int d]).nd = true := rfl
theorem gcd_two {n d : Int} : isFr (.tup [.int (2 * n), .int (2 * d)]) = false := by
  have e : isFr (.tup [.int (2 * n), .int (2 * d)]) = (decide (1 ≤ 2 * d) && decide ((Nat.gcd (2 * n).natAbs (2 * d).natAbs : Int) = 1)) := rfl
  rw [e, Int.natAbs_mul, Int.natAbs_mul]
  have e2 : Nat.gcd (Int.natAbs 2 * n.natAbs) (Int.natAbs 2 * d.natAbs) = 2 * Nat.gcd n.natAbs d.natAbs := Nat.gcd_mul_left 2 _ _
  rw [e2, decide_eq_false (p := ((2 * Nat.gcd n.natAbs d.natAbs : Nat) : Int) = 1) (by omega), Bool.and_false]
theorem neg_den {n d : Int} (h : 0 < d) : isFr (.tup [.int n, .int (-d)]) = false := by
  have e : isFr (.tup [.int n, .int (-d)]) = (decide (1 ≤ -d) && decide ((Nat.gcd n.natAbs (-d).natAbs : Int) = 1)) := rfl
  rw [e, decide_eq_false (by omega), Bool.false_and]
theorem str_ne {a b : Str} (h : decide (a = b) = false) : (Sum.inr a : Key) ∉ [(Sum.inr b : Key)] := fun z => by
  rcases List.mem_cons.mp z with e | e
  · exact of_decide_eq_false h (Sum.inr.inj e)
  · cases e
theorem more_n : (Sum.inr ("more" : Str) : Key) ∉ [(Sum.inr ("n" : Str) : Key)] := str_ne (by decide +kernel)
theorem more_top : (Sum.inr ("more" : Str) : Key) ∉ [(Sum.inr ("top" : Str) : Key)] := str_ne (by decide +kernel)
theorem dct1_len {k : Key} {d : D} : [(k, d)].length ≤ 10 := by show 1 ≤ 10; decide
theorem dct1_nd {k : Key} {d : D} : ([(k, d)].map (·.1)).Nodup := List.nodup_cons.mpr ⟨by simp, List.nodup_nil⟩
theorem dct1_wf {k : Key} {i : Int} : ∀ kv ∈ [(k, D.int i)], ∀ M', WF 5 M' kv.2 := fun kv h M' => by
  rcases List.mem_cons.mp h with e | h
  · subst e; exact trivial
  · cases h
theorem val_dct1 {M : Mst} {p : Addr} {k : Key} {i : Int} (hm : M p = some (.dct [(k, .int i)])) (hk : (Sum.inr ("more" : Str) : Key) ∉ [k]) : Val M (.ref p) :=
  ⟨rfl, .inr ⟨p, rfl, .inr ⟨[(k, .int i)], hm, dct1_len, rfl, dct1_nd, hk, dct1_wf⟩⟩⟩
theorem all0 {P : D → Prop} : ∀ x ∈ ([] : List D), P x := fun _ h => by cases h
theorem all1 {a : D} {P : D → Prop} (h : P a) : ∀ x ∈ [a], P x := fun x hx => by
  rcases List.mem_cons.mp hx with e | hx
  · subst e; exact h
  · cases hx
theorem all2 {a b : D} {P : D → Prop} (h : P a) (h2 : P b) : ∀ x ∈ [a, b], P x := fun x hx => by
  rcases List.mem_cons.mp hx with e | hx
  · subst e; exact h
  · exact all1 h2 x hx
theorem all3 {a b c : D} {P : D → Prop} (h : P a) (h2 : P b) (h3 : P c) : ∀ x ∈ [a, b, c], P x := fun x hx => by
  rcases List.mem_cons.mp hx with e | hx
  · subst e; exact h
  · exact all2 h2 h3 x hx
/-- pure data, n deep -/
abbrev Pure (n : Nat) (d : D) : Prop := ∀ M', WF n M' d
theorem pu_int {n : Nat} {i : Int} : Pure (n + 1) (.int i) := fun _ => trivial
theorem pu_bl {n : Nat} {i : Bool} : Pure (n + 1) (.bl i) := fun _ => trivial
theorem pu_non {n : Nat} : Pure (n + 1) .non := fun _ => trivial
theorem pu_str {n : Nat} {z : Str} (h : goodS z) : Pure (n + 1) (.str z) := fun _ => h
theorem pu_t0 {n : Nat} : Pure (n + 1) (.tup []) := fun _ => ⟨Nat.zero_le _, all0⟩
theorem pu_t1 {n : Nat} {a : D} (ha : Pure n a) : Pure (n + 1) (.tup [a]) := fun M' => ⟨by show 1 ≤ 100000; decide, all1 (ha M')⟩
theorem pu_t2 {n : Nat} {a b : D} (ha : Pure n a) (hb : Pure n b) : Pure (n + 1) (.tup [a, b]) := fun M' => ⟨by show 2 ≤ 100000; decide, all2 (ha M') (hb M')⟩
theorem pu_t3 {n : Nat} {a b c : D} (ha : Pure n a) (hb : Pure n b) (hc : Pure n c) : Pure (n + 1) (.tup [a, b, c]) := fun M' => ⟨by show 3 ≤ 100000; decide, all3 (ha M') (hb M') (hc M')⟩
theorem val_lst {M : Mst} {p : Addr} {l : List D} (hm : M p = some (.lst l)) (hl : l.length ≤ 10) (hw : ∀ x ∈ l, ∀ M', WF 5 M' x) : Val M (.ref p) := ⟨rfl, .inr ⟨p, rfl, .inl ⟨l, hm, hl, hw⟩⟩⟩
theorem val_dct0 {M : Mst} {p : Addr} (hm : M p = some (.dct [])) : Val M (.ref p) :=
  ⟨rfl, .inr ⟨p, rfl, .inr ⟨[], hm, Nat.zero_le _, rfl, List.nodup_nil, by simp, by simp⟩⟩⟩
theorem p_law_strange (ds M Q E) (h : sp_law_strange ds M Q E) : t_law_strange K (endsOf Q E) ⟨startD N_law_strange.length ds, M⟩ := by
  obtain ⟨⟨n, d⟩, at_, rfl, hx, h0, h1, q⟩ := h
  show t_law_strange K (endsOf Q E) ⟨[some (.tup [.int n, .int d]), some (.int at_), none, none, none], M⟩
  have hd : 0 < d := hx.pos
  have s1 : szI 60000000 n := sz60 hx.n1 (by decide)
  have s2 : szI 60000000 d := sz60 hx.n2 (by decide)
  unfold t_law_strange
  refine seq_to (S' := ⟨[some (.tup [.int n, .int d]), some (.int at_), some (.int n), some (.int d), none], M⟩) (fun R hR => ?_) ?_
  · simp only [↓dSeq_eq, ↓wnx_nx, ↓wnx_rt, ↓wnx_bk, ↓wnx_ct, ↓wnx_ex, ↓wlp_nx, ↓wlp_rt, ↓wlp_bk, ↓wlp_ct, ↓wlp_ex, ↓wex_nx, ↓wex_rt, ↓wex_bk, ↓wex_ct, ↓wex_ex, ↓en_nx, ↓en_rt, ↓en_ex, ↓forGo_nil, ↓forGo_cons, ↓dNext, ↓dBreak, ↓dCont, ↓dDrop, ↓dRet, ↓dRetN, ↓dIfS, ↓hName, ↓hNil, ↓hCons, ↓hTup, ↓dAsg, ↓dPar, ↓dTest, ↓dAnd, ↓dOr, ↓dNot, ↓dAndV, ↓dOrV, ↓dNotV, ↓dIf, ↓dVar, ↓dC, ↓dOp, ↓dUn, ↓dNil, ↓dCons, ↓dTup, ↓dLst, ↓dLstM, ↓dCall, ↓dCallK, ↓pick, ↓dCB, ↓dSeqI, ↓dFor, ↓dRange1, ↓dRange2, ↓dRaise, ↓dRaise0, ↓dIsi, ↓dIsi2, ↓oAdd, ↓oSubI, ↓oMulI, ↓oDivI, ↓oModI, ↓oPowI, ↓oSubB, ↓oCmpI, ↓oNeg, ↓oEq, ↓oNe, ↓oIsN, ↓oNotN, ↓oIsB, ↓oIx, ↓cLen, ↓lenQ, ↓D.len?, ↓cAbs, ↓cInt, ↓cMax2, ↓cMin2, ↓cGcd, ↓cSum, ↓cStr, ↓okEq_int, ↓okEq_bl, ↓okEq_non, ↓eqD_int, ↓eqD_bl, ↓eqD_intTup, ↓atI0, ↓atI1, ↓atI2, ↓atI3, ↓ty_int, ↓ty_bl, ↓ty_non, ↓ty_str, ↓ty_tup, ↓ty_lst, ↓endsOf, List.length_cons, List.length_nil, List.map_cons, List.map_nil, Bool.not_true, Bool.not_false, Bool.true_and, Bool.and_true, Bool.false_and, Bool.or_true, Bool.true_or, Bool.false_or, Bool.or_false, ite_true, ite_false, if_true, if_false, Bool.false_eq_true, reduceCtorEq, decide_true, decide_false, true_and, and_true, Bool.not_not, Option.isSome_some, if_false_left, decide_eq_true_eq, Bool.decide_eq_true, ↓isT_non_non, ↓isT_non_bool, ↓isT_non_int, ↓isT_non_str, ↓isT_non_tuple, ↓isT_non_list, ↓isT_non_dict, ↓isT_bool_non, ↓isT_bool_bool, ↓isT_bool_int, ↓isT_bool_str, ↓isT_bool_tuple, ↓isT_bool_list, ↓isT_bool_dict, ↓isT_int_non, ↓isT_int_bool, ↓isT_int_int, ↓isT_int_str, ↓isT_int_tuple, ↓isT_int_list, ↓isT_int_dict, ↓isT_str_non, ↓isT_str_bool, ↓isT_str_int, ↓isT_str_str, ↓isT_str_tuple, ↓isT_str_list, ↓isT_str_dict, ↓isT_tuple_non, ↓isT_tuple_bool, ↓isT_tuple_int, ↓isT_tuple_str, ↓isT_tuple_tuple, ↓isT_tuple_list, ↓isT_tuple_dict, ↓isT_list_non, ↓isT_list_bool, ↓isT_list_int, ↓isT_list_str, ↓isT_list_tuple, ↓isT_list_list, ↓isT_list_dict, ↓isT_dict_non, ↓isT_dict_bool, ↓isT_dict_int, ↓isT_dict_str, ↓isT_dict_tuple, ↓isT_dict_list, ↓isT_dict_dict, ↓slot_0, ↓slot_1, ↓slot_2, ↓slot_3, ↓slot_4, ↓slot_5, ↓slot_6, ↓slot_7, ↓slot_8, ↓slot_9, ↓slot_10, ↓slot_11, ↓slot_12, ↓slot_13, ↓slot_14, ↓slot_15, ↓slot_16, ↓slot_17, ↓set_0, ↓set_1, ↓set_2, ↓set_3, ↓set_4, ↓set_5, ↓set_6, ↓set_7, ↓set_8, ↓set_9, ↓set_10, ↓set_11, ↓set_12, ↓set_13, ↓set_14, ↓set_15, ↓set_16, ↓set_17]; exact hR
  refine seq_all (S' := fun p => ⟨[some (.tup [.int n, .int d]), some (.int at_), some (.int n), some (.int d), some (.lst [.ref p, .tup [.int n, .int (-d)], .tup [.int (2 * n), .int (2 * d)], .tup [.int n, .int 0], .tup [.int n], .tup [.int n, .int d, .int 1], .tup [.bl true, .int (d + 2)], .tup [.int (n + n + 1), .bl true], .tup [.bl false, .int 1], .tup [.int 0, .int 2], .int n, .non, .str "1/2"])], updM M p (.lst [.int n, .int d])⟩) (P := fun p => M p = none) (fun R hR => ?_) (fun p1 hp1 => ?_)
  · simp only [↓dSeq_eq, ↓wnx_nx, ↓wnx_rt, ↓wnx_bk, ↓wnx_ct, ↓wnx_ex, ↓wlp_nx, ↓wlp_rt, ↓wlp_bk, ↓wlp_ct, ↓wlp_ex, ↓wex_nx, ↓wex_rt, ↓wex_bk, ↓wex_ct, ↓wex_ex, ↓en_nx, ↓en_rt, ↓en_ex, ↓forGo_nil, ↓forGo_cons, ↓dNext, ↓dBreak, ↓dCont, ↓dDrop, ↓dRet, ↓dRetN, ↓dIfS, ↓hName, ↓hNil, ↓hCons, ↓hTup, ↓dAsg, ↓dPar, ↓dTest, ↓dAnd, ↓dOr, ↓dNot, ↓dAndV, ↓dOrV, ↓dNotV, ↓dIf, ↓dVar, ↓dC, ↓dOp, ↓dUn, ↓dNil, ↓dCons, ↓dTup, ↓dLst, ↓dLstM, ↓dCall, ↓dCallK, ↓pick, ↓dCB, ↓dSeqI, ↓dFor, ↓dRange1, ↓dRange2, ↓dRaise, ↓dRaise0, ↓dIsi, ↓dIsi2, ↓oAdd, ↓oSubI, ↓oMulI, ↓oDivI, ↓oModI, ↓oPowI, ↓oSubB, ↓oCmpI, ↓oNeg, ↓oEq, ↓oNe, ↓oIsN, ↓oNotN, ↓oIsB, ↓oIx, ↓cLen, ↓lenQ, ↓D.len?, ↓cAbs, ↓cInt, ↓cMax2, ↓cMin2, ↓cGcd, ↓cSum, ↓cStr, ↓okEq_int, ↓okEq_bl, ↓okEq_non, ↓eqD_int, ↓eqD_bl, ↓eqD_intTup, ↓atI0, ↓atI1, ↓atI2, ↓atI3, ↓ty_int, ↓ty_bl, ↓ty_non, ↓ty_str, ↓ty_tup, ↓ty_lst, ↓endsOf, List.length_cons, List.length_nil, List.map_cons, List.map_nil, Bool.not_true, Bool.not_false, Bool.true_and, Bool.and_true, Bool.false_and, Bool.or_true, Bool.true_or, Bool.false_or, Bool.or_false, ite_true, ite_false, if_true, if_false, Bool.false_eq_true, reduceCtorEq, decide_true, decide_false, true_and, and_true, Bool.not_not, Option.isSome_some, if_false_left, decide_eq_true_eq, Bool.decide_eq_true, ↓isT_non_non, ↓isT_non_bool, ↓isT_non_int, ↓isT_non_str, ↓isT_non_tuple, ↓isT_non_list, ↓isT_non_dict, ↓isT_bool_non, ↓isT_bool_bool, ↓isT_bool_int, ↓isT_bool_str, ↓isT_bool_tuple, ↓isT_bool_list, ↓isT_bool_dict, ↓isT_int_non, ↓isT_int_bool, ↓isT_int_int, ↓isT_int_str, ↓isT_int_tuple, ↓isT_int_list, ↓isT_int_dict, ↓isT_str_non, ↓isT_str_bool, ↓isT_str_int, ↓isT_str_str, ↓isT_str_tuple, ↓isT_str_list, ↓isT_str_dict, ↓isT_tuple_non, ↓isT_tuple_bool, ↓isT_tuple_int, ↓isT_tuple_str, ↓isT_tuple_tuple, ↓isT_tuple_list, ↓isT_tuple_dict, ↓isT_list_non, ↓isT_list_bool, ↓isT_list_int, ↓isT_list_str, ↓isT_list_tuple, ↓isT_list_list, ↓isT_list_dict, ↓isT_dict_non, ↓isT_dict_bool, ↓isT_dict_int, ↓isT_dict_str, ↓isT_dict_tuple, ↓isT_dict_list, ↓isT_dict_dict, ↓slot_0, ↓slot_1, ↓slot_2, ↓slot_3, ↓slot_4, ↓slot_5, ↓slot_6, ↓slot_7, ↓slot_8, ↓slot_9, ↓slot_10, ↓slot_11, ↓slot_12, ↓slot_13, ↓slot_14, ↓slot_15, ↓slot_16, ↓slot_17, ↓set_0, ↓set_1, ↓set_2, ↓set_3, ↓set_4, ↓set_5, ↓set_6, ↓set_7, ↓set_8, ↓set_9, ↓set_10, ↓set_11, ↓set_12, ↓set_13, ↓set_14, ↓set_15, ↓set_16, ↓set_17]
    refine ⟨by decide, fun p hp => ?_⟩
    exact ⟨by decide, ⟨s32 (by decide), s1⟩, ⟨s32 (by decide), s2⟩, by decide, by decide, by decide, by decide, by decide, by decide, by decide, by decide, by decide, hR p hp⟩
  have hk := fmod_lt (a := d) (b := 1000) (by decide)
  simp only [↓dSeq_eq, ↓wnx_nx, ↓wnx_rt, ↓wnx_bk, ↓wnx_ct, ↓wnx_ex, ↓wlp_nx, ↓wlp_rt, ↓wlp_bk, ↓wlp_ct, ↓wlp_ex, ↓wex_nx, ↓wex_rt, ↓wex_bk, ↓wex_ct, ↓wex_ex, ↓en_nx, ↓en_rt, ↓en_ex, ↓forGo_nil, ↓forGo_cons, ↓dNext, ↓dBreak, ↓dCont, ↓dDrop, ↓dRet, ↓dRetN, ↓dIfS, ↓hName, ↓hNil, ↓hCons, ↓hTup, ↓dAsg, ↓dPar, ↓dTest, ↓dAnd, ↓dOr, ↓dNot, ↓dAndV, ↓dOrV, ↓dNotV, ↓dIf, ↓dVar, ↓dC, ↓dOp, ↓dUn, ↓dNil, ↓dCons, ↓dTup, ↓dLst, ↓dLstM, ↓dCall, ↓dCallK, ↓pick, ↓dCB, ↓dSeqI, ↓dFor, ↓dRange1, ↓dRange2, ↓dRaise, ↓dRaise0, ↓dIsi, ↓dIsi2, ↓oAdd, ↓oSubI, ↓oMulI, ↓oDivI, ↓oModI, ↓oPowI, ↓oSubB, ↓oCmpI, ↓oNeg, ↓oEq, ↓oNe, ↓oIsN, ↓oNotN, ↓oIsB, ↓oIx, ↓cLen, ↓lenQ, ↓D.len?, ↓cAbs, ↓cInt, ↓cMax2, ↓cMin2, ↓cGcd, ↓cSum, ↓cStr, ↓okEq_int, ↓okEq_bl, ↓okEq_non, ↓eqD_int, ↓eqD_bl, ↓eqD_intTup, ↓atI0, ↓atI1, ↓atI2, ↓atI3, ↓ty_int, ↓ty_bl, ↓ty_non, ↓ty_str, ↓ty_tup, ↓ty_lst, ↓endsOf, List.length_cons, List.length_nil, List.map_cons, List.map_nil, Bool.not_true, Bool.not_false, Bool.true_and, Bool.and_true, Bool.false_and, Bool.or_true, Bool.true_or, Bool.false_or, Bool.or_false, ite_true, ite_false, if_true, if_false, Bool.false_eq_true, reduceCtorEq, decide_true, decide_false, true_and, and_true, Bool.not_not, Option.isSome_some, if_false_left, decide_eq_true_eq, Bool.decide_eq_true, ↓isT_non_non, ↓isT_non_bool, ↓isT_non_int, ↓isT_non_str, ↓isT_non_tuple, ↓isT_non_list, ↓isT_non_dict, ↓isT_bool_non, ↓isT_bool_bool, ↓isT_bool_int, ↓isT_bool_str, ↓isT_bool_tuple, ↓isT_bool_list, ↓isT_bool_dict, ↓isT_int_non, ↓isT_int_bool, ↓isT_int_int, ↓isT_int_str, ↓isT_int_tuple, ↓isT_int_list, ↓isT_int_dict, ↓isT_str_non, ↓isT_str_bool, ↓isT_str_int, ↓isT_str_str, ↓isT_str_tuple, ↓isT_str_list, ↓isT_str_dict, ↓isT_tuple_non, ↓isT_tuple_bool, ↓isT_tuple_int, ↓isT_tuple_str, ↓isT_tuple_tuple, ↓isT_tuple_list, ↓isT_tuple_dict, ↓isT_list_non, ↓isT_list_bool, ↓isT_list_int, ↓isT_list_str, ↓isT_list_tuple, ↓isT_list_list, ↓isT_list_dict, ↓isT_dict_non, ↓isT_dict_bool, ↓isT_dict_int, ↓isT_dict_str, ↓isT_dict_tuple, ↓isT_dict_list, ↓isT_dict_dict, ↓slot_0, ↓slot_1, ↓slot_2, ↓slot_3, ↓slot_4, ↓slot_5, ↓slot_6, ↓slot_7, ↓slot_8, ↓slot_9, ↓slot_10, ↓slot_11, ↓slot_12, ↓slot_13, ↓slot_14, ↓slot_15, ↓slot_16, ↓slot_17, ↓set_0, ↓set_1, ↓set_2, ↓set_3, ↓set_4, ↓set_5, ↓set_6, ↓set_7, ↓set_8, ↓set_9, ↓set_10, ↓set_11, ↓set_12, ↓set_13, ↓set_14, ↓set_15, ↓set_16, ↓set_17, dDctM1, dDctM0]
  refine ⟨by decide, up_sz (j := 32) (by have : (d.fmod 1000).natAbs < 4294967296 := by omega
                                         exact this) (by decide), by decide, by decide, by decide, by decide, by decide, fun p2 hp2 p3 hp3 => ⟨updM_same, by decide, by decide, fun p4 hp4 => ?_⟩⟩
  rw [updM_updM] at hp4
  refine ⟨by decide, by decide, by decide, fun p5 hp5 => ⟨by decide, by decide, ?_⟩⟩
  rw [updM_updM] at hp5
  simp only [updM_updM]
  have k1 : Keep M (updM M p1 (.lst [.int n, .int d])) := Keep.new hp1
  have k2 := Keep.new (c := .lst [.tup [.int n, .int d]]) hp2
  have k3 := Keep.new (c := .dct [(.inr ("n" : Str), .int n)]) hp3
  have k4 := Keep.new (c := .lst []) hp4
  have k5 := Keep.new (c := .dct []) hp5
  have kk := (((k1.trans k2).trans k3).trans k4).trans k5
  have nn : NDM M → NDM (updM (updM (updM (updM (updM M p1 (.lst [.int n, .int d])) p2 (.lst [.tup [.int n, .int d]])) p3 (.dct [(.inr ("n" : Str), .int n)])) p4 (.lst [])) p5 (.dct [])) := fun h => ((((h.upd rfl).upd rfl).upd rfl).upd rfl).upd rfl
  have m1 := (((k2.trans k3).trans k4).trans k5) p1 _ updM_same
  have m2 := ((k3.trans k4).trans k5) p2 _ updM_same
  have m3 := (k4.trans k5) p3 _ updM_same
  have m4 := k5 p4 _ updM_same
  have m5 : (updM (updM (updM (updM (updM M p1 (.lst [.int n, .int d])) p2 (.lst [.tup [.int n, .int d]])) p3 (.dct [(.inr ("n" : Str), .int n)])) p4 (.lst [])) p5 (.dct [])) p5 = some (.dct []) := updM_same
  have go : ∀ d1, Val _ d1 → Sm d1 → ∃ M_1, MLe M_1 _ ∧ Q d1 M_1 := fun d1 hv hs => ⟨_, .refl _, q d1 _ kk nn hv hs⟩
  have hd42 : d.natAbs < 2 ^ 42 := hx.n2
  have z1 : szI 9000 (-d) := by unfold szI; rw [Int.natAbs_neg]; exact up_sz hd42 (by decide)
  have z2 : szI 9000 (2 * d) := by
    have h2 : (2 : Int).natAbs < 2 ^ 42 := by decide
    exact up_sz (mul_sz h2 hd42) (by decide)
  have gs := digit_good hk.1 hk.2
  have e : at_ = 0 ∨ at_ = 1 ∨ at_ = 2 ∨ at_ = 3 ∨ at_ = 4 ∨ at_ = 5 ∨ at_ = 6 ∨ at_ = 7 ∨ at_ = 8 ∨ at_ = 9 ∨ at_ = 10 ∨ at_ = 11 ∨ at_ = 12 ∨ at_ = 13 ∨ at_ = 14 ∨ at_ = 15 ∨ at_ = 16 ∨ at_ = 17 ∨ at_ = 18 ∨ at_ = 19 ∨ at_ = 20 ∨ at_ = 21 ∨ at_ = 22 := by omega
  rcases e with rfl | rfl | rfl | rfl | rfl | rfl | rfl | rfl | rfl | rfl | rfl | rfl | rfl | rfl | rfl | rfl | rfl | rfl | rfl | rfl | rfl | rfl | rfl
  · exact go _ (val_lst m1 (by show 2 ≤ 10; decide) (all2 pu_int pu_int)) (fun _ _ e => by cases e)
  · exact go _ ⟨neg_den hd, .inl ⟨(pu_t2 pu_int pu_int), rfl⟩⟩ (sm_int z1)
  · exact go _ ⟨gcd_two, .inl ⟨(pu_t2 pu_int pu_int), rfl⟩⟩ (sm_int z2)
  · exact go _ ⟨rfl, .inl ⟨(pu_t2 pu_int pu_int), rfl⟩⟩ (sm_int (d32 (by decide)))
  · exact go _ ⟨rfl, .inl ⟨(pu_t1 pu_int), rfl⟩⟩ (fun _ _ e => by cases e)
  · exact go _ ⟨rfl, .inl ⟨(pu_t3 pu_int pu_int pu_int), rfl⟩⟩ (fun _ _ e => by cases e)
  · exact go _ ⟨rfl, .inl ⟨(pu_t2 pu_bl pu_int), rfl⟩⟩ (fun _ _ e => by cases e)
  · exact go _ ⟨rfl, .inl ⟨(pu_t2 pu_int pu_bl), rfl⟩⟩ (fun _ _ e => by cases e)
  · exact go _ ⟨rfl, .inl ⟨(pu_t2 pu_bl pu_int), rfl⟩⟩ (fun _ _ e => by cases e)
  · exact go _ ⟨rfl, .inl ⟨(pu_t2 pu_int pu_int), rfl⟩⟩ (sm_int (d32 (by decide)))
  · exact go _ ⟨rfl, .inl ⟨pu_int, rfl⟩⟩ (fun _ _ e => by cases e)
  · exact go _ ⟨rfl, .inl ⟨pu_non, rfl⟩⟩ (fun _ _ e => by cases e)
  · exact go _ ⟨rfl, .inl ⟨(pu_str good_half), rfl⟩⟩ (fun _ _ e => by cases e)
  · exact go _ ⟨rfl, .inl ⟨(pu_t2 (pu_str gs) pu_int), rfl⟩⟩ (fun _ _ e => by cases e)
  · exact go _ ⟨rfl, .inl ⟨(pu_t1 (pu_t2 pu_int pu_int)), rfl⟩⟩ (fun _ _ e => by cases e)
  · exact go _ (val_lst m2 (by show 1 ≤ 10; decide) (all1 (pu_t2 pu_int pu_int))) (fun _ _ e => by cases e)
  · exact go _ (val_dct1 m3 more_n) (fun _ _ e => by cases e)
  · exact go _ ⟨rfl, .inl ⟨pu_t0, rfl⟩⟩ (fun _ _ e => by cases e)
  · exact go _ (val_lst m4 (Nat.zero_le _) all0) (fun _ _ e => by cases e)
  · exact go _ ⟨rfl, .inl ⟨(pu_t2 pu_non pu_int), rfl⟩⟩ (fun _ _ e => by cases e)
  · exact go _ ⟨rfl, .inl ⟨(pu_t2 (pu_t2 pu_int pu_int) pu_int), rfl⟩⟩ (fun _ _ e => by cases e)
  · exact go _ ⟨rfl, .inl ⟨pu_bl, rfl⟩⟩ (fun _ _ e => by cases e)
  · exact go _ (val_dct0 m5) (fun _ _ e => by cases e)
end K01
end
section
set_option maxRecDepth 100000
set_option maxHeartbeats 2000000
set_option exponentiation.threshold 100
namespace K01
open PySem PySem.Spec L2 DL
variable {K : PySem.W.Frag}
/-- pure data, or an object -/
def Obj (M : Mst) (d : D) : Prop := ((∀ M', WF 6 M' d) ∧ notL d = true) ∨ Val M d
def sp_law_no_integer : SpD := fun ds M Q _ => ∃ (x : Int × Int) (at_ : Int), ds = [pD x, .int at_] ∧ 0 ≤ at_ ∧ at_ < 12 ∧ ∀ d M', Keep M M' → (NDM M → NDM M') → isInt d = false → Obj M' d → Q d M'
theorem good3 : goodS ("3" : Str) := ⟨by decide +kernel, by decide +kernel⟩
theorem good0 : goodS ("" : Str) := ⟨by decide +kernel, by decide +kernel⟩
theorem p_law_no_integer (ds M Q E) (h : sp_law_no_integer ds M Q E) : t_law_no_integer K (endsOf Q E) ⟨startD N_law_no_integer.length ds, M⟩ := by
  obtain ⟨⟨n, d⟩, at_, rfl, h0, h1, q⟩ := h
  show t_law_no_integer K (endsOf Q E) ⟨[some (.tup [.int n, .int d]), some (.int at_)], M⟩
  simp only [↓dSeq_eq, ↓wnx_nx, ↓wnx_rt, ↓wnx_bk, ↓wnx_ct, ↓wnx_ex, ↓wlp_nx, ↓wlp_rt, ↓wlp_bk, ↓wlp_ct, ↓wlp_ex, ↓wex_nx, ↓wex_rt, ↓wex_bk, ↓wex_ct, ↓wex_ex, ↓en_nx, ↓en_rt, ↓en_ex, ↓forGo_nil, ↓forGo_cons, ↓dNext, ↓dBreak, ↓dCont, ↓dDrop, ↓dRet, ↓dRetN, ↓dIfS, ↓hName, ↓hNil, ↓hCons, ↓hTup, ↓dAsg, ↓dPar, ↓dTest, ↓dAnd, ↓dOr, ↓dNot, ↓dAndV, ↓dOrV, ↓dNotV, ↓dIf, ↓dVar, ↓dC, ↓dOp, ↓dUn, ↓dNil, ↓dCons, ↓dTup, ↓dLst, ↓dLstM, ↓dCall, ↓dCallK, ↓pick, ↓dCB, ↓dSeqI, ↓dFor, ↓dRange1, ↓dRange2, ↓dRaise, ↓dRaise0, ↓dIsi, ↓dIsi2, ↓oAdd, ↓oSubI, ↓oMulI, ↓oDivI, ↓oModI, ↓oPowI, ↓oSubB, ↓oCmpI, ↓oNeg, ↓oEq, ↓oNe, ↓oIsN, ↓oNotN, ↓oIsB, ↓oIx, ↓cLen, ↓lenQ, ↓D.len?, ↓cAbs, ↓cInt, ↓cMax2, ↓cMin2, ↓cGcd, ↓cSum, ↓cStr, ↓okEq_int, ↓okEq_bl, ↓okEq_non, ↓eqD_int, ↓eqD_bl, ↓eqD_intTup, ↓atI0, ↓atI1, ↓atI2, ↓atI3, ↓ty_int, ↓ty_bl, ↓ty_non, ↓ty_str, ↓ty_tup, ↓ty_lst, ↓endsOf, List.length_cons, List.length_nil, List.map_cons, List.map_nil, Bool.not_true, Bool.not_false, Bool.true_and, Bool.and_true, Bool.false_and, Bool.or_true, Bool.true_or, Bool.false_or, Bool.or_false, ite_true, ite_false, if_true, if_false, Bool.false_eq_true, reduceCtorEq, decide_true, decide_false, true_and, and_true, Bool.not_not, Option.isSome_some, if_false_left, decide_eq_true_eq, Bool.decide_eq_true, ↓isT_non_non, ↓isT_non_bool, ↓isT_non_int, ↓isT_non_str, ↓isT_non_tuple, ↓isT_non_list, ↓isT_non_dict, ↓isT_bool_non, ↓isT_bool_bool, ↓isT_bool_int, ↓isT_bool_str, ↓isT_bool_tuple, ↓isT_bool_list, ↓isT_bool_dict, ↓isT_int_non, ↓isT_int_bool, ↓isT_int_int, ↓isT_int_str, ↓isT_int_tuple, ↓isT_int_list, ↓isT_int_dict, ↓isT_str_non, ↓isT_str_bool, ↓isT_str_int, ↓isT_str_str, ↓isT_str_tuple, ↓isT_str_list, ↓isT_str_dict, ↓isT_tuple_non, ↓isT_tuple_bool, ↓isT_tuple_int, ↓isT_tuple_str, ↓isT_tuple_tuple, ↓isT_tuple_list, ↓isT_tuple_dict, ↓isT_list_non, ↓isT_list_bool, ↓isT_list_int, ↓isT_list_str, ↓isT_list_tuple, ↓isT_list_list, ↓isT_list_dict, ↓isT_dict_non, ↓isT_dict_bool, ↓isT_dict_int, ↓isT_dict_str, ↓isT_dict_tuple, ↓isT_dict_list, ↓isT_dict_dict, ↓slot_0, ↓slot_1, ↓slot_2, ↓slot_3, ↓slot_4, ↓slot_5, ↓slot_6, ↓slot_7, ↓slot_8, ↓slot_9, ↓slot_10, ↓slot_11, ↓slot_12, ↓slot_13, ↓slot_14, ↓slot_15, ↓slot_16, ↓slot_17, ↓set_0, ↓set_1, ↓set_2, ↓set_3, ↓set_4, ↓set_5, ↓set_6, ↓set_7, ↓set_8, ↓set_9, ↓set_10, ↓set_11, ↓set_12, ↓set_13, ↓set_14, ↓set_15, ↓set_16, ↓set_17, ↓t_law_no_integer, dDctM1, dDctM0]
  refine ⟨by decide, fun p1 hp1 => ⟨by decide, fun p2 hp2 => ⟨by decide, fun p3 hp3 p4 hp4 => ⟨updM_same, by decide, by decide, ?_⟩⟩⟩⟩
  simp only [updM_updM]
  have k1 : Keep M (updM M p1 (.lst [.int n])) := Keep.new hp1
  have k2 := Keep.new (c := .dct []) hp2
  have k3 := Keep.new (c := .lst []) hp3
  have k4 := Keep.new (c := .dct [(.inr ("top" : Str), .int 1)]) hp4
  have kk := ((k1.trans k2).trans k3).trans k4
  have nn : NDM M → NDM (updM (updM (updM (updM M p1 (.lst [.int n])) p2 (.dct [])) p3 (.lst [])) p4 (.dct [(.inr ("top" : Str), .int 1)])) := fun h => (((h.upd rfl).upd rfl).upd rfl).upd rfl
  have m1 := ((k2.trans k3).trans k4) p1 _ updM_same
  have m2 := (k3.trans k4) p2 _ updM_same
  have m3 := k4 p3 _ updM_same
  have m4 : (updM (updM (updM (updM M p1 (.lst [.int n])) p2 (.dct [])) p3 (.lst [])) p4 (.dct [(.inr ("top" : Str), .int 1)])) p4 = some (.dct [(.inr ("top" : Str), .int 1)]) := updM_same
  have go : ∀ d1, isInt d1 = false → Obj _ d1 → ∃ M_1, MLe M_1 _ ∧ Q d1 M_1 := fun d1 hi hv => ⟨_, .refl _, q d1 _ kk nn hi hv⟩
  have e : at_ = 0 ∨ at_ = 1 ∨ at_ = 2 ∨ at_ = 3 ∨ at_ = 4 ∨ at_ = 5 ∨ at_ = 6 ∨ at_ = 7 ∨ at_ = 8 ∨ at_ = 9 ∨ at_ = 10 ∨ at_ = 11 := by omega
  rcases e with rfl | rfl | rfl | rfl | rfl | rfl | rfl | rfl | rfl | rfl | rfl | rfl
  · exact go _ rfl (.inl ⟨pu_bl, rfl⟩)
  · exact go _ rfl (.inl ⟨pu_bl, rfl⟩)
  · exact go _ rfl (.inl ⟨pu_non, rfl⟩)
  · exact go _ rfl (.inl ⟨(pu_t2 pu_int pu_int), rfl⟩)
  · exact go _ rfl (.inl ⟨(pu_str good3), rfl⟩)
  · exact go _ rfl (.inr (val_lst m1 (by show 1 ≤ 10; decide) (all1 pu_int)))
  · exact go _ rfl (.inl ⟨pu_t0, rfl⟩)
  · exact go _ rfl (.inr (val_dct0 m2))
  · exact go _ rfl (.inr (val_lst m3 (Nat.zero_le _) all0))
  · exact go _ rfl (.inr (val_dct1 m4 more_top))
  · exact go _ rfl (.inl ⟨(pu_str good0), rfl⟩)
  · exact go _ rfl (.inl ⟨(pu_t1 pu_int), rfl⟩)
/-! ### the very same value -/
theorem Obj.keep {M M' : Mst} {d : D} (k : Keep M M') (h : Obj M d) : Obj M' d := h.imp id (Val.keep k)
theorem wf_up {M : Mst} : ∀ {n : Nat} {d : D}, WF n M d → WF (n + 1) M d
  | 0, d, h => h.elim
  | n + 1, d, h => by
    cases d with
    | tup l => exact ⟨h.1, fun x hx => wf_up (h.2 x hx)⟩
    | lst l => exact ⟨h.1, fun x hx => wf_up (h.2 x hx)⟩
    | ref p =>
      rcases h with ⟨l, hm, h1, h2⟩ | ⟨l, hm, h1, h2, h3, h4⟩
      · exact .inl ⟨l, hm, h1, fun x hx => wf_up (h2 x hx)⟩
      · exact .inr ⟨l, hm, h1, h2, h3, fun kv hk M' => wf_up (h4 kv hk M')⟩
    | _ => exact h
theorem wf_le {M : Mst} {d : D} {n m : Nat} (h : WF n M d) (hm : n ≤ m) : WF m M d := by
  induction hm with
  | refl => exact h
  | step _ ih => exact wf_up ih
theorem Val.wf {M : Mst} {d : D} (h : Val M d) : WF 6 M d := by
  rcases h.2 with h | ⟨p, rfl, ⟨l, hm, h1, h2⟩ | ⟨l, hm, h1, h2, h3, h4, h5⟩⟩
  · exact h.1 M
  · exact .inl ⟨l, hm, by omega, fun x hx => h2 x hx M⟩
  · exact .inr ⟨l, hm, by omega, h2, h3, h5⟩
theorem Obj.wf {M : Mst} {d : D} (h : Obj M d) : WF 6 M d := h.elim (fun h => h.1 M) Val.wf
def boxes (M M' : Mst) : Prop := ∀ a b, M a = some (.box b) → M' a = some (.box b)
theorem Keep.boxes {M M' : Mst} (k : Keep M M') : boxes M M' := fun a b h => k a _ h
theorem boxes_upd {M : Mst} {p : Addr} {c c0 : Cell} (h : M p = some c0) (hc : ∀ b, c0 ≠ .box b) : boxes M (updM M p c) := fun a b e => by
  rw [updM_ne (fun z => by subst z; rw [h] at e; cases e; exact hc _ rfl)]; exact e
theorem ty_wf {n : Nat} {M : Mst} {d : D} (h : WF n M d) : (d.ty M).isSome = true := by
  cases n with
  | zero => exact h.elim
  | succ n =>
    cases d with
    | ref p =>
      rcases h with ⟨l, hm, _⟩ | ⟨l, hm, _⟩
      · rw [ty_lc hm]; rfl
      · rw [ty_dc hm]; rfl
    | err C a dd fs => exact h.elim
    | _ => rfl
theorem known_wf {n : Nat} {M : Mst} {d : D} (h : WF (n + 1) M d) : known M d := ⟨ty_wf h, fun a b e => by
  subst e
  exact ⟨ty_wf (h.2 a (.head _)), ty_wf (h.2 b (.tail _ (.head _)))⟩⟩
def sp_law_very : SpD := fun ds M Q _ => ∃ d, ds = [d, d] ∧ NDM M ∧ Obj M d ∧ ∀ M', boxes M M' → NDM M' → Q (.bl true) M'
theorem same_eq {n : Nat} {M : Mst} {d : D} {Q : D → Mst → Prop} {E} (hn : NDM M) (h : WF 6 M d) (hn6 : 6 ≤ n) (q : Q (.bl true) M) : sp_same n [d, d] M Q E := ⟨d, d, rfl, hn, .inl ⟨rfl, wf_le h hn6, q⟩⟩
theorem ndK_more {l : List (Key × D)} (h : ndK l = true) : ndK (l ++ [(.inr ("more" : Str), .int 1)]) = true := by
  induction l with
  | nil => rfl
  | cons p l ih =>
    unfold ndK at h
    obtain ⟨h1, h2⟩ := and2 h
    show (_ && _) = true
    rw [h1, Bool.true_and]
    exact ih h2
theorem ndL_more {l : List D} {d : D} (h : ndL l = true) (hd : d.nd = true) : ndL (l ++ [d]) = true := by
  induction l with
  | nil =>
    show (d.nd && true) = true
    rw [hd]
    rfl
  | cons p l ih =>
    unfold ndL at h
    obtain ⟨h1, h2⟩ := and2 h
    show (_ && _) = true
    rw [h1, Bool.true_and]
    exact ih h2
theorem good_more : goodS ("more" : Str) := ⟨by decide +kernel, by decide +kernel⟩
theorem put_new {l : List (Key × D)} {k : Key} {d : D} (h : k ∉ l.map (·.1)) : putD l k d = l ++ [(k, d)] := by
  unfold putD
  rw [if_neg]
  intro z
  obtain ⟨kv, h1, h2⟩ := List.any_eq_true.mp z
  exact h (by rw [← of_decide_eq_true h2]; exact List.mem_map_of_mem h1)
theorem p_law_very (ds M Q E) (h : sp_law_very ds M Q E) : t_law_very K (sp_same 12) (endsOf Q E) ⟨startD N_law_very.length ds, M⟩ := by
  obtain ⟨d, rfl, hn, ho, q⟩ := h
  show t_law_very K (sp_same 12) (endsOf Q E) ⟨[some d, some d], M⟩
  unfold t_law_very
  refine skip_if (fun R E hR => ?_) ?_
  · simp only [↓dSeq_eq, ↓wnx_nx, ↓wnx_rt, ↓wnx_bk, ↓wnx_ct, ↓wnx_ex, ↓wlp_nx, ↓wlp_rt, ↓wlp_bk, ↓wlp_ct, ↓wlp_ex, ↓wex_nx, ↓wex_rt, ↓wex_bk, ↓wex_ct, ↓wex_ex, ↓en_nx, ↓en_rt, ↓en_ex, ↓forGo_nil, ↓forGo_cons, ↓dNext, ↓dBreak, ↓dCont, ↓dDrop, ↓dRet, ↓dRetN, ↓dIfS, ↓hName, ↓hNil, ↓hCons, ↓hTup, ↓dAsg, ↓dPar, ↓dTest, ↓dAnd, ↓dOr, ↓dNot, ↓dAndV, ↓dOrV, ↓dNotV, ↓dIf, ↓dVar, ↓dC, ↓dOp, ↓dUn, ↓dNil, ↓dCons, ↓dTup, ↓dLst, ↓dLstM, ↓dCall, ↓dCallK, ↓pick, ↓dCB, ↓dSeqI, ↓dFor, ↓dRange1, ↓dRange2, ↓dRaise, ↓dRaise0, ↓dIsi, ↓dIsi2, ↓oAdd, ↓oSubI, ↓oMulI, ↓oDivI, ↓oModI, ↓oPowI, ↓oSubB, ↓oCmpI, ↓oNeg, ↓oEq, ↓oNe, ↓oIsN, ↓oNotN, ↓oIsB, ↓oIx, ↓cLen, ↓lenQ, ↓D.len?, ↓cAbs, ↓cInt, ↓cMax2, ↓cMin2, ↓cGcd, ↓cSum, ↓cStr, ↓okEq_int, ↓okEq_bl, ↓okEq_non, ↓eqD_int, ↓eqD_bl, ↓eqD_intTup, ↓atI0, ↓atI1, ↓atI2, ↓atI3, ↓ty_int, ↓ty_bl, ↓ty_non, ↓ty_str, ↓ty_tup, ↓ty_lst, ↓endsOf, List.length_cons, List.length_nil, List.map_cons, List.map_nil, Bool.not_true, Bool.not_false, Bool.true_and, Bool.and_true, Bool.false_and, Bool.or_true, Bool.true_or, Bool.false_or, Bool.or_false, ite_true, ite_false, if_true, if_false, Bool.false_eq_true, reduceCtorEq, decide_true, decide_false, true_and, and_true, Bool.not_not, Option.isSome_some, if_false_left, decide_eq_true_eq, Bool.decide_eq_true, ↓isT_non_non, ↓isT_non_bool, ↓isT_non_int, ↓isT_non_str, ↓isT_non_tuple, ↓isT_non_list, ↓isT_non_dict, ↓isT_bool_non, ↓isT_bool_bool, ↓isT_bool_int, ↓isT_bool_str, ↓isT_bool_tuple, ↓isT_bool_list, ↓isT_bool_dict, ↓isT_int_non, ↓isT_int_bool, ↓isT_int_int, ↓isT_int_str, ↓isT_int_tuple, ↓isT_int_list, ↓isT_int_dict, ↓isT_str_non, ↓isT_str_bool, ↓isT_str_int, ↓isT_str_str, ↓isT_str_tuple, ↓isT_str_list, ↓isT_str_dict, ↓isT_tuple_non, ↓isT_tuple_bool, ↓isT_tuple_int, ↓isT_tuple_str, ↓isT_tuple_tuple, ↓isT_tuple_list, ↓isT_tuple_dict, ↓isT_list_non, ↓isT_list_bool, ↓isT_list_int, ↓isT_list_str, ↓isT_list_tuple, ↓isT_list_list, ↓isT_list_dict, ↓isT_dict_non, ↓isT_dict_bool, ↓isT_dict_int, ↓isT_dict_str, ↓isT_dict_tuple, ↓isT_dict_list, ↓isT_dict_dict, ↓slot_0, ↓slot_1, ↓slot_2, ↓slot_3, ↓slot_4, ↓slot_5, ↓slot_6, ↓slot_7, ↓slot_8, ↓slot_9, ↓slot_10, ↓slot_11, ↓slot_12, ↓slot_13, ↓slot_14, ↓slot_15, ↓slot_16, ↓slot_17, ↓set_0, ↓set_1, ↓set_2, ↓set_3, ↓set_4, ↓set_5, ↓set_6, ↓set_7, ↓set_8, ↓set_9, ↓set_10, ↓set_11, ↓set_12, ↓set_13, ↓set_14, ↓set_15, ↓set_16, ↓set_17]
    exact same_eq hn ho.wf (by decide) (by simp only [↓dSeq_eq, ↓wnx_nx, ↓wnx_rt, ↓wnx_bk, ↓wnx_ct, ↓wnx_ex, ↓wlp_nx, ↓wlp_rt, ↓wlp_bk, ↓wlp_ct, ↓wlp_ex, ↓wex_nx, ↓wex_rt, ↓wex_bk, ↓wex_ct, ↓wex_ex, ↓en_nx, ↓en_rt, ↓en_ex, ↓forGo_nil, ↓forGo_cons, ↓dNext, ↓dBreak, ↓dCont, ↓dDrop, ↓dRet, ↓dRetN, ↓dIfS, ↓hName, ↓hNil, ↓hCons, ↓hTup, ↓dAsg, ↓dPar, ↓dTest, ↓dAnd, ↓dOr, ↓dNot, ↓dAndV, ↓dOrV, ↓dNotV, ↓dIf, ↓dVar, ↓dC, ↓dOp, ↓dUn, ↓dNil, ↓dCons, ↓dTup, ↓dLst, ↓dLstM, ↓dCall, ↓dCallK, ↓pick, ↓dCB, ↓dSeqI, ↓dFor, ↓dRange1, ↓dRange2, ↓dRaise, ↓dRaise0, ↓dIsi, ↓dIsi2, ↓oAdd, ↓oSubI, ↓oMulI, ↓oDivI, ↓oModI, ↓oPowI, ↓oSubB, ↓oCmpI, ↓oNeg, ↓oEq, ↓oNe, ↓oIsN, ↓oNotN, ↓oIsB, ↓oIx, ↓cLen, ↓lenQ, ↓D.len?, ↓cAbs, ↓cInt, ↓cMax2, ↓cMin2, ↓cGcd, ↓cSum, ↓cStr, ↓okEq_int, ↓okEq_bl, ↓okEq_non, ↓eqD_int, ↓eqD_bl, ↓eqD_intTup, ↓atI0, ↓atI1, ↓atI2, ↓atI3, ↓ty_int, ↓ty_bl, ↓ty_non, ↓ty_str, ↓ty_tup, ↓ty_lst, ↓endsOf, List.length_cons, List.length_nil, List.map_cons, List.map_nil, Bool.not_true, Bool.not_false, Bool.true_and, Bool.and_true, Bool.false_and, Bool.or_true, Bool.true_or, Bool.false_or, Bool.or_false, ite_true, ite_false, if_true, if_false, Bool.false_eq_true, reduceCtorEq, decide_true, decide_false, true_and, and_true, Bool.not_not, Option.isSome_some, if_false_left, decide_eq_true_eq, Bool.decide_eq_true, ↓isT_non_non, ↓isT_non_bool, ↓isT_non_int, ↓isT_non_str, ↓isT_non_tuple, ↓isT_non_list, ↓isT_non_dict, ↓isT_bool_non, ↓isT_bool_bool, ↓isT_bool_int, ↓isT_bool_str, ↓isT_bool_tuple, ↓isT_bool_list, ↓isT_bool_dict, ↓isT_int_non, ↓isT_int_bool, ↓isT_int_int, ↓isT_int_str, ↓isT_int_tuple, ↓isT_int_list, ↓isT_int_dict, ↓isT_str_non, ↓isT_str_bool, ↓isT_str_int, ↓isT_str_str, ↓isT_str_tuple, ↓isT_str_list, ↓isT_str_dict, ↓isT_tuple_non, ↓isT_tuple_bool, ↓isT_tuple_int, ↓isT_tuple_str, ↓isT_tuple_tuple, ↓isT_tuple_list, ↓isT_tuple_dict, ↓isT_list_non, ↓isT_list_bool, ↓isT_list_int, ↓isT_list_str, ↓isT_list_tuple, ↓isT_list_list, ↓isT_list_dict, ↓isT_dict_non, ↓isT_dict_bool, ↓isT_dict_int, ↓isT_dict_str, ↓isT_dict_tuple, ↓isT_dict_list, ↓isT_dict_dict, ↓slot_0, ↓slot_1, ↓slot_2, ↓slot_3, ↓slot_4, ↓slot_5, ↓slot_6, ↓slot_7, ↓slot_8, ↓slot_9, ↓slot_10, ↓slot_11, ↓slot_12, ↓slot_13, ↓slot_14, ↓slot_15, ↓slot_16, ↓slot_17, ↓set_0, ↓set_1, ↓set_2, ↓set_3, ↓set_4, ↓set_5, ↓set_6, ↓set_7, ↓set_8, ↓set_9, ↓set_10, ↓set_11, ↓set_12, ↓set_13, ↓set_14, ↓set_15, ↓set_16, ↓set_17]; exact hR)
  have fin : ∀ (M' : Mst), NDM M' → WF 6 M' d → boxes M M' → (dRet (dCall (sp_same 12) (dCons (dVar 0) (dCons (dVar 1) dNil)))) (endsOf Q E) ⟨[some d, some d], M'⟩ := fun M' hn' hw hb => by
    simp only [↓dSeq_eq, ↓wnx_nx, ↓wnx_rt, ↓wnx_bk, ↓wnx_ct, ↓wnx_ex, ↓wlp_nx, ↓wlp_rt, ↓wlp_bk, ↓wlp_ct, ↓wlp_ex, ↓wex_nx, ↓wex_rt, ↓wex_bk, ↓wex_ct, ↓wex_ex, ↓en_nx, ↓en_rt, ↓en_ex, ↓forGo_nil, ↓forGo_cons, ↓dNext, ↓dBreak, ↓dCont, ↓dDrop, ↓dRet, ↓dRetN, ↓dIfS, ↓hName, ↓hNil, ↓hCons, ↓hTup, ↓dAsg, ↓dPar, ↓dTest, ↓dAnd, ↓dOr, ↓dNot, ↓dAndV, ↓dOrV, ↓dNotV, ↓dIf, ↓dVar, ↓dC, ↓dOp, ↓dUn, ↓dNil, ↓dCons, ↓dTup, ↓dLst, ↓dLstM, ↓dCall, ↓dCallK, ↓pick, ↓dCB, ↓dSeqI, ↓dFor, ↓dRange1, ↓dRange2, ↓dRaise, ↓dRaise0, ↓dIsi, ↓dIsi2, ↓oAdd, ↓oSubI, ↓oMulI, ↓oDivI, ↓oModI, ↓oPowI, ↓oSubB, ↓oCmpI, ↓oNeg, ↓oEq, ↓oNe, ↓oIsN, ↓oNotN, ↓oIsB, ↓oIx, ↓cLen, ↓lenQ, ↓D.len?, ↓cAbs, ↓cInt, ↓cMax2, ↓cMin2, ↓cGcd, ↓cSum, ↓cStr, ↓okEq_int, ↓okEq_bl, ↓okEq_non, ↓eqD_int, ↓eqD_bl, ↓eqD_intTup, ↓atI0, ↓atI1, ↓atI2, ↓atI3, ↓ty_int, ↓ty_bl, ↓ty_non, ↓ty_str, ↓ty_tup, ↓ty_lst, ↓endsOf, List.length_cons, List.length_nil, List.map_cons, List.map_nil, Bool.not_true, Bool.not_false, Bool.true_and, Bool.and_true, Bool.false_and, Bool.or_true, Bool.true_or, Bool.false_or, Bool.or_false, ite_true, ite_false, if_true, if_false, Bool.false_eq_true, reduceCtorEq, decide_true, decide_false, true_and, and_true, Bool.not_not, Option.isSome_some, if_false_left, decide_eq_true_eq, Bool.decide_eq_true, ↓isT_non_non, ↓isT_non_bool, ↓isT_non_int, ↓isT_non_str, ↓isT_non_tuple, ↓isT_non_list, ↓isT_non_dict, ↓isT_bool_non, ↓isT_bool_bool, ↓isT_bool_int, ↓isT_bool_str, ↓isT_bool_tuple, ↓isT_bool_list, ↓isT_bool_dict, ↓isT_int_non, ↓isT_int_bool, ↓isT_int_int, ↓isT_int_str, ↓isT_int_tuple, ↓isT_int_list, ↓isT_int_dict, ↓isT_str_non, ↓isT_str_bool, ↓isT_str_int, ↓isT_str_str, ↓isT_str_tuple, ↓isT_str_list, ↓isT_str_dict, ↓isT_tuple_non, ↓isT_tuple_bool, ↓isT_tuple_int, ↓isT_tuple_str, ↓isT_tuple_tuple, ↓isT_tuple_list, ↓isT_tuple_dict, ↓isT_list_non, ↓isT_list_bool, ↓isT_list_int, ↓isT_list_str, ↓isT_list_tuple, ↓isT_list_list, ↓isT_list_dict, ↓isT_dict_non, ↓isT_dict_bool, ↓isT_dict_int, ↓isT_dict_str, ↓isT_dict_tuple, ↓isT_dict_list, ↓isT_dict_dict, ↓slot_0, ↓slot_1, ↓slot_2, ↓slot_3, ↓slot_4, ↓slot_5, ↓slot_6, ↓slot_7, ↓slot_8, ↓slot_9, ↓slot_10, ↓slot_11, ↓slot_12, ↓slot_13, ↓slot_14, ↓slot_15, ↓slot_16, ↓slot_17, ↓set_0, ↓set_1, ↓set_2, ↓set_3, ↓set_4, ↓set_5, ↓set_6, ↓set_7, ↓set_8, ↓set_9, ↓set_10, ↓set_11, ↓set_12, ↓set_13, ↓set_14, ↓set_15, ↓set_16, ↓set_17]
    exact same_eq hn' hw (by decide) ⟨_, .refl _, q M' hb hn'⟩
  have pure : (∀ M', WF 6 M' d) → notL d = true → (dSeq (dIfS (dTest (dIsi .list (dVar 1))) (dDrop (dBM mAppend (dVar 1) (dCons (dC (.str "more")) dNil))) dNext)
     (dSeq (dIfS (dTest (dIsi .dict (dVar 1))) (dPutK (dVar 1) (dC (.str "more")) (dC (.int 1))) dNext)
     (dRet (dCall (sp_same 12) (dCons (dVar 0) (dCons (dVar 1) dNil)))))) (endsOf Q E) ⟨[some d, some d], M⟩ := fun hw hl => by
    have hnr : ∃ t, d.ty M = some t ∧ isT t .list = false ∧ isT t .dict = false := by
      have w0 := hw (fun _ => none)
      cases d with
      | ref p => rcases w0 with ⟨l, hm, _⟩ | ⟨l, hm, _⟩ <;> cases hm
      | err C a dd fs => exact w0.elim
      | lst l => cases hl
      | dct l => exact w0.elim
      | scr l => exact w0.elim
      | _ => exact ⟨_, rfl, rfl, rfl⟩
    obtain ⟨t, ht, t1, t2⟩ := hnr
    refine skip_if (fun R E hR => ?_) (skip_if (fun R E hR => ?_) (fin M hn (hw M) (Keep.refl M).boxes))
    · simp only [↓dSeq_eq, ↓wnx_nx, ↓wnx_rt, ↓wnx_bk, ↓wnx_ct, ↓wnx_ex, ↓wlp_nx, ↓wlp_rt, ↓wlp_bk, ↓wlp_ct, ↓wlp_ex, ↓wex_nx, ↓wex_rt, ↓wex_bk, ↓wex_ct, ↓wex_ex, ↓en_nx, ↓en_rt, ↓en_ex, ↓forGo_nil, ↓forGo_cons, ↓dNext, ↓dBreak, ↓dCont, ↓dDrop, ↓dRet, ↓dRetN, ↓dIfS, ↓hName, ↓hNil, ↓hCons, ↓hTup, ↓dAsg, ↓dPar, ↓dTest, ↓dAnd, ↓dOr, ↓dNot, ↓dAndV, ↓dOrV, ↓dNotV, ↓dIf, ↓dVar, ↓dC, ↓dOp, ↓dUn, ↓dNil, ↓dCons, ↓dTup, ↓dLst, ↓dLstM, ↓dCall, ↓dCallK, ↓pick, ↓dCB, ↓dSeqI, ↓dFor, ↓dRange1, ↓dRange2, ↓dRaise, ↓dRaise0, ↓dIsi, ↓dIsi2, ↓oAdd, ↓oSubI, ↓oMulI, ↓oDivI, ↓oModI, ↓oPowI, ↓oSubB, ↓oCmpI, ↓oNeg, ↓oEq, ↓oNe, ↓oIsN, ↓oNotN, ↓oIsB, ↓oIx, ↓cLen, ↓lenQ, ↓D.len?, ↓cAbs, ↓cInt, ↓cMax2, ↓cMin2, ↓cGcd, ↓cSum, ↓cStr, ↓okEq_int, ↓okEq_bl, ↓okEq_non, ↓eqD_int, ↓eqD_bl, ↓eqD_intTup, ↓atI0, ↓atI1, ↓atI2, ↓atI3, ↓ty_int, ↓ty_bl, ↓ty_non, ↓ty_str, ↓ty_tup, ↓ty_lst, ↓endsOf, List.length_cons, List.length_nil, List.map_cons, List.map_nil, Bool.not_true, Bool.not_false, Bool.true_and, Bool.and_true, Bool.false_and, Bool.or_true, Bool.true_or, Bool.false_or, Bool.or_false, ite_true, ite_false, if_true, if_false, Bool.false_eq_true, reduceCtorEq, decide_true, decide_false, true_and, and_true, Bool.not_not, Option.isSome_some, if_false_left, decide_eq_true_eq, Bool.decide_eq_true, ↓isT_non_non, ↓isT_non_bool, ↓isT_non_int, ↓isT_non_str, ↓isT_non_tuple, ↓isT_non_list, ↓isT_non_dict, ↓isT_bool_non, ↓isT_bool_bool, ↓isT_bool_int, ↓isT_bool_str, ↓isT_bool_tuple, ↓isT_bool_list, ↓isT_bool_dict, ↓isT_int_non, ↓isT_int_bool, ↓isT_int_int, ↓isT_int_str, ↓isT_int_tuple, ↓isT_int_list, ↓isT_int_dict, ↓isT_str_non, ↓isT_str_bool, ↓isT_str_int, ↓isT_str_str, ↓isT_str_tuple, ↓isT_str_list, ↓isT_str_dict, ↓isT_tuple_non, ↓isT_tuple_bool, ↓isT_tuple_int, ↓isT_tuple_str, ↓isT_tuple_tuple, ↓isT_tuple_list, ↓isT_tuple_dict, ↓isT_list_non, ↓isT_list_bool, ↓isT_list_int, ↓isT_list_str, ↓isT_list_tuple, ↓isT_list_list, ↓isT_list_dict, ↓isT_dict_non, ↓isT_dict_bool, ↓isT_dict_int, ↓isT_dict_str, ↓isT_dict_tuple, ↓isT_dict_list, ↓isT_dict_dict, ↓slot_0, ↓slot_1, ↓slot_2, ↓slot_3, ↓slot_4, ↓slot_5, ↓slot_6, ↓slot_7, ↓slot_8, ↓slot_9, ↓slot_10, ↓slot_11, ↓slot_12, ↓slot_13, ↓slot_14, ↓slot_15, ↓slot_16, ↓slot_17, ↓set_0, ↓set_1, ↓set_2, ↓set_3, ↓set_4, ↓set_5, ↓set_6, ↓set_7, ↓set_8, ↓set_9, ↓set_10, ↓set_11, ↓set_12, ↓set_13, ↓set_14, ↓set_15, ↓set_16, ↓set_17, ht, t1]; exact hR
    · simp only [↓dSeq_eq, ↓wnx_nx, ↓wnx_rt, ↓wnx_bk, ↓wnx_ct, ↓wnx_ex, ↓wlp_nx, ↓wlp_rt, ↓wlp_bk, ↓wlp_ct, ↓wlp_ex, ↓wex_nx, ↓wex_rt, ↓wex_bk, ↓wex_ct, ↓wex_ex, ↓en_nx, ↓en_rt, ↓en_ex, ↓forGo_nil, ↓forGo_cons, ↓dNext, ↓dBreak, ↓dCont, ↓dDrop, ↓dRet, ↓dRetN, ↓dIfS, ↓hName, ↓hNil, ↓hCons, ↓hTup, ↓dAsg, ↓dPar, ↓dTest, ↓dAnd, ↓dOr, ↓dNot, ↓dAndV, ↓dOrV, ↓dNotV, ↓dIf, ↓dVar, ↓dC, ↓dOp, ↓dUn, ↓dNil, ↓dCons, ↓dTup, ↓dLst, ↓dLstM, ↓dCall, ↓dCallK, ↓pick, ↓dCB, ↓dSeqI, ↓dFor, ↓dRange1, ↓dRange2, ↓dRaise, ↓dRaise0, ↓dIsi, ↓dIsi2, ↓oAdd, ↓oSubI, ↓oMulI, ↓oDivI, ↓oModI, ↓oPowI, ↓oSubB, ↓oCmpI, ↓oNeg, ↓oEq, ↓oNe, ↓oIsN, ↓oNotN, ↓oIsB, ↓oIx, ↓cLen, ↓lenQ, ↓D.len?, ↓cAbs, ↓cInt, ↓cMax2, ↓cMin2, ↓cGcd, ↓cSum, ↓cStr, ↓okEq_int, ↓okEq_bl, ↓okEq_non, ↓eqD_int, ↓eqD_bl, ↓eqD_intTup, ↓atI0, ↓atI1, ↓atI2, ↓atI3, ↓ty_int, ↓ty_bl, ↓ty_non, ↓ty_str, ↓ty_tup, ↓ty_lst, ↓endsOf, List.length_cons, List.length_nil, List.map_cons, List.map_nil, Bool.not_true, Bool.not_false, Bool.true_and, Bool.and_true, Bool.false_and, Bool.or_true, Bool.true_or, Bool.false_or, Bool.or_false, ite_true, ite_false, if_true, if_false, Bool.false_eq_true, reduceCtorEq, decide_true, decide_false, true_and, and_true, Bool.not_not, Option.isSome_some, if_false_left, decide_eq_true_eq, Bool.decide_eq_true, ↓isT_non_non, ↓isT_non_bool, ↓isT_non_int, ↓isT_non_str, ↓isT_non_tuple, ↓isT_non_list, ↓isT_non_dict, ↓isT_bool_non, ↓isT_bool_bool, ↓isT_bool_int, ↓isT_bool_str, ↓isT_bool_tuple, ↓isT_bool_list, ↓isT_bool_dict, ↓isT_int_non, ↓isT_int_bool, ↓isT_int_int, ↓isT_int_str, ↓isT_int_tuple, ↓isT_int_list, ↓isT_int_dict, ↓isT_str_non, ↓isT_str_bool, ↓isT_str_int, ↓isT_str_str, ↓isT_str_tuple, ↓isT_str_list, ↓isT_str_dict, ↓isT_tuple_non, ↓isT_tuple_bool, ↓isT_tuple_int, ↓isT_tuple_str, ↓isT_tuple_tuple, ↓isT_tuple_list, ↓isT_tuple_dict, ↓isT_list_non, ↓isT_list_bool, ↓isT_list_int, ↓isT_list_str, ↓isT_list_tuple, ↓isT_list_list, ↓isT_list_dict, ↓isT_dict_non, ↓isT_dict_bool, ↓isT_dict_int, ↓isT_dict_str, ↓isT_dict_tuple, ↓isT_dict_list, ↓isT_dict_dict, ↓slot_0, ↓slot_1, ↓slot_2, ↓slot_3, ↓slot_4, ↓slot_5, ↓slot_6, ↓slot_7, ↓slot_8, ↓slot_9, ↓slot_10, ↓slot_11, ↓slot_12, ↓slot_13, ↓slot_14, ↓slot_15, ↓slot_16, ↓slot_17, ↓set_0, ↓set_1, ↓set_2, ↓set_3, ↓set_4, ↓set_5, ↓set_6, ↓set_7, ↓set_8, ↓set_9, ↓set_10, ↓set_11, ↓set_12, ↓set_13, ↓set_14, ↓set_15, ↓set_16, ↓set_17, ht, t2]; exact hR
  rcases ho with ⟨h1, h2⟩ | ⟨_, ⟨h1, h2⟩ | ⟨p, rfl, ⟨l, hm, hl, hw⟩ | ⟨l, hm, hl, hk, hnd, hmo, hw⟩⟩⟩
  · exact pure h1 h2
  · exact pure h1 h2
  · have hnd : ndL l = true := hn p _ hm
    have hm' : updM M p (.lst (l ++ [.str "more"])) p = some (.lst (l ++ [.str "more"])) := updM_same
    have hM : NDM (updM M p (.lst (l ++ [.str "more"]))) := hn.upd (ndL_more hnd rfl)
    refine seq_to (S' := ⟨[some (.ref p), some (.ref p)], updM M p (.lst (l ++ [.str "more"]))⟩) (fun R hR => if_t (S' := ⟨[some (.ref p), some (.ref p)], M⟩) (fun R hR => ?_) ?_) (skip_if (fun R E hR => ?_) (fin _ hM (.inl ⟨_, hm', by rw [List.length_append]; show l.length + 1 ≤ 100000; omega, fun x hx => ?_⟩) (boxes_upd hm (by intro b z; cases z))))
    · simp only [↓dSeq_eq, ↓wnx_nx, ↓wnx_rt, ↓wnx_bk, ↓wnx_ct, ↓wnx_ex, ↓wlp_nx, ↓wlp_rt, ↓wlp_bk, ↓wlp_ct, ↓wlp_ex, ↓wex_nx, ↓wex_rt, ↓wex_bk, ↓wex_ct, ↓wex_ex, ↓en_nx, ↓en_rt, ↓en_ex, ↓forGo_nil, ↓forGo_cons, ↓dNext, ↓dBreak, ↓dCont, ↓dDrop, ↓dRet, ↓dRetN, ↓dIfS, ↓hName, ↓hNil, ↓hCons, ↓hTup, ↓dAsg, ↓dPar, ↓dTest, ↓dAnd, ↓dOr, ↓dNot, ↓dAndV, ↓dOrV, ↓dNotV, ↓dIf, ↓dVar, ↓dC, ↓dOp, ↓dUn, ↓dNil, ↓dCons, ↓dTup, ↓dLst, ↓dLstM, ↓dCall, ↓dCallK, ↓pick, ↓dCB, ↓dSeqI, ↓dFor, ↓dRange1, ↓dRange2, ↓dRaise, ↓dRaise0, ↓dIsi, ↓dIsi2, ↓oAdd, ↓oSubI, ↓oMulI, ↓oDivI, ↓oModI, ↓oPowI, ↓oSubB, ↓oCmpI, ↓oNeg, ↓oEq, ↓oNe, ↓oIsN, ↓oNotN, ↓oIsB, ↓oIx, ↓cLen, ↓lenQ, ↓D.len?, ↓cAbs, ↓cInt, ↓cMax2, ↓cMin2, ↓cGcd, ↓cSum, ↓cStr, ↓okEq_int, ↓okEq_bl, ↓okEq_non, ↓eqD_int, ↓eqD_bl, ↓eqD_intTup, ↓atI0, ↓atI1, ↓atI2, ↓atI3, ↓ty_int, ↓ty_bl, ↓ty_non, ↓ty_str, ↓ty_tup, ↓ty_lst, ↓endsOf, List.length_cons, List.length_nil, List.map_cons, List.map_nil, Bool.not_true, Bool.not_false, Bool.true_and, Bool.and_true, Bool.false_and, Bool.or_true, Bool.true_or, Bool.false_or, Bool.or_false, ite_true, ite_false, if_true, if_false, Bool.false_eq_true, reduceCtorEq, decide_true, decide_false, true_and, and_true, Bool.not_not, Option.isSome_some, if_false_left, decide_eq_true_eq, Bool.decide_eq_true, ↓isT_non_non, ↓isT_non_bool, ↓isT_non_int, ↓isT_non_str, ↓isT_non_tuple, ↓isT_non_list, ↓isT_non_dict, ↓isT_bool_non, ↓isT_bool_bool, ↓isT_bool_int, ↓isT_bool_str, ↓isT_bool_tuple, ↓isT_bool_list, ↓isT_bool_dict, ↓isT_int_non, ↓isT_int_bool, ↓isT_int_int, ↓isT_int_str, ↓isT_int_tuple, ↓isT_int_list, ↓isT_int_dict, ↓isT_str_non, ↓isT_str_bool, ↓isT_str_int, ↓isT_str_str, ↓isT_str_tuple, ↓isT_str_list, ↓isT_str_dict, ↓isT_tuple_non, ↓isT_tuple_bool, ↓isT_tuple_int, ↓isT_tuple_str, ↓isT_tuple_tuple, ↓isT_tuple_list, ↓isT_tuple_dict, ↓isT_list_non, ↓isT_list_bool, ↓isT_list_int, ↓isT_list_str, ↓isT_list_tuple, ↓isT_list_list, ↓isT_list_dict, ↓isT_dict_non, ↓isT_dict_bool, ↓isT_dict_int, ↓isT_dict_str, ↓isT_dict_tuple, ↓isT_dict_list, ↓isT_dict_dict, ↓slot_0, ↓slot_1, ↓slot_2, ↓slot_3, ↓slot_4, ↓slot_5, ↓slot_6, ↓slot_7, ↓slot_8, ↓slot_9, ↓slot_10, ↓slot_11, ↓slot_12, ↓slot_13, ↓slot_14, ↓slot_15, ↓slot_16, ↓slot_17, ↓set_0, ↓set_1, ↓set_2, ↓set_3, ↓set_4, ↓set_5, ↓set_6, ↓set_7, ↓set_8, ↓set_9, ↓set_10, ↓set_11, ↓set_12, ↓set_13, ↓set_14, ↓set_15, ↓set_16, ↓set_17, ↓ty_lc hm]; exact hR
    · simp only [↓dSeq_eq, ↓wnx_nx, ↓wnx_rt, ↓wnx_bk, ↓wnx_ct, ↓wnx_ex, ↓wlp_nx, ↓wlp_rt, ↓wlp_bk, ↓wlp_ct, ↓wlp_ex, ↓wex_nx, ↓wex_rt, ↓wex_bk, ↓wex_ct, ↓wex_ex, ↓en_nx, ↓en_rt, ↓en_ex, ↓forGo_nil, ↓forGo_cons, ↓dNext, ↓dBreak, ↓dCont, ↓dDrop, ↓dRet, ↓dRetN, ↓dIfS, ↓hName, ↓hNil, ↓hCons, ↓hTup, ↓dAsg, ↓dPar, ↓dTest, ↓dAnd, ↓dOr, ↓dNot, ↓dAndV, ↓dOrV, ↓dNotV, ↓dIf, ↓dVar, ↓dC, ↓dOp, ↓dUn, ↓dNil, ↓dCons, ↓dTup, ↓dLst, ↓dLstM, ↓dCall, ↓dCallK, ↓pick, ↓dCB, ↓dSeqI, ↓dFor, ↓dRange1, ↓dRange2, ↓dRaise, ↓dRaise0, ↓dIsi, ↓dIsi2, ↓oAdd, ↓oSubI, ↓oMulI, ↓oDivI, ↓oModI, ↓oPowI, ↓oSubB, ↓oCmpI, ↓oNeg, ↓oEq, ↓oNe, ↓oIsN, ↓oNotN, ↓oIsB, ↓oIx, ↓cLen, ↓lenQ, ↓D.len?, ↓cAbs, ↓cInt, ↓cMax2, ↓cMin2, ↓cGcd, ↓cSum, ↓cStr, ↓okEq_int, ↓okEq_bl, ↓okEq_non, ↓eqD_int, ↓eqD_bl, ↓eqD_intTup, ↓atI0, ↓atI1, ↓atI2, ↓atI3, ↓ty_int, ↓ty_bl, ↓ty_non, ↓ty_str, ↓ty_tup, ↓ty_lst, ↓endsOf, List.length_cons, List.length_nil, List.map_cons, List.map_nil, Bool.not_true, Bool.not_false, Bool.true_and, Bool.and_true, Bool.false_and, Bool.or_true, Bool.true_or, Bool.false_or, Bool.or_false, ite_true, ite_false, if_true, if_false, Bool.false_eq_true, reduceCtorEq, decide_true, decide_false, true_and, and_true, Bool.not_not, Option.isSome_some, if_false_left, decide_eq_true_eq, Bool.decide_eq_true, ↓isT_non_non, ↓isT_non_bool, ↓isT_non_int, ↓isT_non_str, ↓isT_non_tuple, ↓isT_non_list, ↓isT_non_dict, ↓isT_bool_non, ↓isT_bool_bool, ↓isT_bool_int, ↓isT_bool_str, ↓isT_bool_tuple, ↓isT_bool_list, ↓isT_bool_dict, ↓isT_int_non, ↓isT_int_bool, ↓isT_int_int, ↓isT_int_str, ↓isT_int_tuple, ↓isT_int_list, ↓isT_int_dict, ↓isT_str_non, ↓isT_str_bool, ↓isT_str_int, ↓isT_str_str, ↓isT_str_tuple, ↓isT_str_list, ↓isT_str_dict, ↓isT_tuple_non, ↓isT_tuple_bool, ↓isT_tuple_int, ↓isT_tuple_str, ↓isT_tuple_tuple, ↓isT_tuple_list, ↓isT_tuple_dict, ↓isT_list_non, ↓isT_list_bool, ↓isT_list_int, ↓isT_list_str, ↓isT_list_tuple, ↓isT_list_list, ↓isT_list_dict, ↓isT_dict_non, ↓isT_dict_bool, ↓isT_dict_int, ↓isT_dict_str, ↓isT_dict_tuple, ↓isT_dict_list, ↓isT_dict_dict, ↓slot_0, ↓slot_1, ↓slot_2, ↓slot_3, ↓slot_4, ↓slot_5, ↓slot_6, ↓slot_7, ↓slot_8, ↓slot_9, ↓slot_10, ↓slot_11, ↓slot_12, ↓slot_13, ↓slot_14, ↓slot_15, ↓slot_16, ↓slot_17, ↓set_0, ↓set_1, ↓set_2, ↓set_3, ↓set_4, ↓set_5, ↓set_6, ↓set_7, ↓set_8, ↓set_9, ↓set_10, ↓set_11, ↓set_12, ↓set_13, ↓set_14, ↓set_15, ↓set_16, ↓set_17, dBM, isLM, mAppend, hm]
      exact ⟨by omega, hR⟩
    · simp only [↓dSeq_eq, ↓wnx_nx, ↓wnx_rt, ↓wnx_bk, ↓wnx_ct, ↓wnx_ex, ↓wlp_nx, ↓wlp_rt, ↓wlp_bk, ↓wlp_ct, ↓wlp_ex, ↓wex_nx, ↓wex_rt, ↓wex_bk, ↓wex_ct, ↓wex_ex, ↓en_nx, ↓en_rt, ↓en_ex, ↓forGo_nil, ↓forGo_cons, ↓dNext, ↓dBreak, ↓dCont, ↓dDrop, ↓dRet, ↓dRetN, ↓dIfS, ↓hName, ↓hNil, ↓hCons, ↓hTup, ↓dAsg, ↓dPar, ↓dTest, ↓dAnd, ↓dOr, ↓dNot, ↓dAndV, ↓dOrV, ↓dNotV, ↓dIf, ↓dVar, ↓dC, ↓dOp, ↓dUn, ↓dNil, ↓dCons, ↓dTup, ↓dLst, ↓dLstM, ↓dCall, ↓dCallK, ↓pick, ↓dCB, ↓dSeqI, ↓dFor, ↓dRange1, ↓dRange2, ↓dRaise, ↓dRaise0, ↓dIsi, ↓dIsi2, ↓oAdd, ↓oSubI, ↓oMulI, ↓oDivI, ↓oModI, ↓oPowI, ↓oSubB, ↓oCmpI, ↓oNeg, ↓oEq, ↓oNe, ↓oIsN, ↓oNotN, ↓oIsB, ↓oIx, ↓cLen, ↓lenQ, ↓D.len?, ↓cAbs, ↓cInt, ↓cMax2, ↓cMin2, ↓cGcd, ↓cSum, ↓cStr, ↓okEq_int, ↓okEq_bl, ↓okEq_non, ↓eqD_int, ↓eqD_bl, ↓eqD_intTup, ↓atI0, ↓atI1, ↓atI2, ↓atI3, ↓ty_int, ↓ty_bl, ↓ty_non, ↓ty_str, ↓ty_tup, ↓ty_lst, ↓endsOf, List.length_cons, List.length_nil, List.map_cons, List.map_nil, Bool.not_true, Bool.not_false, Bool.true_and, Bool.and_true, Bool.false_and, Bool.or_true, Bool.true_or, Bool.false_or, Bool.or_false, ite_true, ite_false, if_true, if_false, Bool.false_eq_true, reduceCtorEq, decide_true, decide_false, true_and, and_true, Bool.not_not, Option.isSome_some, if_false_left, decide_eq_true_eq, Bool.decide_eq_true, ↓isT_non_non, ↓isT_non_bool, ↓isT_non_int, ↓isT_non_str, ↓isT_non_tuple, ↓isT_non_list, ↓isT_non_dict, ↓isT_bool_non, ↓isT_bool_bool, ↓isT_bool_int, ↓isT_bool_str, ↓isT_bool_tuple, ↓isT_bool_list, ↓isT_bool_dict, ↓isT_int_non, ↓isT_int_bool, ↓isT_int_int, ↓isT_int_str, ↓isT_int_tuple, ↓isT_int_list, ↓isT_int_dict, ↓isT_str_non, ↓isT_str_bool, ↓isT_str_int, ↓isT_str_str, ↓isT_str_tuple, ↓isT_str_list, ↓isT_str_dict, ↓isT_tuple_non, ↓isT_tuple_bool, ↓isT_tuple_int, ↓isT_tuple_str, ↓isT_tuple_tuple, ↓isT_tuple_list, ↓isT_tuple_dict, ↓isT_list_non, ↓isT_list_bool, ↓isT_list_int, ↓isT_list_str, ↓isT_list_tuple, ↓isT_list_list, ↓isT_list_dict, ↓isT_dict_non, ↓isT_dict_bool, ↓isT_dict_int, ↓isT_dict_str, ↓isT_dict_tuple, ↓isT_dict_list, ↓isT_dict_dict, ↓slot_0, ↓slot_1, ↓slot_2, ↓slot_3, ↓slot_4, ↓slot_5, ↓slot_6, ↓slot_7, ↓slot_8, ↓slot_9, ↓slot_10, ↓slot_11, ↓slot_12, ↓slot_13, ↓slot_14, ↓slot_15, ↓slot_16, ↓slot_17, ↓set_0, ↓set_1, ↓set_2, ↓set_3, ↓set_4, ↓set_5, ↓set_6, ↓set_7, ↓set_8, ↓set_9, ↓set_10, ↓set_11, ↓set_12, ↓set_13, ↓set_14, ↓set_15, ↓set_16, ↓set_17, ↓ty_lc hm']; exact hR
    · rcases List.mem_append.mp hx with hx | hx
      · exact hw x hx _
      · rcases List.mem_cons.mp hx with e | hx
        · subst e; exact good_more
        · cases hx
  · have hput := put_new (l := l) (k := .inr ("more" : Str)) (d := .int 1) hmo
    have hm' : updM M p (.dct (l ++ [(.inr "more", .int 1)])) p = some (.dct (l ++ [(.inr "more", .int 1)])) := updM_same
    have hM : NDM (updM M p (.dct (l ++ [(.inr "more", .int 1)]))) := hn.upd (ndK_more hk)
    refine skip_if (fun R E hR => ?_) (seq_to (S' := ⟨[some (.ref p), some (.ref p)], updM M p (.dct (l ++ [(.inr "more", .int 1)]))⟩) (fun R hR => if_t (S' := ⟨[some (.ref p), some (.ref p)], M⟩) (fun R hR => ?_) ?_) (fin _ hM (.inr ⟨_, hm', by rw [List.length_append]; show l.length + 1 ≤ 1000; omega, ndK_more hk, ?_, fun kv hx M' => ?_⟩) (boxes_upd hm (by intro b z; cases z))))
    · simp only [↓dSeq_eq, ↓wnx_nx, ↓wnx_rt, ↓wnx_bk, ↓wnx_ct, ↓wnx_ex, ↓wlp_nx, ↓wlp_rt, ↓wlp_bk, ↓wlp_ct, ↓wlp_ex, ↓wex_nx, ↓wex_rt, ↓wex_bk, ↓wex_ct, ↓wex_ex, ↓en_nx, ↓en_rt, ↓en_ex, ↓forGo_nil, ↓forGo_cons, ↓dNext, ↓dBreak, ↓dCont, ↓dDrop, ↓dRet, ↓dRetN, ↓dIfS, ↓hName, ↓hNil, ↓hCons, ↓hTup, ↓dAsg, ↓dPar, ↓dTest, ↓dAnd, ↓dOr, ↓dNot, ↓dAndV, ↓dOrV, ↓dNotV, ↓dIf, ↓dVar, ↓dC, ↓dOp, ↓dUn, ↓dNil, ↓dCons, ↓dTup, ↓dLst, ↓dLstM, ↓dCall, ↓dCallK, ↓pick, ↓dCB, ↓dSeqI, ↓dFor, ↓dRange1, ↓dRange2, ↓dRaise, ↓dRaise0, ↓dIsi, ↓dIsi2, ↓oAdd, ↓oSubI, ↓oMulI, ↓oDivI, ↓oModI, ↓oPowI, ↓oSubB, ↓oCmpI, ↓oNeg, ↓oEq, ↓oNe, ↓oIsN, ↓oNotN, ↓oIsB, ↓oIx, ↓cLen, ↓lenQ, ↓D.len?, ↓cAbs, ↓cInt, ↓cMax2, ↓cMin2, ↓cGcd, ↓cSum, ↓cStr, ↓okEq_int, ↓okEq_bl, ↓okEq_non, ↓eqD_int, ↓eqD_bl, ↓eqD_intTup, ↓atI0, ↓atI1, ↓atI2, ↓atI3, ↓ty_int, ↓ty_bl, ↓ty_non, ↓ty_str, ↓ty_tup, ↓ty_lst, ↓endsOf, List.length_cons, List.length_nil, List.map_cons, List.map_nil, Bool.not_true, Bool.not_false, Bool.true_and, Bool.and_true, Bool.false_and, Bool.or_true, Bool.true_or, Bool.false_or, Bool.or_false, ite_true, ite_false, if_true, if_false, Bool.false_eq_true, reduceCtorEq, decide_true, decide_false, true_and, and_true, Bool.not_not, Option.isSome_some, if_false_left, decide_eq_true_eq, Bool.decide_eq_true, ↓isT_non_non, ↓isT_non_bool, ↓isT_non_int, ↓isT_non_str, ↓isT_non_tuple, ↓isT_non_list, ↓isT_non_dict, ↓isT_bool_non, ↓isT_bool_bool, ↓isT_bool_int, ↓isT_bool_str, ↓isT_bool_tuple, ↓isT_bool_list, ↓isT_bool_dict, ↓isT_int_non, ↓isT_int_bool, ↓isT_int_int, ↓isT_int_str, ↓isT_int_tuple, ↓isT_int_list, ↓isT_int_dict, ↓isT_str_non, ↓isT_str_bool, ↓isT_str_int, ↓isT_str_str, ↓isT_str_tuple, ↓isT_str_list, ↓isT_str_dict, ↓isT_tuple_non, ↓isT_tuple_bool, ↓isT_tuple_int, ↓isT_tuple_str, ↓isT_tuple_tuple, ↓isT_tuple_list, ↓isT_tuple_dict, ↓isT_list_non, ↓isT_list_bool, ↓isT_list_int, ↓isT_list_str, ↓isT_list_tuple, ↓isT_list_list, ↓isT_list_dict, ↓isT_dict_non, ↓isT_dict_bool, ↓isT_dict_int, ↓isT_dict_str, ↓isT_dict_tuple, ↓isT_dict_list, ↓isT_dict_dict, ↓slot_0, ↓slot_1, ↓slot_2, ↓slot_3, ↓slot_4, ↓slot_5, ↓slot_6, ↓slot_7, ↓slot_8, ↓slot_9, ↓slot_10, ↓slot_11, ↓slot_12, ↓slot_13, ↓slot_14, ↓slot_15, ↓slot_16, ↓slot_17, ↓set_0, ↓set_1, ↓set_2, ↓set_3, ↓set_4, ↓set_5, ↓set_6, ↓set_7, ↓set_8, ↓set_9, ↓set_10, ↓set_11, ↓set_12, ↓set_13, ↓set_14, ↓set_15, ↓set_16, ↓set_17, ↓ty_dc hm]; exact hR
    · simp only [↓dSeq_eq, ↓wnx_nx, ↓wnx_rt, ↓wnx_bk, ↓wnx_ct, ↓wnx_ex, ↓wlp_nx, ↓wlp_rt, ↓wlp_bk, ↓wlp_ct, ↓wlp_ex, ↓wex_nx, ↓wex_rt, ↓wex_bk, ↓wex_ct, ↓wex_ex, ↓en_nx, ↓en_rt, ↓en_ex, ↓forGo_nil, ↓forGo_cons, ↓dNext, ↓dBreak, ↓dCont, ↓dDrop, ↓dRet, ↓dRetN, ↓dIfS, ↓hName, ↓hNil, ↓hCons, ↓hTup, ↓dAsg, ↓dPar, ↓dTest, ↓dAnd, ↓dOr, ↓dNot, ↓dAndV, ↓dOrV, ↓dNotV, ↓dIf, ↓dVar, ↓dC, ↓dOp, ↓dUn, ↓dNil, ↓dCons, ↓dTup, ↓dLst, ↓dLstM, ↓dCall, ↓dCallK, ↓pick, ↓dCB, ↓dSeqI, ↓dFor, ↓dRange1, ↓dRange2, ↓dRaise, ↓dRaise0, ↓dIsi, ↓dIsi2, ↓oAdd, ↓oSubI, ↓oMulI, ↓oDivI, ↓oModI, ↓oPowI, ↓oSubB, ↓oCmpI, ↓oNeg, ↓oEq, ↓oNe, ↓oIsN, ↓oNotN, ↓oIsB, ↓oIx, ↓cLen, ↓lenQ, ↓D.len?, ↓cAbs, ↓cInt, ↓cMax2, ↓cMin2, ↓cGcd, ↓cSum, ↓cStr, ↓okEq_int, ↓okEq_bl, ↓okEq_non, ↓eqD_int, ↓eqD_bl, ↓eqD_intTup, ↓atI0, ↓atI1, ↓atI2, ↓atI3, ↓ty_int, ↓ty_bl, ↓ty_non, ↓ty_str, ↓ty_tup, ↓ty_lst, ↓endsOf, List.length_cons, List.length_nil, List.map_cons, List.map_nil, Bool.not_true, Bool.not_false, Bool.true_and, Bool.and_true, Bool.false_and, Bool.or_true, Bool.true_or, Bool.false_or, Bool.or_false, ite_true, ite_false, if_true, if_false, Bool.false_eq_true, reduceCtorEq, decide_true, decide_false, true_and, and_true, Bool.not_not, Option.isSome_some, if_false_left, decide_eq_true_eq, Bool.decide_eq_true, ↓isT_non_non, ↓isT_non_bool, ↓isT_non_int, ↓isT_non_str, ↓isT_non_tuple, ↓isT_non_list, ↓isT_non_dict, ↓isT_bool_non, ↓isT_bool_bool, ↓isT_bool_int, ↓isT_bool_str, ↓isT_bool_tuple, ↓isT_bool_list, ↓isT_bool_dict, ↓isT_int_non, ↓isT_int_bool, ↓isT_int_int, ↓isT_int_str, ↓isT_int_tuple, ↓isT_int_list, ↓isT_int_dict, ↓isT_str_non, ↓isT_str_bool, ↓isT_str_int, ↓isT_str_str, ↓isT_str_tuple, ↓isT_str_list, ↓isT_str_dict, ↓isT_tuple_non, ↓isT_tuple_bool, ↓isT_tuple_int, ↓isT_tuple_str, ↓isT_tuple_tuple, ↓isT_tuple_list, ↓isT_tuple_dict, ↓isT_list_non, ↓isT_list_bool, ↓isT_list_int, ↓isT_list_str, ↓isT_list_tuple, ↓isT_list_list, ↓isT_list_dict, ↓isT_dict_non, ↓isT_dict_bool, ↓isT_dict_int, ↓isT_dict_str, ↓isT_dict_tuple, ↓isT_dict_list, ↓isT_dict_dict, ↓slot_0, ↓slot_1, ↓slot_2, ↓slot_3, ↓slot_4, ↓slot_5, ↓slot_6, ↓slot_7, ↓slot_8, ↓slot_9, ↓slot_10, ↓slot_11, ↓slot_12, ↓slot_13, ↓slot_14, ↓slot_15, ↓slot_16, ↓slot_17, ↓set_0, ↓set_1, ↓set_2, ↓set_3, ↓set_4, ↓set_5, ↓set_6, ↓set_7, ↓set_8, ↓set_9, ↓set_10, ↓set_11, ↓set_12, ↓set_13, ↓set_14, ↓set_15, ↓set_16, ↓set_17, ↓ty_dc hm]; exact hR
    · simp only [↓dSeq_eq, ↓wnx_nx, ↓wnx_rt, ↓wnx_bk, ↓wnx_ct, ↓wnx_ex, ↓wlp_nx, ↓wlp_rt, ↓wlp_bk, ↓wlp_ct, ↓wlp_ex, ↓wex_nx, ↓wex_rt, ↓wex_bk, ↓wex_ct, ↓wex_ex, ↓en_nx, ↓en_rt, ↓en_ex, ↓forGo_nil, ↓forGo_cons, ↓dNext, ↓dBreak, ↓dCont, ↓dDrop, ↓dRet, ↓dRetN, ↓dIfS, ↓hName, ↓hNil, ↓hCons, ↓hTup, ↓dAsg, ↓dPar, ↓dTest, ↓dAnd, ↓dOr, ↓dNot, ↓dAndV, ↓dOrV, ↓dNotV, ↓dIf, ↓dVar, ↓dC, ↓dOp, ↓dUn, ↓dNil, ↓dCons, ↓dTup, ↓dLst, ↓dLstM, ↓dCall, ↓dCallK, ↓pick, ↓dCB, ↓dSeqI, ↓dFor, ↓dRange1, ↓dRange2, ↓dRaise, ↓dRaise0, ↓dIsi, ↓dIsi2, ↓oAdd, ↓oSubI, ↓oMulI, ↓oDivI, ↓oModI, ↓oPowI, ↓oSubB, ↓oCmpI, ↓oNeg, ↓oEq, ↓oNe, ↓oIsN, ↓oNotN, ↓oIsB, ↓oIx, ↓cLen, ↓lenQ, ↓D.len?, ↓cAbs, ↓cInt, ↓cMax2, ↓cMin2, ↓cGcd, ↓cSum, ↓cStr, ↓okEq_int, ↓okEq_bl, ↓okEq_non, ↓eqD_int, ↓eqD_bl, ↓eqD_intTup, ↓atI0, ↓atI1, ↓atI2, ↓atI3, ↓ty_int, ↓ty_bl, ↓ty_non, ↓ty_str, ↓ty_tup, ↓ty_lst, ↓endsOf, List.length_cons, List.length_nil, List.map_cons, List.map_nil, Bool.not_true, Bool.not_false, Bool.true_and, Bool.and_true, Bool.false_and, Bool.or_true, Bool.true_or, Bool.false_or, Bool.or_false, ite_true, ite_false, if_true, if_false, Bool.false_eq_true, reduceCtorEq, decide_true, decide_false, true_and, and_true, Bool.not_not, Option.isSome_some, if_false_left, decide_eq_true_eq, Bool.decide_eq_true, ↓isT_non_non, ↓isT_non_bool, ↓isT_non_int, ↓isT_non_str, ↓isT_non_tuple, ↓isT_non_list, ↓isT_non_dict, ↓isT_bool_non, ↓isT_bool_bool, ↓isT_bool_int, ↓isT_bool_str, ↓isT_bool_tuple, ↓isT_bool_list, ↓isT_bool_dict, ↓isT_int_non, ↓isT_int_bool, ↓isT_int_int, ↓isT_int_str, ↓isT_int_tuple, ↓isT_int_list, ↓isT_int_dict, ↓isT_str_non, ↓isT_str_bool, ↓isT_str_int, ↓isT_str_str, ↓isT_str_tuple, ↓isT_str_list, ↓isT_str_dict, ↓isT_tuple_non, ↓isT_tuple_bool, ↓isT_tuple_int, ↓isT_tuple_str, ↓isT_tuple_tuple, ↓isT_tuple_list, ↓isT_tuple_dict, ↓isT_list_non, ↓isT_list_bool, ↓isT_list_int, ↓isT_list_str, ↓isT_list_tuple, ↓isT_list_list, ↓isT_list_dict, ↓isT_dict_non, ↓isT_dict_bool, ↓isT_dict_int, ↓isT_dict_str, ↓isT_dict_tuple, ↓isT_dict_list, ↓isT_dict_dict, ↓slot_0, ↓slot_1, ↓slot_2, ↓slot_3, ↓slot_4, ↓slot_5, ↓slot_6, ↓slot_7, ↓slot_8, ↓slot_9, ↓slot_10, ↓slot_11, ↓slot_12, ↓slot_13, ↓slot_14, ↓slot_15, ↓slot_16, ↓slot_17, ↓set_0, ↓set_1, ↓set_2, ↓set_3, ↓set_4, ↓set_5, ↓set_6, ↓set_7, ↓set_8, ↓set_9, ↓set_10, ↓set_11, ↓set_12, ↓set_13, ↓set_14, ↓set_15, ↓set_16, ↓set_17, dPutK, D.key, hm, hput]
      exact ⟨by omega, hR⟩
    · rw [List.map_append]
      exact List.nodup_append.mpr ⟨hnd, List.nodup_cons.mpr ⟨by simp, List.nodup_nil⟩, fun a ha b hb => by
        have e : b = (.inr ("more" : Str)) := by simpa using hb
        subst e
        intro z
        subst z
        exact hmo ha⟩
    · rcases List.mem_append.mp hx with hx | hx
      · exact hw kv hx _
      · rcases List.mem_cons.mp hx with e | hx
        · subst e; exact trivial
        · cases hx
end K01
end
section
set_option maxRecDepth 100000
set_option maxHeartbeats 2000000
set_option exponentiation.threshold 100
namespace K01
open PySem PySem.Spec L2 DL
variable {K : PySem.W.Frag}
/-! ### the law's own judging of a fraction -/
theorem own_eq {i j : Int} (h : 0 < j) : (decide (i = (low i j).1) && decide (j = (low i j).2)) = isFr (.tup [.int i, .int j]) := by
  have e9 : isFr (.tup [.int i, .int j]) = (decide (1 ≤ j) && decide ((Nat.gcd i.natAbs j.natAbs : Int) = 1)) := rfl
  have eg : ((Nat.gcd i.natAbs j.natAbs : Nat) : Int) = gI i j := rfl
  rw [e9, decide_eq_true (show (1 : Int) ≤ j by omega), Bool.true_and, eg]
  have hg := gI_pos (a := i) (show j ≠ 0 by omega)
  unfold low
  rw [if_pos h]
  by_cases e : gI i j = 1
  · rw [e, Int.ediv_one, Int.ediv_one]
    simp
  · rw [decide_eq_false e]
    have hne : j ≠ j / gI i j := by
      obtain ⟨y, hy⟩ := gI_dr i j
      intro z
      have e2 : j / gI i j = y := ediv_of (by omega) hy
      rw [e2] at z
      have hy0 : 0 < y := by omega
      have h3 : gI i j * y = 1 * y := by rw [← hy, Int.one_mul]; exact z
      exact e (Int.eq_of_mul_eq_mul_right (by omega) h3)
    show (decide (i = i / gI i j) && decide (j = j / gI i j)) = false
    rw [decide_eq_false hne, Bool.and_false]
def sp_law_is_own : SpD := fun ds M Q _ => ∃ d, ds = [d] ∧ NDM M ∧ known M d ∧ (∀ a b, d = .tup [.int a, .int b] → szI 9000 b) ∧ Q (.bl (isFr d)) M
theorem neg_int {t : Ty} : (if isT t .int = true then (if isT t .bool = true then true else false) else true) = !(isT t .int && !isT t .bool) := by cases t <;> rfl
theorem part_test {M : Mst} {d x : D} {t : Ty} (ht : d.ty M = some t) {R : Bool → DS → Prop} {E} (h : R (!isInt d) ⟨[some x, some d], M⟩) : (dOr (dNot (dTest (dIsi .int (dVar 1)))) (dTest (dIsi .bool (dVar 1)))) ⟨[some x, some d], M⟩ R E := by
  rw [isInt_of ht] at h
  simp only [↓dSeq_eq, ↓wnx_nx, ↓wnx_rt, ↓wnx_bk, ↓wnx_ct, ↓wnx_ex, ↓wlp_nx, ↓wlp_rt, ↓wlp_bk, ↓wlp_ct, ↓wlp_ex, ↓wex_nx, ↓wex_rt, ↓wex_bk, ↓wex_ct, ↓wex_ex, ↓en_nx, ↓en_rt, ↓en_ex, ↓forGo_nil, ↓forGo_cons, ↓dNext, ↓dBreak, ↓dCont, ↓dDrop, ↓dRet, ↓dRetN, ↓dIfS, ↓hName, ↓hNil, ↓hCons, ↓hTup, ↓dAsg, ↓dPar, ↓dTest, ↓dAnd, ↓dOr, ↓dNot, ↓dAndV, ↓dOrV, ↓dNotV, ↓dIf, ↓dVar, ↓dC, ↓dOp, ↓dUn, ↓dNil, ↓dCons, ↓dTup, ↓dLst, ↓dLstM, ↓dCall, ↓dCallK, ↓pick, ↓dCB, ↓dSeqI, ↓dFor, ↓dRange1, ↓dRange2, ↓dRaise, ↓dRaise0, ↓dIsi, ↓dIsi2, ↓oAdd, ↓oSubI, ↓oMulI, ↓oDivI, ↓oModI, ↓oPowI, ↓oSubB, ↓oCmpI, ↓oNeg, ↓oEq, ↓oNe, ↓oIsN, ↓oNotN, ↓oIsB, ↓oIx, ↓cLen, ↓lenQ, ↓D.len?, ↓cAbs, ↓cInt, ↓cMax2, ↓cMin2, ↓cGcd, ↓cSum, ↓cStr, ↓okEq_int, ↓okEq_bl, ↓okEq_non, ↓eqD_int, ↓eqD_bl, ↓eqD_intTup, ↓atI0, ↓atI1, ↓atI2, ↓atI3, ↓ty_int, ↓ty_bl, ↓ty_non, ↓ty_str, ↓ty_tup, ↓ty_lst, ↓endsOf, List.length_cons, List.length_nil, List.map_cons, List.map_nil, Bool.not_true, Bool.not_false, Bool.true_and, Bool.and_true, Bool.false_and, Bool.or_true, Bool.true_or, Bool.false_or, Bool.or_false, ite_true, ite_false, if_true, if_false, Bool.false_eq_true, reduceCtorEq, decide_true, decide_false, true_and, and_true, Bool.not_not, Option.isSome_some, if_false_left, decide_eq_true_eq, Bool.decide_eq_true, ↓isT_non_non, ↓isT_non_bool, ↓isT_non_int, ↓isT_non_str, ↓isT_non_tuple, ↓isT_non_list, ↓isT_non_dict, ↓isT_bool_non, ↓isT_bool_bool, ↓isT_bool_int, ↓isT_bool_str, ↓isT_bool_tuple, ↓isT_bool_list, ↓isT_bool_dict, ↓isT_int_non, ↓isT_int_bool, ↓isT_int_int, ↓isT_int_str, ↓isT_int_tuple, ↓isT_int_list, ↓isT_int_dict, ↓isT_str_non, ↓isT_str_bool, ↓isT_str_int, ↓isT_str_str, ↓isT_str_tuple, ↓isT_str_list, ↓isT_str_dict, ↓isT_tuple_non, ↓isT_tuple_bool, ↓isT_tuple_int, ↓isT_tuple_str, ↓isT_tuple_tuple, ↓isT_tuple_list, ↓isT_tuple_dict, ↓isT_list_non, ↓isT_list_bool, ↓isT_list_int, ↓isT_list_str, ↓isT_list_tuple, ↓isT_list_list, ↓isT_list_dict, ↓isT_dict_non, ↓isT_dict_bool, ↓isT_dict_int, ↓isT_dict_str, ↓isT_dict_tuple, ↓isT_dict_list, ↓isT_dict_dict, ↓slot_0, ↓slot_1, ↓slot_2, ↓slot_3, ↓slot_4, ↓slot_5, ↓slot_6, ↓slot_7, ↓slot_8, ↓slot_9, ↓slot_10, ↓slot_11, ↓slot_12, ↓slot_13, ↓slot_14, ↓slot_15, ↓slot_16, ↓slot_17, ↓set_0, ↓set_1, ↓set_2, ↓set_3, ↓set_4, ↓set_5, ↓set_6, ↓set_7, ↓set_8, ↓set_9, ↓set_10, ↓set_11, ↓set_12, ↓set_13, ↓set_14, ↓set_15, ↓set_16, ↓set_17, ht]
  cases t <;> (simp only [isT_non_int, isT_non_bool, isT_bool_int, isT_bool_bool, isT_int_int, isT_int_bool, isT_str_int, isT_str_bool, isT_tuple_int, isT_tuple_bool, isT_list_int, isT_list_bool, isT_dict_int, isT_dict_bool, Bool.not_false, Bool.not_true, Bool.and_true, Bool.and_false, Bool.true_and, Bool.false_and, if_true, if_false, Bool.false_eq_true] at h ⊢; exact h)
theorem test_op {od : O2} {ta tb : TEd} {S : DS} {R : Bool → DS → Prop} {E : Er → DS → Prop} (h : ta S (fun x S1 => tb S1 (fun y S2 => od x y S2.M fun d M' => (match d with | .bl b => R b ⟨S2.τ, M'⟩ | _ => False)) E) E) : dTest (dOp od ta tb) S R E := h
def oneIf (a : D) : List D := if isInt a = true then [] else [.int 1]
theorem comp2 {M : Mst} {a b : D} {ta tb : Ty} (hta : a.ty M = some ta) (htb : b.ty M = some tb) {Q : D → DS → Prop} {E} (h : Q (.lst (oneIf a ++ oneIf b)) ⟨[some (.tup [a, b]), none], M⟩) :
    dLc (dSeqI (dVar 0)) (.one 1) (dOr (dNot (dTest (dIsi .int (dVar 1)))) (dTest (dIsi .bool (dVar 1)))) (dC (.int 1)) [1] ⟨[some (.tup [a, b]), none], M⟩ Q E := by
  unfold oneIf at h
  show lcGo (.one 1) (dOr (dNot (dTest (dIsi .int (dVar 1)))) (dTest (dIsi .bool (dVar 1)))) (dC (.int 1)) [some (.tup [a, b]), none] [1] [a, b] M [] _
  unfold lcGo
  show (dOr (dNot (dTest (dIsi .int (dVar 1)))) (dTest (dIsi .bool (dVar 1)))) ⟨[some (.tup [a, b]), some a], M⟩ _ _
  refine part_test hta ?_
  cases ia : isInt a with
  | true =>
    rw [ia, if_pos rfl] at h
    show lcGo _ _ _ _ _ [b] M [] _
    unfold lcGo
    show (dOr (dNot (dTest (dIsi .int (dVar 1)))) (dTest (dIsi .bool (dVar 1)))) ⟨[some (.tup [a, b]), some b], M⟩ _ _
    refine part_test htb ?_
    cases ib : isInt b with
    | true => rw [ib, if_pos rfl] at h; exact h
    | false => rw [ib, if_neg (by decide)] at h; exact ⟨by decide, h⟩
  | false =>
    rw [ia, if_neg (by decide)] at h
    refine ⟨by decide, ?_⟩
    show lcGo _ _ _ _ _ [b] M [.int 1] _
    unfold lcGo
    show (dOr (dNot (dTest (dIsi .int (dVar 1)))) (dTest (dIsi .bool (dVar 1)))) ⟨[some (.tup [a, b]), some b], M⟩ _ _
    refine part_test htb ?_
    cases ib : isInt b with
    | true => rw [ib, if_pos rfl] at h; exact h
    | false => rw [ib, if_neg (by decide)] at h; exact ⟨by show 1 < 100000; decide, h⟩
theorem ok_one {a b : D} : okEq (.lst (oneIf a ++ oneIf b)) = true ∧ eqD (.lst (oneIf a ++ oneIf b)) (.lst []) = (isInt a && isInt b) := by
  unfold oneIf
  cases isInt a <;> cases isInt b <;> exact ⟨rfl, rfl⟩
theorem p_law_is_own (ds M Q E) (h : sp_law_is_own ds M Q E) : t_law_is_own K (sp_same 12) sp_law_low (endsOf Q E) ⟨startD N_law_is_own.length ds, M⟩ := by
  obtain ⟨d, rfl, hn, ⟨hd, hk⟩, hz, q⟩ := h
  show t_law_is_own K (sp_same 12) sp_law_low (endsOf Q E) ⟨[some d, none], M⟩
  obtain ⟨t, ht⟩ := Option.isSome_iff_exists.mp hd
  unfold t_law_is_own
  have stop : isFr d = false → ∀ R : DS → Prop, (dRet (dC (.bl false))) ((endsOf Q E).wnx R) ⟨[some d, none], M⟩ := fun e R => by
    rw [e] at q
    simp only [↓dSeq_eq, ↓wnx_nx, ↓wnx_rt, ↓wnx_bk, ↓wnx_ct, ↓wnx_ex, ↓wlp_nx, ↓wlp_rt, ↓wlp_bk, ↓wlp_ct, ↓wlp_ex, ↓wex_nx, ↓wex_rt, ↓wex_bk, ↓wex_ct, ↓wex_ex, ↓en_nx, ↓en_rt, ↓en_ex, ↓forGo_nil, ↓forGo_cons, ↓dNext, ↓dBreak, ↓dCont, ↓dDrop, ↓dRet, ↓dRetN, ↓dIfS, ↓hName, ↓hNil, ↓hCons, ↓hTup, ↓dAsg, ↓dPar, ↓dTest, ↓dAnd, ↓dOr, ↓dNot, ↓dAndV, ↓dOrV, ↓dNotV, ↓dIf, ↓dVar, ↓dC, ↓dOp, ↓dUn, ↓dNil, ↓dCons, ↓dTup, ↓dLst, ↓dLstM, ↓dCall, ↓dCallK, ↓pick, ↓dCB, ↓dSeqI, ↓dFor, ↓dRange1, ↓dRange2, ↓dRaise, ↓dRaise0, ↓dIsi, ↓dIsi2, ↓oAdd, ↓oSubI, ↓oMulI, ↓oDivI, ↓oModI, ↓oPowI, ↓oSubB, ↓oCmpI, ↓oNeg, ↓oEq, ↓oNe, ↓oIsN, ↓oNotN, ↓oIsB, ↓oIx, ↓cLen, ↓lenQ, ↓D.len?, ↓cAbs, ↓cInt, ↓cMax2, ↓cMin2, ↓cGcd, ↓cSum, ↓cStr, ↓okEq_int, ↓okEq_bl, ↓okEq_non, ↓eqD_int, ↓eqD_bl, ↓eqD_intTup, ↓atI0, ↓atI1, ↓atI2, ↓atI3, ↓ty_int, ↓ty_bl, ↓ty_non, ↓ty_str, ↓ty_tup, ↓ty_lst, ↓endsOf, List.length_cons, List.length_nil, List.map_cons, List.map_nil, Bool.not_true, Bool.not_false, Bool.true_and, Bool.and_true, Bool.false_and, Bool.or_true, Bool.true_or, Bool.false_or, Bool.or_false, ite_true, ite_false, if_true, if_false, Bool.false_eq_true, reduceCtorEq, decide_true, decide_false, true_and, and_true, Bool.not_not, Option.isSome_some, if_false_left, decide_eq_true_eq, Bool.decide_eq_true, ↓isT_non_non, ↓isT_non_bool, ↓isT_non_int, ↓isT_non_str, ↓isT_non_tuple, ↓isT_non_list, ↓isT_non_dict, ↓isT_bool_non, ↓isT_bool_bool, ↓isT_bool_int, ↓isT_bool_str, ↓isT_bool_tuple, ↓isT_bool_list, ↓isT_bool_dict, ↓isT_int_non, ↓isT_int_bool, ↓isT_int_int, ↓isT_int_str, ↓isT_int_tuple, ↓isT_int_list, ↓isT_int_dict, ↓isT_str_non, ↓isT_str_bool, ↓isT_str_int, ↓isT_str_str, ↓isT_str_tuple, ↓isT_str_list, ↓isT_str_dict, ↓isT_tuple_non, ↓isT_tuple_bool, ↓isT_tuple_int, ↓isT_tuple_str, ↓isT_tuple_tuple, ↓isT_tuple_list, ↓isT_tuple_dict, ↓isT_list_non, ↓isT_list_bool, ↓isT_list_int, ↓isT_list_str, ↓isT_list_tuple, ↓isT_list_list, ↓isT_list_dict, ↓isT_dict_non, ↓isT_dict_bool, ↓isT_dict_int, ↓isT_dict_str, ↓isT_dict_tuple, ↓isT_dict_list, ↓isT_dict_dict, ↓slot_0, ↓slot_1, ↓slot_2, ↓slot_3, ↓slot_4, ↓slot_5, ↓slot_6, ↓slot_7, ↓slot_8, ↓slot_9, ↓slot_10, ↓slot_11, ↓slot_12, ↓slot_13, ↓slot_14, ↓slot_15, ↓slot_16, ↓slot_17, ↓set_0, ↓set_1, ↓set_2, ↓set_3, ↓set_4, ↓set_5, ↓set_6, ↓set_7, ↓set_8, ↓set_9, ↓set_10, ↓set_11, ↓set_12, ↓set_13, ↓set_14, ↓set_15, ↓set_16, ↓set_17]
    exact ⟨_, .refl _, q⟩
  by_cases e : t = .tuple
  · subst e
    obtain ⟨l, rfl⟩ := ty_tuple ht
    by_cases e2 : (l.length : Int) = 2
    · have e3 : l.length = 2 := by omega
      match l, e3 with
      | [a, b], _ =>
        obtain ⟨ha, hb⟩ := hk a b rfl
        obtain ⟨ta, hta⟩ := Option.isSome_iff_exists.mp ha
        obtain ⟨tb, htb⟩ := Option.isSome_iff_exists.mp hb
        have tst : ∀ (R : Bool → DS → Prop) (E' : Er → DS → Prop), R (!(isInt a && isInt b)) ⟨[some (.tup [a, b]), none], M⟩ → (dOr (dNot (dTest (dIsi .tuple (dVar 0)))) (dOr (dTest (dOp oNe (dCB cLen (dCons (dVar 0) dNil)) (dC (.int 2)))) (dTest (dOp oNe (dLc (dSeqI (dVar 0)) (.one 1) (dOr (dNot (dTest (dIsi .int (dVar 1)))) (dTest (dIsi .bool (dVar 1)))) (dC (.int 1)) [1]) (dLst dNil))))) ⟨[some (.tup [a, b]), none], M⟩ R E' := fun R E' hR => by
          refine or_f (S' := ⟨[some (.tup [a, b]), none], M⟩) (fun R hR => ?_) (or_f (S' := ⟨[some (.tup [a, b]), none], M⟩) (fun R hR => ?_) ?_)
          · simp only [↓dSeq_eq, ↓wnx_nx, ↓wnx_rt, ↓wnx_bk, ↓wnx_ct, ↓wnx_ex, ↓wlp_nx, ↓wlp_rt, ↓wlp_bk, ↓wlp_ct, ↓wlp_ex, ↓wex_nx, ↓wex_rt, ↓wex_bk, ↓wex_ct, ↓wex_ex, ↓en_nx, ↓en_rt, ↓en_ex, ↓forGo_nil, ↓forGo_cons, ↓dNext, ↓dBreak, ↓dCont, ↓dDrop, ↓dRet, ↓dRetN, ↓dIfS, ↓hName, ↓hNil, ↓hCons, ↓hTup, ↓dAsg, ↓dPar, ↓dTest, ↓dAnd, ↓dOr, ↓dNot, ↓dAndV, ↓dOrV, ↓dNotV, ↓dIf, ↓dVar, ↓dC, ↓dOp, ↓dUn, ↓dNil, ↓dCons, ↓dTup, ↓dLst, ↓dLstM, ↓dCall, ↓dCallK, ↓pick, ↓dCB, ↓dSeqI, ↓dFor, ↓dRange1, ↓dRange2, ↓dRaise, ↓dRaise0, ↓dIsi, ↓dIsi2, ↓oAdd, ↓oSubI, ↓oMulI, ↓oDivI, ↓oModI, ↓oPowI, ↓oSubB, ↓oCmpI, ↓oNeg, ↓oEq, ↓oNe, ↓oIsN, ↓oNotN, ↓oIsB, ↓oIx, ↓cLen, ↓lenQ, ↓D.len?, ↓cAbs, ↓cInt, ↓cMax2, ↓cMin2, ↓cGcd, ↓cSum, ↓cStr, ↓okEq_int, ↓okEq_bl, ↓okEq_non, ↓eqD_int, ↓eqD_bl, ↓eqD_intTup, ↓atI0, ↓atI1, ↓atI2, ↓atI3, ↓ty_int, ↓ty_bl, ↓ty_non, ↓ty_str, ↓ty_tup, ↓ty_lst, ↓endsOf, List.length_cons, List.length_nil, List.map_cons, List.map_nil, Bool.not_true, Bool.not_false, Bool.true_and, Bool.and_true, Bool.false_and, Bool.or_true, Bool.true_or, Bool.false_or, Bool.or_false, ite_true, ite_false, if_true, if_false, Bool.false_eq_true, reduceCtorEq, decide_true, decide_false, true_and, and_true, Bool.not_not, Option.isSome_some, if_false_left, decide_eq_true_eq, Bool.decide_eq_true, ↓isT_non_non, ↓isT_non_bool, ↓isT_non_int, ↓isT_non_str, ↓isT_non_tuple, ↓isT_non_list, ↓isT_non_dict, ↓isT_bool_non, ↓isT_bool_bool, ↓isT_bool_int, ↓isT_bool_str, ↓isT_bool_tuple, ↓isT_bool_list, ↓isT_bool_dict, ↓isT_int_non, ↓isT_int_bool, ↓isT_int_int, ↓isT_int_str, ↓isT_int_tuple, ↓isT_int_list, ↓isT_int_dict, ↓isT_str_non, ↓isT_str_bool, ↓isT_str_int, ↓isT_str_str, ↓isT_str_tuple, ↓isT_str_list, ↓isT_str_dict, ↓isT_tuple_non, ↓isT_tuple_bool, ↓isT_tuple_int, ↓isT_tuple_str, ↓isT_tuple_tuple, ↓isT_tuple_list, ↓isT_tuple_dict, ↓isT_list_non, ↓isT_list_bool, ↓isT_list_int, ↓isT_list_str, ↓isT_list_tuple, ↓isT_list_list, ↓isT_list_dict, ↓isT_dict_non, ↓isT_dict_bool, ↓isT_dict_int, ↓isT_dict_str, ↓isT_dict_tuple, ↓isT_dict_list, ↓isT_dict_dict, ↓slot_0, ↓slot_1, ↓slot_2, ↓slot_3, ↓slot_4, ↓slot_5, ↓slot_6, ↓slot_7, ↓slot_8, ↓slot_9, ↓slot_10, ↓slot_11, ↓slot_12, ↓slot_13, ↓slot_14, ↓slot_15, ↓slot_16, ↓slot_17, ↓set_0, ↓set_1, ↓set_2, ↓set_3, ↓set_4, ↓set_5, ↓set_6, ↓set_7, ↓set_8, ↓set_9, ↓set_10, ↓set_11, ↓set_12, ↓set_13, ↓set_14, ↓set_15, ↓set_16, ↓set_17]; exact hR
          · simp only [↓dSeq_eq, ↓wnx_nx, ↓wnx_rt, ↓wnx_bk, ↓wnx_ct, ↓wnx_ex, ↓wlp_nx, ↓wlp_rt, ↓wlp_bk, ↓wlp_ct, ↓wlp_ex, ↓wex_nx, ↓wex_rt, ↓wex_bk, ↓wex_ct, ↓wex_ex, ↓en_nx, ↓en_rt, ↓en_ex, ↓forGo_nil, ↓forGo_cons, ↓dNext, ↓dBreak, ↓dCont, ↓dDrop, ↓dRet, ↓dRetN, ↓dIfS, ↓hName, ↓hNil, ↓hCons, ↓hTup, ↓dAsg, ↓dPar, ↓dTest, ↓dAnd, ↓dOr, ↓dNot, ↓dAndV, ↓dOrV, ↓dNotV, ↓dIf, ↓dVar, ↓dC, ↓dOp, ↓dUn, ↓dNil, ↓dCons, ↓dTup, ↓dLst, ↓dLstM, ↓dCall, ↓dCallK, ↓pick, ↓dCB, ↓dSeqI, ↓dFor, ↓dRange1, ↓dRange2, ↓dRaise, ↓dRaise0, ↓dIsi, ↓dIsi2, ↓oAdd, ↓oSubI, ↓oMulI, ↓oDivI, ↓oModI, ↓oPowI, ↓oSubB, ↓oCmpI, ↓oNeg, ↓oEq, ↓oNe, ↓oIsN, ↓oNotN, ↓oIsB, ↓oIx, ↓cLen, ↓lenQ, ↓D.len?, ↓cAbs, ↓cInt, ↓cMax2, ↓cMin2, ↓cGcd, ↓cSum, ↓cStr, ↓okEq_int, ↓okEq_bl, ↓okEq_non, ↓eqD_int, ↓eqD_bl, ↓eqD_intTup, ↓atI0, ↓atI1, ↓atI2, ↓atI3, ↓ty_int, ↓ty_bl, ↓ty_non, ↓ty_str, ↓ty_tup, ↓ty_lst, ↓endsOf, List.length_cons, List.length_nil, List.map_cons, List.map_nil, Bool.not_true, Bool.not_false, Bool.true_and, Bool.and_true, Bool.false_and, Bool.or_true, Bool.true_or, Bool.false_or, Bool.or_false, ite_true, ite_false, if_true, if_false, Bool.false_eq_true, reduceCtorEq, decide_true, decide_false, true_and, and_true, Bool.not_not, Option.isSome_some, if_false_left, decide_eq_true_eq, Bool.decide_eq_true, ↓isT_non_non, ↓isT_non_bool, ↓isT_non_int, ↓isT_non_str, ↓isT_non_tuple, ↓isT_non_list, ↓isT_non_dict, ↓isT_bool_non, ↓isT_bool_bool, ↓isT_bool_int, ↓isT_bool_str, ↓isT_bool_tuple, ↓isT_bool_list, ↓isT_bool_dict, ↓isT_int_non, ↓isT_int_bool, ↓isT_int_int, ↓isT_int_str, ↓isT_int_tuple, ↓isT_int_list, ↓isT_int_dict, ↓isT_str_non, ↓isT_str_bool, ↓isT_str_int, ↓isT_str_str, ↓isT_str_tuple, ↓isT_str_list, ↓isT_str_dict, ↓isT_tuple_non, ↓isT_tuple_bool, ↓isT_tuple_int, ↓isT_tuple_str, ↓isT_tuple_tuple, ↓isT_tuple_list, ↓isT_tuple_dict, ↓isT_list_non, ↓isT_list_bool, ↓isT_list_int, ↓isT_list_str, ↓isT_list_tuple, ↓isT_list_list, ↓isT_list_dict, ↓isT_dict_non, ↓isT_dict_bool, ↓isT_dict_int, ↓isT_dict_str, ↓isT_dict_tuple, ↓isT_dict_list, ↓isT_dict_dict, ↓slot_0, ↓slot_1, ↓slot_2, ↓slot_3, ↓slot_4, ↓slot_5, ↓slot_6, ↓slot_7, ↓slot_8, ↓slot_9, ↓slot_10, ↓slot_11, ↓slot_12, ↓slot_13, ↓slot_14, ↓slot_15, ↓slot_16, ↓slot_17, ↓set_0, ↓set_1, ↓set_2, ↓set_3, ↓set_4, ↓set_5, ↓set_6, ↓set_7, ↓set_8, ↓set_9, ↓set_10, ↓set_11, ↓set_12, ↓set_13, ↓set_14, ↓set_15, ↓set_16, ↓set_17]; exact hR
          refine test_op (comp2 hta htb ?_)
          show (0 ≤ 100000) ∧ ((okEq _ = true ∧ okEq _ = true) ∧ R _ _)
          rw [ok_one.1, ok_one.2]
          exact ⟨by decide, ⟨rfl, rfl⟩, hR⟩
        cases ia : isInt a with
        | false => exact stop_if (fun R E hR => tst R E (by rw [ia]; exact hR)) (stop (isFr_l ia))
        | true =>
          cases ib : isInt b with
          | false => exact stop_if (fun R E hR => tst R E (by rw [ia, ib]; exact hR)) (stop (isFr_r ib))
          | true =>
            refine skip_if (fun R E hR => tst R E (by rw [ia, ib]; exact hR)) ?_
            obtain ⟨i, rfl⟩ := of_int ia
            obtain ⟨j, rfl⟩ := of_int ib
            simp only [↓dSeq_eq, ↓wnx_nx, ↓wnx_rt, ↓wnx_bk, ↓wnx_ct, ↓wnx_ex, ↓wlp_nx, ↓wlp_rt, ↓wlp_bk, ↓wlp_ct, ↓wlp_ex, ↓wex_nx, ↓wex_rt, ↓wex_bk, ↓wex_ct, ↓wex_ex, ↓en_nx, ↓en_rt, ↓en_ex, ↓forGo_nil, ↓forGo_cons, ↓dNext, ↓dBreak, ↓dCont, ↓dDrop, ↓dRet, ↓dRetN, ↓dIfS, ↓hName, ↓hNil, ↓hCons, ↓hTup, ↓dAsg, ↓dPar, ↓dTest, ↓dAnd, ↓dOr, ↓dNot, ↓dAndV, ↓dOrV, ↓dNotV, ↓dIf, ↓dVar, ↓dC, ↓dOp, ↓dUn, ↓dNil, ↓dCons, ↓dTup, ↓dLst, ↓dLstM, ↓dCall, ↓dCallK, ↓pick, ↓dCB, ↓dSeqI, ↓dFor, ↓dRange1, ↓dRange2, ↓dRaise, ↓dRaise0, ↓dIsi, ↓dIsi2, ↓oAdd, ↓oSubI, ↓oMulI, ↓oDivI, ↓oModI, ↓oPowI, ↓oSubB, ↓oCmpI, ↓oNeg, ↓oEq, ↓oNe, ↓oIsN, ↓oNotN, ↓oIsB, ↓oIx, ↓cLen, ↓lenQ, ↓D.len?, ↓cAbs, ↓cInt, ↓cMax2, ↓cMin2, ↓cGcd, ↓cSum, ↓cStr, ↓okEq_int, ↓okEq_bl, ↓okEq_non, ↓eqD_int, ↓eqD_bl, ↓eqD_intTup, ↓atI0, ↓atI1, ↓atI2, ↓atI3, ↓ty_int, ↓ty_bl, ↓ty_non, ↓ty_str, ↓ty_tup, ↓ty_lst, ↓endsOf, List.length_cons, List.length_nil, List.map_cons, List.map_nil, Bool.not_true, Bool.not_false, Bool.true_and, Bool.and_true, Bool.false_and, Bool.or_true, Bool.true_or, Bool.false_or, Bool.or_false, ite_true, ite_false, if_true, if_false, Bool.false_eq_true, reduceCtorEq, decide_true, decide_false, true_and, and_true, Bool.not_not, Option.isSome_some, if_false_left, decide_eq_true_eq, Bool.decide_eq_true, ↓isT_non_non, ↓isT_non_bool, ↓isT_non_int, ↓isT_non_str, ↓isT_non_tuple, ↓isT_non_list, ↓isT_non_dict, ↓isT_bool_non, ↓isT_bool_bool, ↓isT_bool_int, ↓isT_bool_str, ↓isT_bool_tuple, ↓isT_bool_list, ↓isT_bool_dict, ↓isT_int_non, ↓isT_int_bool, ↓isT_int_int, ↓isT_int_str, ↓isT_int_tuple, ↓isT_int_list, ↓isT_int_dict, ↓isT_str_non, ↓isT_str_bool, ↓isT_str_int, ↓isT_str_str, ↓isT_str_tuple, ↓isT_str_list, ↓isT_str_dict, ↓isT_tuple_non, ↓isT_tuple_bool, ↓isT_tuple_int, ↓isT_tuple_str, ↓isT_tuple_tuple, ↓isT_tuple_list, ↓isT_tuple_dict, ↓isT_list_non, ↓isT_list_bool, ↓isT_list_int, ↓isT_list_str, ↓isT_list_tuple, ↓isT_list_list, ↓isT_list_dict, ↓isT_dict_non, ↓isT_dict_bool, ↓isT_dict_int, ↓isT_dict_str, ↓isT_dict_tuple, ↓isT_dict_list, ↓isT_dict_dict, ↓slot_0, ↓slot_1, ↓slot_2, ↓slot_3, ↓slot_4, ↓slot_5, ↓slot_6, ↓slot_7, ↓slot_8, ↓slot_9, ↓slot_10, ↓slot_11, ↓slot_12, ↓slot_13, ↓slot_14, ↓slot_15, ↓slot_16, ↓slot_17, ↓set_0, ↓set_1, ↓set_2, ↓set_3, ↓set_4, ↓set_5, ↓set_6, ↓set_7, ↓set_8, ↓set_9, ↓set_10, ↓set_11, ↓set_12, ↓set_13, ↓set_14, ↓set_15, ↓set_16, ↓set_17]
            by_cases h1 : 0 < j
            · rw [if_pos h1]
              refine ⟨i, j, rfl, by omega, hz i j rfl, ?_⟩
              simp only [↓dSeq_eq, ↓wnx_nx, ↓wnx_rt, ↓wnx_bk, ↓wnx_ct, ↓wnx_ex, ↓wlp_nx, ↓wlp_rt, ↓wlp_bk, ↓wlp_ct, ↓wlp_ex, ↓wex_nx, ↓wex_rt, ↓wex_bk, ↓wex_ct, ↓wex_ex, ↓en_nx, ↓en_rt, ↓en_ex, ↓forGo_nil, ↓forGo_cons, ↓dNext, ↓dBreak, ↓dCont, ↓dDrop, ↓dRet, ↓dRetN, ↓dIfS, ↓hName, ↓hNil, ↓hCons, ↓hTup, ↓dAsg, ↓dPar, ↓dTest, ↓dAnd, ↓dOr, ↓dNot, ↓dAndV, ↓dOrV, ↓dNotV, ↓dIf, ↓dVar, ↓dC, ↓dOp, ↓dUn, ↓dNil, ↓dCons, ↓dTup, ↓dLst, ↓dLstM, ↓dCall, ↓dCallK, ↓pick, ↓dCB, ↓dSeqI, ↓dFor, ↓dRange1, ↓dRange2, ↓dRaise, ↓dRaise0, ↓dIsi, ↓dIsi2, ↓oAdd, ↓oSubI, ↓oMulI, ↓oDivI, ↓oModI, ↓oPowI, ↓oSubB, ↓oCmpI, ↓oNeg, ↓oEq, ↓oNe, ↓oIsN, ↓oNotN, ↓oIsB, ↓oIx, ↓cLen, ↓lenQ, ↓D.len?, ↓cAbs, ↓cInt, ↓cMax2, ↓cMin2, ↓cGcd, ↓cSum, ↓cStr, ↓okEq_int, ↓okEq_bl, ↓okEq_non, ↓eqD_int, ↓eqD_bl, ↓eqD_intTup, ↓atI0, ↓atI1, ↓atI2, ↓atI3, ↓ty_int, ↓ty_bl, ↓ty_non, ↓ty_str, ↓ty_tup, ↓ty_lst, ↓endsOf, List.length_cons, List.length_nil, List.map_cons, List.map_nil, Bool.not_true, Bool.not_false, Bool.true_and, Bool.and_true, Bool.false_and, Bool.or_true, Bool.true_or, Bool.false_or, Bool.or_false, ite_true, ite_false, if_true, if_false, Bool.false_eq_true, reduceCtorEq, decide_true, decide_false, true_and, and_true, Bool.not_not, Option.isSome_some, if_false_left, decide_eq_true_eq, Bool.decide_eq_true, ↓isT_non_non, ↓isT_non_bool, ↓isT_non_int, ↓isT_non_str, ↓isT_non_tuple, ↓isT_non_list, ↓isT_non_dict, ↓isT_bool_non, ↓isT_bool_bool, ↓isT_bool_int, ↓isT_bool_str, ↓isT_bool_tuple, ↓isT_bool_list, ↓isT_bool_dict, ↓isT_int_non, ↓isT_int_bool, ↓isT_int_int, ↓isT_int_str, ↓isT_int_tuple, ↓isT_int_list, ↓isT_int_dict, ↓isT_str_non, ↓isT_str_bool, ↓isT_str_int, ↓isT_str_str, ↓isT_str_tuple, ↓isT_str_list, ↓isT_str_dict, ↓isT_tuple_non, ↓isT_tuple_bool, ↓isT_tuple_int, ↓isT_tuple_str, ↓isT_tuple_tuple, ↓isT_tuple_list, ↓isT_tuple_dict, ↓isT_list_non, ↓isT_list_bool, ↓isT_list_int, ↓isT_list_str, ↓isT_list_tuple, ↓isT_list_list, ↓isT_list_dict, ↓isT_dict_non, ↓isT_dict_bool, ↓isT_dict_int, ↓isT_dict_str, ↓isT_dict_tuple, ↓isT_dict_list, ↓isT_dict_dict, ↓slot_0, ↓slot_1, ↓slot_2, ↓slot_3, ↓slot_4, ↓slot_5, ↓slot_6, ↓slot_7, ↓slot_8, ↓slot_9, ↓slot_10, ↓slot_11, ↓slot_12, ↓slot_13, ↓slot_14, ↓slot_15, ↓slot_16, ↓slot_17, ↓set_0, ↓set_1, ↓set_2, ↓set_3, ↓set_4, ↓set_5, ↓set_6, ↓set_7, ↓set_8, ↓set_9, ↓set_10, ↓set_11, ↓set_12, ↓set_13, ↓set_14, ↓set_15, ↓set_16, ↓set_17]
              refine ⟨_, _, rfl, hn, .inr (.inr ⟨i, j, _, _, rfl, rfl, by decide, _, .refl _, ?_⟩)⟩
              rw [own_eq h1]
              exact q
            · rw [if_neg h1]
              have e9 : isFr (.tup [.int i, .int j]) = false := by
                have e : isFr (.tup [.int i, .int j]) = (decide (1 ≤ j) && decide ((Nat.gcd i.natAbs j.natAbs : Int) = 1)) := rfl
                rw [e, decide_eq_false (by omega), Bool.false_and]
              rw [e9] at q
              exact ⟨_, .refl _, q⟩
    · refine stop_if (S' := ⟨[some (.tup l), none], M⟩) (fun R E hR => ?_) (stop (isFr_len (fun z => e2 (by omega))))
      simp only [↓dSeq_eq, ↓wnx_nx, ↓wnx_rt, ↓wnx_bk, ↓wnx_ct, ↓wnx_ex, ↓wlp_nx, ↓wlp_rt, ↓wlp_bk, ↓wlp_ct, ↓wlp_ex, ↓wex_nx, ↓wex_rt, ↓wex_bk, ↓wex_ct, ↓wex_ex, ↓en_nx, ↓en_rt, ↓en_ex, ↓forGo_nil, ↓forGo_cons, ↓dNext, ↓dBreak, ↓dCont, ↓dDrop, ↓dRet, ↓dRetN, ↓dIfS, ↓hName, ↓hNil, ↓hCons, ↓hTup, ↓dAsg, ↓dPar, ↓dTest, ↓dAnd, ↓dOr, ↓dNot, ↓dAndV, ↓dOrV, ↓dNotV, ↓dIf, ↓dVar, ↓dC, ↓dOp, ↓dUn, ↓dNil, ↓dCons, ↓dTup, ↓dLst, ↓dLstM, ↓dCall, ↓dCallK, ↓pick, ↓dCB, ↓dSeqI, ↓dFor, ↓dRange1, ↓dRange2, ↓dRaise, ↓dRaise0, ↓dIsi, ↓dIsi2, ↓oAdd, ↓oSubI, ↓oMulI, ↓oDivI, ↓oModI, ↓oPowI, ↓oSubB, ↓oCmpI, ↓oNeg, ↓oEq, ↓oNe, ↓oIsN, ↓oNotN, ↓oIsB, ↓oIx, ↓cLen, ↓lenQ, ↓D.len?, ↓cAbs, ↓cInt, ↓cMax2, ↓cMin2, ↓cGcd, ↓cSum, ↓cStr, ↓okEq_int, ↓okEq_bl, ↓okEq_non, ↓eqD_int, ↓eqD_bl, ↓eqD_intTup, ↓atI0, ↓atI1, ↓atI2, ↓atI3, ↓ty_int, ↓ty_bl, ↓ty_non, ↓ty_str, ↓ty_tup, ↓ty_lst, ↓endsOf, List.length_cons, List.length_nil, List.map_cons, List.map_nil, Bool.not_true, Bool.not_false, Bool.true_and, Bool.and_true, Bool.false_and, Bool.or_true, Bool.true_or, Bool.false_or, Bool.or_false, ite_true, ite_false, if_true, if_false, Bool.false_eq_true, reduceCtorEq, decide_true, decide_false, true_and, and_true, Bool.not_not, Option.isSome_some, if_false_left, decide_eq_true_eq, Bool.decide_eq_true, ↓isT_non_non, ↓isT_non_bool, ↓isT_non_int, ↓isT_non_str, ↓isT_non_tuple, ↓isT_non_list, ↓isT_non_dict, ↓isT_bool_non, ↓isT_bool_bool, ↓isT_bool_int, ↓isT_bool_str, ↓isT_bool_tuple, ↓isT_bool_list, ↓isT_bool_dict, ↓isT_int_non, ↓isT_int_bool, ↓isT_int_int, ↓isT_int_str, ↓isT_int_tuple, ↓isT_int_list, ↓isT_int_dict, ↓isT_str_non, ↓isT_str_bool, ↓isT_str_int, ↓isT_str_str, ↓isT_str_tuple, ↓isT_str_list, ↓isT_str_dict, ↓isT_tuple_non, ↓isT_tuple_bool, ↓isT_tuple_int, ↓isT_tuple_str, ↓isT_tuple_tuple, ↓isT_tuple_list, ↓isT_tuple_dict, ↓isT_list_non, ↓isT_list_bool, ↓isT_list_int, ↓isT_list_str, ↓isT_list_tuple, ↓isT_list_list, ↓isT_list_dict, ↓isT_dict_non, ↓isT_dict_bool, ↓isT_dict_int, ↓isT_dict_str, ↓isT_dict_tuple, ↓isT_dict_list, ↓isT_dict_dict, ↓slot_0, ↓slot_1, ↓slot_2, ↓slot_3, ↓slot_4, ↓slot_5, ↓slot_6, ↓slot_7, ↓slot_8, ↓slot_9, ↓slot_10, ↓slot_11, ↓slot_12, ↓slot_13, ↓slot_14, ↓slot_15, ↓slot_16, ↓slot_17, ↓set_0, ↓set_1, ↓set_2, ↓set_3, ↓set_4, ↓set_5, ↓set_6, ↓set_7, ↓set_8, ↓set_9, ↓set_10, ↓set_11, ↓set_12, ↓set_13, ↓set_14, ↓set_15, ↓set_16, ↓set_17, e2]; exact hR
  · refine stop_if (S' := ⟨[some d, none], M⟩) (fun R E hR => ?_) (stop (not_tup ht e))
    simp only [↓dSeq_eq, ↓wnx_nx, ↓wnx_rt, ↓wnx_bk, ↓wnx_ct, ↓wnx_ex, ↓wlp_nx, ↓wlp_rt, ↓wlp_bk, ↓wlp_ct, ↓wlp_ex, ↓wex_nx, ↓wex_rt, ↓wex_bk, ↓wex_ct, ↓wex_ex, ↓en_nx, ↓en_rt, ↓en_ex, ↓forGo_nil, ↓forGo_cons, ↓dNext, ↓dBreak, ↓dCont, ↓dDrop, ↓dRet, ↓dRetN, ↓dIfS, ↓hName, ↓hNil, ↓hCons, ↓hTup, ↓dAsg, ↓dPar, ↓dTest, ↓dAnd, ↓dOr, ↓dNot, ↓dAndV, ↓dOrV, ↓dNotV, ↓dIf, ↓dVar, ↓dC, ↓dOp, ↓dUn, ↓dNil, ↓dCons, ↓dTup, ↓dLst, ↓dLstM, ↓dCall, ↓dCallK, ↓pick, ↓dCB, ↓dSeqI, ↓dFor, ↓dRange1, ↓dRange2, ↓dRaise, ↓dRaise0, ↓dIsi, ↓dIsi2, ↓oAdd, ↓oSubI, ↓oMulI, ↓oDivI, ↓oModI, ↓oPowI, ↓oSubB, ↓oCmpI, ↓oNeg, ↓oEq, ↓oNe, ↓oIsN, ↓oNotN, ↓oIsB, ↓oIx, ↓cLen, ↓lenQ, ↓D.len?, ↓cAbs, ↓cInt, ↓cMax2, ↓cMin2, ↓cGcd, ↓cSum, ↓cStr, ↓okEq_int, ↓okEq_bl, ↓okEq_non, ↓eqD_int, ↓eqD_bl, ↓eqD_intTup, ↓atI0, ↓atI1, ↓atI2, ↓atI3, ↓ty_int, ↓ty_bl, ↓ty_non, ↓ty_str, ↓ty_tup, ↓ty_lst, ↓endsOf, List.length_cons, List.length_nil, List.map_cons, List.map_nil, Bool.not_true, Bool.not_false, Bool.true_and, Bool.and_true, Bool.false_and, Bool.or_true, Bool.true_or, Bool.false_or, Bool.or_false, ite_true, ite_false, if_true, if_false, Bool.false_eq_true, reduceCtorEq, decide_true, decide_false, true_and, and_true, Bool.not_not, Option.isSome_some, if_false_left, decide_eq_true_eq, Bool.decide_eq_true, ↓isT_non_non, ↓isT_non_bool, ↓isT_non_int, ↓isT_non_str, ↓isT_non_tuple, ↓isT_non_list, ↓isT_non_dict, ↓isT_bool_non, ↓isT_bool_bool, ↓isT_bool_int, ↓isT_bool_str, ↓isT_bool_tuple, ↓isT_bool_list, ↓isT_bool_dict, ↓isT_int_non, ↓isT_int_bool, ↓isT_int_int, ↓isT_int_str, ↓isT_int_tuple, ↓isT_int_list, ↓isT_int_dict, ↓isT_str_non, ↓isT_str_bool, ↓isT_str_int, ↓isT_str_str, ↓isT_str_tuple, ↓isT_str_list, ↓isT_str_dict, ↓isT_tuple_non, ↓isT_tuple_bool, ↓isT_tuple_int, ↓isT_tuple_str, ↓isT_tuple_tuple, ↓isT_tuple_list, ↓isT_tuple_dict, ↓isT_list_non, ↓isT_list_bool, ↓isT_list_int, ↓isT_list_str, ↓isT_list_tuple, ↓isT_list_list, ↓isT_list_dict, ↓isT_dict_non, ↓isT_dict_bool, ↓isT_dict_int, ↓isT_dict_str, ↓isT_dict_tuple, ↓isT_dict_list, ↓isT_dict_dict, ↓slot_0, ↓slot_1, ↓slot_2, ↓slot_3, ↓slot_4, ↓slot_5, ↓slot_6, ↓slot_7, ↓slot_8, ↓slot_9, ↓slot_10, ↓slot_11, ↓slot_12, ↓slot_13, ↓slot_14, ↓slot_15, ↓slot_16, ↓slot_17, ↓set_0, ↓set_1, ↓set_2, ↓set_3, ↓set_4, ↓set_5, ↓set_6, ↓set_7, ↓set_8, ↓set_9, ↓set_10, ↓set_11, ↓set_12, ↓set_13, ↓set_14, ↓set_15, ↓set_16, ↓set_17, ht, ↓isT_tuple, e]; exact hR
end K01
end
section
set_option maxRecDepth 100000
set_option maxHeartbeats 2000000
set_option exponentiation.threshold 100
namespace K01
open PySem PySem.Spec L2 DL
/-! ### asked, due -/
inductive W5 where
  | plus | minus | times | over | order
def W5.s : W5 → Str
  | .plus => "plus" | .minus => "minus" | .times => "times" | .over => "over" | .order => "order"
def W5.val : W5 → Int × Int → Int × Int → D
  | .plus, p, q => pD (plusP p q)
  | .minus, p, q => pD (minusP p q)
  | .times, p, q => pD (timesP p q)
  | .over, p, q => pD (overP p q)
  | .order, p, q => .int (ordP p q)
def W5.isOver : W5 → Bool
  | .over => true
  | _ => false
def told (d : D) : D := .lst [.str "told", d]
def inv (d : D) : D := .lst [.str "invalid", d]
def intg (d : D) : D := .lst [.str "integer", d]
def zeroD : D := .lst [.str "zero"]
def askF (x y : D) (M : Mst) (k : D → Prop) : Prop := (x.ty M).isSome = true ∧ (y.ty M).isSome = true ∧ (if isInt x = false then k (intg x) else if isInt y = false then k (intg y) else
  ∃ a b, x = .int a ∧ y = .int b ∧ (if b = 0 then k zeroD else szI 9000 b ∧ k (told (pD (low a b)))))
def ask5 (w : W5) (x y : D) (M : Mst) (k : D → Prop) : Prop := known M x ∧ known M y ∧ (if isFr x = false then k (inv x) else if isFr y = false then k (inv y) else
  ∃ p q, x = pD p ∧ y = pD q ∧ Fr 4400 p ∧ Fr 4400 q ∧ (if w.isOver = true ∧ q.1 = 0 then k zeroD else k (told (w.val p q))))
def sp_law_ask : SpD := fun ds M Q _ => ∃ x y nm, (ds = [.str "fraction", x, y, .bl nm] ∧ askF x y M fun d => Q d M) ∨ ∃ w : W5, ds = [.str w.s, x, y, .bl nm] ∧ ask5 w x y M fun d => Q d M
section
variable {P : Program} {K : PySem.W.Frag} {mg : Str → Option Value}
def askCl (K : PySem.W.Frag) : List ClD := [⟨He.ga K "InvalidInteger", some 4, fun C a dd => (dRet (dLst (dCons (dC (.str "integer")) (dCons (dXf K C a dd "given" (dVar 4)) dNil))))⟩, ⟨He.ga K "InvalidFraction", some 4, fun C a dd => (dRet (dLst (dCons (dC (.str "invalid")) (dCons (dXf K C a dd "given" (dVar 4)) dNil))))⟩, ⟨He.ga K "DividedByZero", none, fun C a dd => (dRet (dLst (dCons (dC (.str "zero")) dNil)))⟩]
theorem look_giv {d : D} : List.lookup ("given" : Str) [(("given" : Str), d)] = some d := by simp [List.lookup]
theorem try_int (Z : Fs P K mg) {Q E} {s0 s1 s2 s3 s4 : Option D} {M : Mst} {d : D} (q : Q (intg d) M) : tryGo K (endsOf Q E) (askCl K) (erOne K "InvalidInteger" d) ⟨[s0, s1, s2, s3, s4], M⟩ := by
  refine ⟨true, Z.x_InvalidInteger_InvalidInteger, fun _ a dd => ?_, fun h => by cases h⟩
  show ((L2.XfC K (He.ga K "InvalidInteger") ∧ PySem.W.findIn K (.ref (He.ga K "InvalidInteger")) "given" = some none) ∧ (_ ∧ _ ∧ _) ∧ _)
  refine ⟨Z.t_InvalidInteger, ⟨rfl, rfl, rfl⟩, ?_⟩
  show match List.lookup ("given" : Str) [(("given" : Str), d)] with | some d => _ | none => False
  rw [look_giv]
  exact ⟨by show 2 ≤ 100000; decide, _, .refl _, q⟩
theorem try_inv (Z : Fs P K mg) {Q E} {s0 s1 s2 s3 s4 : Option D} {M : Mst} {d : D} (q : Q (inv d) M) : tryGo K (endsOf Q E) (askCl K) (erOne K "InvalidFraction" d) ⟨[s0, s1, s2, s3, s4], M⟩ := by
  refine ⟨false, Z.x_InvalidFraction_InvalidInteger, (fun h => by cases h), fun _ => ?_⟩
  refine ⟨true, Z.x_InvalidFraction_InvalidFraction, fun _ a dd => ?_, fun h => by cases h⟩
  show ((L2.XfC K (He.ga K "InvalidFraction") ∧ PySem.W.findIn K (.ref (He.ga K "InvalidFraction")) "given" = some none) ∧ (_ ∧ _ ∧ _) ∧ _)
  refine ⟨Z.t_InvalidFraction, ⟨rfl, rfl, rfl⟩, ?_⟩
  show match List.lookup ("given" : Str) [(("given" : Str), d)] with | some d => _ | none => False
  rw [look_giv]
  exact ⟨by show 2 ≤ 100000; decide, _, .refl _, q⟩
theorem try_zero (Z : Fs P K mg) {Q E} {s0 s1 s2 s3 s4 : Option D} {M : Mst} {d : D} (q : Q zeroD M) : tryGo K (endsOf Q E) (askCl K) (erOne K "DividedByZero" d) ⟨[s0, s1, s2, s3, s4], M⟩ := by
  refine ⟨false, Z.x_DividedByZero_InvalidInteger, (fun h => by cases h), fun _ => ?_⟩
  refine ⟨false, Z.x_DividedByZero_InvalidFraction, (fun h => by cases h), fun _ => ?_⟩
  refine ⟨true, Z.x_DividedByZero_DividedByZero, fun _ a dd => ?_, fun h => by cases h⟩
  exact ⟨by show 1 ≤ 100000; decide, _, .refl _, q⟩
theorem okw (w : W5) : okEq (.str w.s) = true := by cases w <;> decide +kernel
theorem okf : okEq (.str "fraction") = true := by decide +kernel
theorem okp : okEq (.str "plus") = true := by decide +kernel
theorem okm : okEq (.str "minus") = true := by decide +kernel
theorem okt : okEq (.str "times") = true := by decide +kernel
theorem oko : okEq (.str "over") = true := by decide +kernel
theorem okr : okEq (.str "order") = true := by decide +kernel
theorem w_f (w : W5) : decide (w.s = "fraction") = false := by cases w <;> decide +kernel
theorem w_plus_plus : decide (W5.plus.s = "plus") = true := by decide +kernel
theorem w_minus_plus : decide (W5.minus.s = "plus") = false := by decide +kernel
theorem w_times_plus : decide (W5.times.s = "plus") = false := by decide +kernel
theorem w_over_plus : decide (W5.over.s = "plus") = false := by decide +kernel
theorem w_order_plus : decide (W5.order.s = "plus") = false := by decide +kernel
theorem w_plus_minus : decide (W5.plus.s = "minus") = false := by decide +kernel
theorem w_minus_minus : decide (W5.minus.s = "minus") = true := by decide +kernel
theorem w_times_minus : decide (W5.times.s = "minus") = false := by decide +kernel
theorem w_over_minus : decide (W5.over.s = "minus") = false := by decide +kernel
theorem w_order_minus : decide (W5.order.s = "minus") = false := by decide +kernel
theorem w_plus_times : decide (W5.plus.s = "times") = false := by decide +kernel
theorem w_minus_times : decide (W5.minus.s = "times") = false := by decide +kernel
theorem w_times_times : decide (W5.times.s = "times") = true := by decide +kernel
theorem w_over_times : decide (W5.over.s = "times") = false := by decide +kernel
theorem w_order_times : decide (W5.order.s = "times") = false := by decide +kernel
theorem w_plus_over : decide (W5.plus.s = "over") = false := by decide +kernel
theorem w_minus_over : decide (W5.minus.s = "over") = false := by decide +kernel
theorem w_times_over : decide (W5.times.s = "over") = false := by decide +kernel
theorem w_over_over : decide (W5.over.s = "over") = true := by decide +kernel
theorem w_order_over : decide (W5.order.s = "over") = false := by decide +kernel
theorem w_plus_order : decide (W5.plus.s = "order") = false := by decide +kernel
theorem w_minus_order : decide (W5.minus.s = "order") = false := by decide +kernel
theorem w_times_order : decide (W5.times.s = "order") = false := by decide +kernel
theorem w_over_order : decide (W5.over.s = "order") = false := by decide +kernel
theorem w_order_order : decide (W5.order.s = "order") = true := by decide +kernel
theorem ff : decide (("fraction" : Str) = "fraction") = true := by decide +kernel
abbrev stA (w : Str) (x y : D) (nm : Bool) (M : Mst) : DS := ⟨[some (.str w), some x, some y, some (.bl nm), none], M⟩
theorem call_plus (Z : Fs P K mg) {Q : D → Mst → Prop} {E} {x y : D} {nm : Bool} {M : Mst} {D0 : EndsD} (hD : D0 = (endsOf Q E).wex (tryGo K (endsOf Q E) (askCl K)) ∨ ∃ R, D0 = ((endsOf Q E).wex (tryGo K (endsOf Q E) (askCl K))).wnx R) (h : ask5 .plus x y M fun d => Q d M) :
    (dRet (dLst (dCons (dC (.str "told")) (dCons (dIf (dTest (dVar 3)) (dCall (sp_plus K) (dCons (dVar 1) (dCons (dVar 2) dNil))) (dCallK (sp_plus K) [1, 0] (dCons (dVar 2) (dCons (dVar 1) dNil)))) dNil)))) D0 (stA W5.plus.s x y nm M) := by
  obtain ⟨hx, hy, h⟩ := h
  have key : sp_plus K [x, y] M (fun d M' => ((0 + 1 + 1 : Nat) ≤ 100000 ∧ ∃ M_1, MLe M_1 M' ∧ Q (told d) M_1)) (fun er M' => tryGo K (endsOf Q E) (askCl K) er (stA W5.plus.s x y nm M')) := by
    refine ⟨x, y, rfl, hx, hy, ?_⟩
    by_cases e1 : isFr x = false
    · rw [if_pos e1] at h ⊢; exact try_inv Z h
    · rw [if_neg e1] at h ⊢
      by_cases e2 : isFr y = false
      · rw [if_pos e2] at h ⊢; exact try_inv Z h
      · rw [if_neg e2] at h ⊢
        obtain ⟨p, q, h1, h2, h3, h4, h5⟩ := h
        refine ⟨p, q, h1, h2, h3, h4, ?_⟩
        rw [if_neg (fun z => by cases z.1)] at h5
        exact ⟨by decide, _, .refl _, h5⟩
  rcases hD with rfl | ⟨R, rfl⟩
  · cases nm
    · exact ⟨rfl, key⟩
    · exact key
  · cases nm
    · exact ⟨rfl, key⟩
    · exact key
theorem call_minus (Z : Fs P K mg) {Q : D → Mst → Prop} {E} {x y : D} {nm : Bool} {M : Mst} {D0 : EndsD} (hD : D0 = (endsOf Q E).wex (tryGo K (endsOf Q E) (askCl K)) ∨ ∃ R, D0 = ((endsOf Q E).wex (tryGo K (endsOf Q E) (askCl K))).wnx R) (h : ask5 .minus x y M fun d => Q d M) :
    (dRet (dLst (dCons (dC (.str "told")) (dCons (dIf (dTest (dVar 3)) (dCall (sp_minus K) (dCons (dVar 1) (dCons (dVar 2) dNil))) (dCallK (sp_minus K) [1, 0] (dCons (dVar 2) (dCons (dVar 1) dNil)))) dNil)))) D0 (stA W5.minus.s x y nm M) := by
  obtain ⟨hx, hy, h⟩ := h
  have key : sp_minus K [x, y] M (fun d M' => ((0 + 1 + 1 : Nat) ≤ 100000 ∧ ∃ M_1, MLe M_1 M' ∧ Q (told d) M_1)) (fun er M' => tryGo K (endsOf Q E) (askCl K) er (stA W5.minus.s x y nm M')) := by
    refine ⟨x, y, rfl, hx, hy, ?_⟩
    by_cases e1 : isFr x = false
    · rw [if_pos e1] at h ⊢; exact try_inv Z h
    · rw [if_neg e1] at h ⊢
      by_cases e2 : isFr y = false
      · rw [if_pos e2] at h ⊢; exact try_inv Z h
      · rw [if_neg e2] at h ⊢
        obtain ⟨p, q, h1, h2, h3, h4, h5⟩ := h
        refine ⟨p, q, h1, h2, h3, h4, ?_⟩
        rw [if_neg (fun z => by cases z.1)] at h5
        exact ⟨by decide, _, .refl _, h5⟩
  rcases hD with rfl | ⟨R, rfl⟩
  · cases nm
    · exact ⟨rfl, key⟩
    · exact key
  · cases nm
    · exact ⟨rfl, key⟩
    · exact key
theorem call_times (Z : Fs P K mg) {Q : D → Mst → Prop} {E} {x y : D} {nm : Bool} {M : Mst} {D0 : EndsD} (hD : D0 = (endsOf Q E).wex (tryGo K (endsOf Q E) (askCl K)) ∨ ∃ R, D0 = ((endsOf Q E).wex (tryGo K (endsOf Q E) (askCl K))).wnx R) (h : ask5 .times x y M fun d => Q d M) :
    (dRet (dLst (dCons (dC (.str "told")) (dCons (dIf (dTest (dVar 3)) (dCall (sp_times K) (dCons (dVar 1) (dCons (dVar 2) dNil))) (dCallK (sp_times K) [1, 0] (dCons (dVar 2) (dCons (dVar 1) dNil)))) dNil)))) D0 (stA W5.times.s x y nm M) := by
  obtain ⟨hx, hy, h⟩ := h
  have key : sp_times K [x, y] M (fun d M' => ((0 + 1 + 1 : Nat) ≤ 100000 ∧ ∃ M_1, MLe M_1 M' ∧ Q (told d) M_1)) (fun er M' => tryGo K (endsOf Q E) (askCl K) er (stA W5.times.s x y nm M')) := by
    refine ⟨x, y, rfl, hx, hy, ?_⟩
    by_cases e1 : isFr x = false
    · rw [if_pos e1] at h ⊢; exact try_inv Z h
    · rw [if_neg e1] at h ⊢
      by_cases e2 : isFr y = false
      · rw [if_pos e2] at h ⊢; exact try_inv Z h
      · rw [if_neg e2] at h ⊢
        obtain ⟨p, q, h1, h2, h3, h4, h5⟩ := h
        refine ⟨p, q, h1, h2, h3, h4, ?_⟩
        rw [if_neg (fun z => by cases z.1)] at h5
        exact ⟨by decide, _, .refl _, h5⟩
  rcases hD with rfl | ⟨R, rfl⟩
  · cases nm
    · exact ⟨rfl, key⟩
    · exact key
  · cases nm
    · exact ⟨rfl, key⟩
    · exact key
theorem call_over (Z : Fs P K mg) {Q : D → Mst → Prop} {E} {x y : D} {nm : Bool} {M : Mst} {D0 : EndsD} (hD : D0 = (endsOf Q E).wex (tryGo K (endsOf Q E) (askCl K)) ∨ ∃ R, D0 = ((endsOf Q E).wex (tryGo K (endsOf Q E) (askCl K))).wnx R) (h : ask5 .over x y M fun d => Q d M) :
    (dRet (dLst (dCons (dC (.str "told")) (dCons (dIf (dTest (dVar 3)) (dCall (sp_over K) (dCons (dVar 1) (dCons (dVar 2) dNil))) (dCallK (sp_over K) [1, 0] (dCons (dVar 2) (dCons (dVar 1) dNil)))) dNil)))) D0 (stA W5.over.s x y nm M) := by
  obtain ⟨hx, hy, h⟩ := h
  have key : sp_over K [x, y] M (fun d M' => ((0 + 1 + 1 : Nat) ≤ 100000 ∧ ∃ M_1, MLe M_1 M' ∧ Q (told d) M_1)) (fun er M' => tryGo K (endsOf Q E) (askCl K) er (stA W5.over.s x y nm M')) := by
    refine ⟨x, y, rfl, hx, hy, ?_⟩
    by_cases e1 : isFr x = false
    · rw [if_pos e1] at h ⊢; exact try_inv Z h
    · rw [if_neg e1] at h ⊢
      by_cases e2 : isFr y = false
      · rw [if_pos e2] at h ⊢; exact try_inv Z h
      · rw [if_neg e2] at h ⊢
        obtain ⟨p, q, h1, h2, h3, h4, h5⟩ := h
        refine ⟨p, q, h1, h2, h3, h4, ?_⟩
        by_cases e3 : q.1 = 0
        · rw [if_pos ⟨rfl, e3⟩] at h5
          show (if q.1 = 0 then _ else _)
          rw [if_pos e3]; exact try_zero Z h5
        · rw [if_neg (fun z => e3 z.2)] at h5
          show (if q.1 = 0 then _ else _)
          rw [if_neg e3]; exact ⟨by decide, _, .refl _, h5⟩
  rcases hD with rfl | ⟨R, rfl⟩
  · cases nm
    · exact ⟨rfl, key⟩
    · exact key
  · cases nm
    · exact ⟨rfl, key⟩
    · exact key
theorem call_order (Z : Fs P K mg) {Q : D → Mst → Prop} {E} {x y : D} {nm : Bool} {M : Mst} {D0 : EndsD} (hD : D0 = (endsOf Q E).wex (tryGo K (endsOf Q E) (askCl K)) ∨ ∃ R, D0 = ((endsOf Q E).wex (tryGo K (endsOf Q E) (askCl K))).wnx R) (h : ask5 .order x y M fun d => Q d M) :
    (dRet (dLst (dCons (dC (.str "told")) (dCons (dIf (dTest (dVar 3)) (dCall (sp_order K) (dCons (dVar 1) (dCons (dVar 2) dNil))) (dCallK (sp_order K) [1, 0] (dCons (dVar 2) (dCons (dVar 1) dNil)))) dNil)))) D0 (stA W5.order.s x y nm M) := by
  obtain ⟨hx, hy, h⟩ := h
  have key : sp_order K [x, y] M (fun d M' => ((0 + 1 + 1 : Nat) ≤ 100000 ∧ ∃ M_1, MLe M_1 M' ∧ Q (told d) M_1)) (fun er M' => tryGo K (endsOf Q E) (askCl K) er (stA W5.order.s x y nm M')) := by
    refine ⟨x, y, rfl, hx, hy, ?_⟩
    by_cases e1 : isFr x = false
    · rw [if_pos e1] at h ⊢; exact try_inv Z h
    · rw [if_neg e1] at h ⊢
      by_cases e2 : isFr y = false
      · rw [if_pos e2] at h ⊢; exact try_inv Z h
      · rw [if_neg e2] at h ⊢
        obtain ⟨p, q, h1, h2, h3, h4, h5⟩ := h
        refine ⟨p, q, h1, h2, h3, h4, ?_⟩
        rw [if_neg (fun z => by cases z.1)] at h5
        exact ⟨by decide, _, .refl _, h5⟩
  rcases hD with rfl | ⟨R, rfl⟩
  · cases nm
    · exact ⟨rfl, key⟩
    · exact key
  · cases nm
    · exact ⟨rfl, key⟩
    · exact key
theorem p_law_ask (Z : Fs P K mg) (ds M Q E) (h : sp_law_ask ds M Q E) : t_law_ask K (sp_order K) (sp_over K) (sp_times K) (sp_minus K) (sp_plus K) (sp_fraction K) (endsOf Q E) ⟨startD N_law_ask.length ds, M⟩ := by
  obtain ⟨x, y, nm, ⟨rfl, hx, hy, h⟩ | ⟨w, rfl, h⟩⟩ := h
  · show t_law_ask K (sp_order K) (sp_over K) (sp_times K) (sp_minus K) (sp_plus K) (sp_fraction K) (endsOf Q E) (stA "fraction" x y nm M)
    unfold t_law_ask
    show dSeq _ _ ((endsOf Q E).wex (tryGo K (endsOf Q E) (askCl K))) _
    refine stop_if (S' := stA "fraction" x y nm M) (fun R E hR => test_str okf okf (by rw [ff]; exact hR)) (fun R => ?_)
    have key : sp_fraction K [x, y] M (fun d M' => ((0 + 1 + 1 : Nat) ≤ 100000 ∧ ∃ M_1, MLe M_1 M' ∧ Q (told d) M_1)) (fun er M' => tryGo K (endsOf Q E) (askCl K) er (stA "fraction" x y nm M')) := by
      refine ⟨x, y, rfl, hx, hy, ?_⟩
      by_cases e1 : isInt x = false
      · rw [if_pos e1] at h ⊢; exact try_int Z h
      · rw [if_neg e1] at h ⊢
        by_cases e2 : isInt y = false
        · rw [if_pos e2] at h ⊢; exact try_int Z h
        · rw [if_neg e2] at h ⊢
          obtain ⟨a, b, h1, h2, h3⟩ := h
          refine ⟨a, b, h1, h2, ?_⟩
          by_cases e3 : b = 0
          · rw [if_pos e3] at h3 ⊢; exact try_zero Z h3
          · rw [if_neg e3] at h3 ⊢; exact ⟨h3.1, by decide, _, .refl _, h3.2⟩
    cases nm
    · exact ⟨rfl, key⟩
    · exact key
  · show t_law_ask K (sp_order K) (sp_over K) (sp_times K) (sp_minus K) (sp_plus K) (sp_fraction K) (endsOf Q E) (stA w.s x y nm M)
    unfold t_law_ask
    show dSeq _ _ ((endsOf Q E).wex (tryGo K (endsOf Q E) (askCl K))) _
    refine skip_if (fun R E hR => test_str (okw w) okf (by rw [w_f]; exact hR)) ?_
    cases w with
    | plus =>
      exact stop_if (S' := stA W5.plus.s x y nm M) (fun R E hR => test_str (okw _) okp (by rw [w_plus_plus]; exact hR)) (fun R => call_plus Z (.inr ⟨R, rfl⟩) h)
    | minus =>
      refine skip_if (fun R E hR => test_str (okw _) okp (by rw [w_minus_plus]; exact hR)) ?_
      exact stop_if (S' := stA W5.minus.s x y nm M) (fun R E hR => test_str (okw _) okm (by rw [w_minus_minus]; exact hR)) (fun R => call_minus Z (.inr ⟨R, rfl⟩) h)
    | times =>
      refine skip_if (fun R E hR => test_str (okw _) okp (by rw [w_times_plus]; exact hR)) ?_
      refine skip_if (fun R E hR => test_str (okw _) okm (by rw [w_times_minus]; exact hR)) ?_
      exact stop_if (S' := stA W5.times.s x y nm M) (fun R E hR => test_str (okw _) okt (by rw [w_times_times]; exact hR)) (fun R => call_times Z (.inr ⟨R, rfl⟩) h)
    | over =>
      refine skip_if (fun R E hR => test_str (okw _) okp (by rw [w_over_plus]; exact hR)) ?_
      refine skip_if (fun R E hR => test_str (okw _) okm (by rw [w_over_minus]; exact hR)) ?_
      refine skip_if (fun R E hR => test_str (okw _) okt (by rw [w_over_times]; exact hR)) ?_
      exact stop_if (S' := stA W5.over.s x y nm M) (fun R E hR => test_str (okw _) oko (by rw [w_over_over]; exact hR)) (fun R => call_over Z (.inr ⟨R, rfl⟩) h)
    | order =>
      refine skip_if (fun R E hR => test_str (okw _) okp (by rw [w_order_plus]; exact hR)) ?_
      refine skip_if (fun R E hR => test_str (okw _) okm (by rw [w_order_minus]; exact hR)) ?_
      refine skip_if (fun R E hR => test_str (okw _) okt (by rw [w_order_times]; exact hR)) ?_
      refine skip_if (fun R E hR => test_str (okw _) oko (by rw [w_order_over]; exact hR)) ?_
      exact call_order Z (.inl rfl) h
end
end K01
end
section
set_option maxRecDepth 100000
set_option maxHeartbeats 2000000
set_option exponentiation.threshold 100
namespace K01
open PySem PySem.Spec L2 DL
variable {K : PySem.W.Frag}
def dueF (a b : Int) : D := if b = 0 then zeroD else told (pD (low a b))
def due5 (w : W5) (p q : Int × Int) : D := if w.isOver = true ∧ q.1 = 0 then zeroD else told (w.val p q)
def sp_law_due : SpD := fun ds M Q _ => (∃ a b : Int, ds = [.str "fraction", .int a, .int b] ∧ szI 9000 b ∧ Q (dueF a b) M) ∨ ∃ (w : W5) (p q : Int × Int), ds = [.str w.s, pD p, pD q] ∧ Fr 4400 p ∧ Fr 4400 q ∧ Q (due5 w p q) M
theorem in_w {w : Str} {b : Bool} {r : List (Option D)} {M : Mst} {R : Bool → DS → Prop} {E : Er → DS → Prop} (hi : inV (.str w) [.str "fraction", .str "over"] = b) (h : R b ⟨some (.str w) :: r, M⟩) :
    dTest (dOp oIn (dVar 0) (dTup (dCons (dC (.str "fraction")) (dCons (dC (.str "over")) dNil)))) ⟨some (.str w) :: r, M⟩ R E := by
  refine ⟨by show 2 ≤ 100000; decide, ?_⟩
  show R (inV (.str w) [.str "fraction", .str "over"]) _
  rw [hi]
  exact h
theorem inv_f : inV (.str "fraction") [.str "fraction", .str "over"] = true := by decide +kernel
theorem inv_w (w : W5) : inV (.str w.s) [.str "fraction", .str "over"] = w.isOver := by cases w <;> decide +kernel
theorem zero_one {q : Int × Int} {k : Nat} (h : Fr k q) (h0 : q.1 = 0) : q.2 = 1 := by
  have := h.one
  rw [h0] at this
  have hp := h.pos
  simp at this
  omega
theorem eq01 {a b : Int} : okEq (.tup [.int a, .int b]) = true ∧ eqD (.tup [.int a, .int b]) (.tup [.int 0, .int 1]) = (decide (a = 0) && decide (b = 1)) := by
  refine ⟨rfl, ?_⟩
  show (PyData.eqv (.int a) (.int 0) && (PyData.eqv (.int b) (.int 1) && true)) = _
  rw [Bool.and_true]
  have e : ∀ x y : Int, PyData.eqv (.int x) (.int y) = decide (x = y) := fun x y => eqD_int
  rw [e, e]
theorem eqtI {a b c : Int} : eqD (.tup [.int a, .int b]) (.int c) = false := rfl
abbrev stD (w : Str) (x y : D) (M : Mst) : DS := ⟨[some (.str w), some x, some y, none], M⟩
theorem ord_eq {g : Int} : bI (decide (0 < g)) - bI (decide (g < 0)) = if g = 0 then 0 else if 0 < g then 1 else -1 := by
  rcases Int.lt_trichotomy g 0 with h | h | h
  · have a : ¬ 0 < g := by omega
    have b : g ≠ 0 := by omega
    simp [bI, a, b, h]
  · subst h; rfl
  · have a : ¬ g < 0 := by omega
    have b : g ≠ 0 := by omega
    simp [bI, a, b, h]
theorem p_law_due (ds M Q E) (h : sp_law_due ds M Q E) : t_law_due K sp_law_times sp_law_over sp_law_minus sp_law_plus sp_law_low (endsOf Q E) ⟨startD N_law_due.length ds, M⟩ := by
  rcases h with ⟨a, b, rfl, hz, q⟩ | ⟨w, ⟨a, b⟩, ⟨c, d⟩, rfl, hp, hq, q⟩
  · show t_law_due K sp_law_times sp_law_over sp_law_minus sp_law_plus sp_law_low (endsOf Q E) (stD "fraction" (.int a) (.int b) M)
    unfold t_law_due
    by_cases hb : b = 0
    · unfold dueF at q
      rw [if_pos hb] at q
      refine stop_if (S' := stD "fraction" (.int a) (.int b) M) (fun R E hR => and_t (S' := stD "fraction" (.int a) (.int b) M) (fun R hR => in_w inv_f hR) (or_t (S' := stD "fraction" (.int a) (.int b) M) (fun R hR => ?_) hR)) (fun R => ?_)
      · simp only [↓dSeq_eq, ↓wnx_nx, ↓wnx_rt, ↓wnx_bk, ↓wnx_ct, ↓wnx_ex, ↓wlp_nx, ↓wlp_rt, ↓wlp_bk, ↓wlp_ct, ↓wlp_ex, ↓wex_nx, ↓wex_rt, ↓wex_bk, ↓wex_ct, ↓wex_ex, ↓en_nx, ↓en_rt, ↓en_ex, ↓forGo_nil, ↓forGo_cons, ↓dNext, ↓dBreak, ↓dCont, ↓dDrop, ↓dRet, ↓dRetN, ↓dIfS, ↓hName, ↓hNil, ↓hCons, ↓hTup, ↓dAsg, ↓dPar, ↓dTest, ↓dAnd, ↓dOr, ↓dNot, ↓dAndV, ↓dOrV, ↓dNotV, ↓dIf, ↓dVar, ↓dC, ↓dOp, ↓dUn, ↓dNil, ↓dCons, ↓dTup, ↓dLst, ↓dLstM, ↓dCall, ↓dCallK, ↓pick, ↓dCB, ↓dSeqI, ↓dFor, ↓dRange1, ↓dRange2, ↓dRaise, ↓dRaise0, ↓dIsi, ↓dIsi2, ↓oAdd, ↓oSubI, ↓oMulI, ↓oDivI, ↓oModI, ↓oPowI, ↓oSubB, ↓oCmpI, ↓oNeg, ↓oEq, ↓oNe, ↓oIsN, ↓oNotN, ↓oIsB, ↓oIx, ↓cLen, ↓lenQ, ↓D.len?, ↓cAbs, ↓cInt, ↓cMax2, ↓cMin2, ↓cGcd, ↓cSum, ↓cStr, ↓okEq_int, ↓okEq_bl, ↓okEq_non, ↓eqD_int, ↓eqD_bl, ↓eqD_intTup, ↓atI0, ↓atI1, ↓atI2, ↓atI3, ↓ty_int, ↓ty_bl, ↓ty_non, ↓ty_str, ↓ty_tup, ↓ty_lst, ↓endsOf, List.length_cons, List.length_nil, List.map_cons, List.map_nil, Bool.not_true, Bool.not_false, Bool.true_and, Bool.and_true, Bool.false_and, Bool.or_true, Bool.true_or, Bool.false_or, Bool.or_false, ite_true, ite_false, if_true, if_false, Bool.false_eq_true, reduceCtorEq, decide_true, decide_false, true_and, and_true, Bool.not_not, Option.isSome_some, if_false_left, decide_eq_true_eq, Bool.decide_eq_true, ↓isT_non_non, ↓isT_non_bool, ↓isT_non_int, ↓isT_non_str, ↓isT_non_tuple, ↓isT_non_list, ↓isT_non_dict, ↓isT_bool_non, ↓isT_bool_bool, ↓isT_bool_int, ↓isT_bool_str, ↓isT_bool_tuple, ↓isT_bool_list, ↓isT_bool_dict, ↓isT_int_non, ↓isT_int_bool, ↓isT_int_int, ↓isT_int_str, ↓isT_int_tuple, ↓isT_int_list, ↓isT_int_dict, ↓isT_str_non, ↓isT_str_bool, ↓isT_str_int, ↓isT_str_str, ↓isT_str_tuple, ↓isT_str_list, ↓isT_str_dict, ↓isT_tuple_non, ↓isT_tuple_bool, ↓isT_tuple_int, ↓isT_tuple_str, ↓isT_tuple_tuple, ↓isT_tuple_list, ↓isT_tuple_dict, ↓isT_list_non, ↓isT_list_bool, ↓isT_list_int, ↓isT_list_str, ↓isT_list_tuple, ↓isT_list_list, ↓isT_list_dict, ↓isT_dict_non, ↓isT_dict_bool, ↓isT_dict_int, ↓isT_dict_str, ↓isT_dict_tuple, ↓isT_dict_list, ↓isT_dict_dict, ↓slot_0, ↓slot_1, ↓slot_2, ↓slot_3, ↓slot_4, ↓slot_5, ↓slot_6, ↓slot_7, ↓slot_8, ↓slot_9, ↓slot_10, ↓slot_11, ↓slot_12, ↓slot_13, ↓slot_14, ↓slot_15, ↓slot_16, ↓slot_17, ↓set_0, ↓set_1, ↓set_2, ↓set_3, ↓set_4, ↓set_5, ↓set_6, ↓set_7, ↓set_8, ↓set_9, ↓set_10, ↓set_11, ↓set_12, ↓set_13, ↓set_14, ↓set_15, ↓set_16, ↓set_17, hb]; subst hb; exact hR
      · exact ⟨by show 1 ≤ 100000; decide, _, .refl _, q⟩
    · unfold dueF at q
      rw [if_neg hb] at q
      refine skip_if (fun R E hR => and_t (S' := stD "fraction" (.int a) (.int b) M) (fun R hR => in_w inv_f hR) (or_f (S' := stD "fraction" (.int a) (.int b) M) (fun R hR => ?_) ?_)) (stop_if (S' := stD "fraction" (.int a) (.int b) M) (fun R E hR => test_str okf okf (by rw [ff]; exact hR)) (fun R => ?_))
      · simp only [↓dSeq_eq, ↓wnx_nx, ↓wnx_rt, ↓wnx_bk, ↓wnx_ct, ↓wnx_ex, ↓wlp_nx, ↓wlp_rt, ↓wlp_bk, ↓wlp_ct, ↓wlp_ex, ↓wex_nx, ↓wex_rt, ↓wex_bk, ↓wex_ct, ↓wex_ex, ↓en_nx, ↓en_rt, ↓en_ex, ↓forGo_nil, ↓forGo_cons, ↓dNext, ↓dBreak, ↓dCont, ↓dDrop, ↓dRet, ↓dRetN, ↓dIfS, ↓hName, ↓hNil, ↓hCons, ↓hTup, ↓dAsg, ↓dPar, ↓dTest, ↓dAnd, ↓dOr, ↓dNot, ↓dAndV, ↓dOrV, ↓dNotV, ↓dIf, ↓dVar, ↓dC, ↓dOp, ↓dUn, ↓dNil, ↓dCons, ↓dTup, ↓dLst, ↓dLstM, ↓dCall, ↓dCallK, ↓pick, ↓dCB, ↓dSeqI, ↓dFor, ↓dRange1, ↓dRange2, ↓dRaise, ↓dRaise0, ↓dIsi, ↓dIsi2, ↓oAdd, ↓oSubI, ↓oMulI, ↓oDivI, ↓oModI, ↓oPowI, ↓oSubB, ↓oCmpI, ↓oNeg, ↓oEq, ↓oNe, ↓oIsN, ↓oNotN, ↓oIsB, ↓oIx, ↓cLen, ↓lenQ, ↓D.len?, ↓cAbs, ↓cInt, ↓cMax2, ↓cMin2, ↓cGcd, ↓cSum, ↓cStr, ↓okEq_int, ↓okEq_bl, ↓okEq_non, ↓eqD_int, ↓eqD_bl, ↓eqD_intTup, ↓atI0, ↓atI1, ↓atI2, ↓atI3, ↓ty_int, ↓ty_bl, ↓ty_non, ↓ty_str, ↓ty_tup, ↓ty_lst, ↓endsOf, List.length_cons, List.length_nil, List.map_cons, List.map_nil, Bool.not_true, Bool.not_false, Bool.true_and, Bool.and_true, Bool.false_and, Bool.or_true, Bool.true_or, Bool.false_or, Bool.or_false, ite_true, ite_false, if_true, if_false, Bool.false_eq_true, reduceCtorEq, decide_true, decide_false, true_and, and_true, Bool.not_not, Option.isSome_some, if_false_left, decide_eq_true_eq, Bool.decide_eq_true, ↓isT_non_non, ↓isT_non_bool, ↓isT_non_int, ↓isT_non_str, ↓isT_non_tuple, ↓isT_non_list, ↓isT_non_dict, ↓isT_bool_non, ↓isT_bool_bool, ↓isT_bool_int, ↓isT_bool_str, ↓isT_bool_tuple, ↓isT_bool_list, ↓isT_bool_dict, ↓isT_int_non, ↓isT_int_bool, ↓isT_int_int, ↓isT_int_str, ↓isT_int_tuple, ↓isT_int_list, ↓isT_int_dict, ↓isT_str_non, ↓isT_str_bool, ↓isT_str_int, ↓isT_str_str, ↓isT_str_tuple, ↓isT_str_list, ↓isT_str_dict, ↓isT_tuple_non, ↓isT_tuple_bool, ↓isT_tuple_int, ↓isT_tuple_str, ↓isT_tuple_tuple, ↓isT_tuple_list, ↓isT_tuple_dict, ↓isT_list_non, ↓isT_list_bool, ↓isT_list_int, ↓isT_list_str, ↓isT_list_tuple, ↓isT_list_list, ↓isT_list_dict, ↓isT_dict_non, ↓isT_dict_bool, ↓isT_dict_int, ↓isT_dict_str, ↓isT_dict_tuple, ↓isT_dict_list, ↓isT_dict_dict, ↓slot_0, ↓slot_1, ↓slot_2, ↓slot_3, ↓slot_4, ↓slot_5, ↓slot_6, ↓slot_7, ↓slot_8, ↓slot_9, ↓slot_10, ↓slot_11, ↓slot_12, ↓slot_13, ↓slot_14, ↓slot_15, ↓slot_16, ↓slot_17, ↓set_0, ↓set_1, ↓set_2, ↓set_3, ↓set_4, ↓set_5, ↓set_6, ↓set_7, ↓set_8, ↓set_9, ↓set_10, ↓set_11, ↓set_12, ↓set_13, ↓set_14, ↓set_15, ↓set_16, ↓set_17, hb]; exact hR
      · simp only [↓dSeq_eq, ↓wnx_nx, ↓wnx_rt, ↓wnx_bk, ↓wnx_ct, ↓wnx_ex, ↓wlp_nx, ↓wlp_rt, ↓wlp_bk, ↓wlp_ct, ↓wlp_ex, ↓wex_nx, ↓wex_rt, ↓wex_bk, ↓wex_ct, ↓wex_ex, ↓en_nx, ↓en_rt, ↓en_ex, ↓forGo_nil, ↓forGo_cons, ↓dNext, ↓dBreak, ↓dCont, ↓dDrop, ↓dRet, ↓dRetN, ↓dIfS, ↓hName, ↓hNil, ↓hCons, ↓hTup, ↓dAsg, ↓dPar, ↓dTest, ↓dAnd, ↓dOr, ↓dNot, ↓dAndV, ↓dOrV, ↓dNotV, ↓dIf, ↓dVar, ↓dC, ↓dOp, ↓dUn, ↓dNil, ↓dCons, ↓dTup, ↓dLst, ↓dLstM, ↓dCall, ↓dCallK, ↓pick, ↓dCB, ↓dSeqI, ↓dFor, ↓dRange1, ↓dRange2, ↓dRaise, ↓dRaise0, ↓dIsi, ↓dIsi2, ↓oAdd, ↓oSubI, ↓oMulI, ↓oDivI, ↓oModI, ↓oPowI, ↓oSubB, ↓oCmpI, ↓oNeg, ↓oEq, ↓oNe, ↓oIsN, ↓oNotN, ↓oIsB, ↓oIx, ↓cLen, ↓lenQ, ↓D.len?, ↓cAbs, ↓cInt, ↓cMax2, ↓cMin2, ↓cGcd, ↓cSum, ↓cStr, ↓okEq_int, ↓okEq_bl, ↓okEq_non, ↓eqD_int, ↓eqD_bl, ↓eqD_intTup, ↓atI0, ↓atI1, ↓atI2, ↓atI3, ↓ty_int, ↓ty_bl, ↓ty_non, ↓ty_str, ↓ty_tup, ↓ty_lst, ↓endsOf, List.length_cons, List.length_nil, List.map_cons, List.map_nil, Bool.not_true, Bool.not_false, Bool.true_and, Bool.and_true, Bool.false_and, Bool.or_true, Bool.true_or, Bool.false_or, Bool.or_false, ite_true, ite_false, if_true, if_false, Bool.false_eq_true, reduceCtorEq, decide_true, decide_false, true_and, and_true, Bool.not_not, Option.isSome_some, if_false_left, decide_eq_true_eq, Bool.decide_eq_true, ↓isT_non_non, ↓isT_non_bool, ↓isT_non_int, ↓isT_non_str, ↓isT_non_tuple, ↓isT_non_list, ↓isT_non_dict, ↓isT_bool_non, ↓isT_bool_bool, ↓isT_bool_int, ↓isT_bool_str, ↓isT_bool_tuple, ↓isT_bool_list, ↓isT_bool_dict, ↓isT_int_non, ↓isT_int_bool, ↓isT_int_int, ↓isT_int_str, ↓isT_int_tuple, ↓isT_int_list, ↓isT_int_dict, ↓isT_str_non, ↓isT_str_bool, ↓isT_str_int, ↓isT_str_str, ↓isT_str_tuple, ↓isT_str_list, ↓isT_str_dict, ↓isT_tuple_non, ↓isT_tuple_bool, ↓isT_tuple_int, ↓isT_tuple_str, ↓isT_tuple_tuple, ↓isT_tuple_list, ↓isT_tuple_dict, ↓isT_list_non, ↓isT_list_bool, ↓isT_list_int, ↓isT_list_str, ↓isT_list_tuple, ↓isT_list_list, ↓isT_list_dict, ↓isT_dict_non, ↓isT_dict_bool, ↓isT_dict_int, ↓isT_dict_str, ↓isT_dict_tuple, ↓isT_dict_list, ↓isT_dict_dict, ↓slot_0, ↓slot_1, ↓slot_2, ↓slot_3, ↓slot_4, ↓slot_5, ↓slot_6, ↓slot_7, ↓slot_8, ↓slot_9, ↓slot_10, ↓slot_11, ↓slot_12, ↓slot_13, ↓slot_14, ↓slot_15, ↓slot_16, ↓slot_17, ↓set_0, ↓set_1, ↓set_2, ↓set_3, ↓set_4, ↓set_5, ↓set_6, ↓set_7, ↓set_8, ↓set_9, ↓set_10, ↓set_11, ↓set_12, ↓set_13, ↓set_14, ↓set_15, ↓set_16, ↓set_17]
        exact ⟨by decide, rfl, hR⟩
      · exact ⟨a, b, rfl, hb, hz, by show 2 ≤ 100000; decide, _, .refl _, q⟩
  · show t_law_due K sp_law_times sp_law_over sp_law_minus sp_law_plus sp_law_low (endsOf Q E) (stD w.s (pD (a, b)) (pD (c, d)) M)
    unfold t_law_due
    have m1 := sz60 hp.n1 (by decide)
    have m2 := sz60 hp.n2 (by decide)
    have m3 := sz60 hq.n1 (by decide)
    have m4 := sz60 hq.n2 (by decide)
    by_cases hz : w.isOver = true ∧ c = 0
    · unfold due5 at q
      rw [if_pos hz] at q
      refine stop_if (S' := stD w.s (pD (a, b)) (pD (c, d)) M) (fun R E hR => and_t (S' := stD w.s (pD (a, b)) (pD (c, d)) M) (fun R hR => in_w (by rw [inv_w]; exact hz.1) hR) (or_f (S' := stD w.s (pD (a, b)) (pD (c, d)) M) (fun R hR => ?_) ?_)) (fun R => ?_)
      · simp only [↓dSeq_eq, ↓wnx_nx, ↓wnx_rt, ↓wnx_bk, ↓wnx_ct, ↓wnx_ex, ↓wlp_nx, ↓wlp_rt, ↓wlp_bk, ↓wlp_ct, ↓wlp_ex, ↓wex_nx, ↓wex_rt, ↓wex_bk, ↓wex_ct, ↓wex_ex, ↓en_nx, ↓en_rt, ↓en_ex, ↓forGo_nil, ↓forGo_cons, ↓dNext, ↓dBreak, ↓dCont, ↓dDrop, ↓dRet, ↓dRetN, ↓dIfS, ↓hName, ↓hNil, ↓hCons, ↓hTup, ↓dAsg, ↓dPar, ↓dTest, ↓dAnd, ↓dOr, ↓dNot, ↓dAndV, ↓dOrV, ↓dNotV, ↓dIf, ↓dVar, ↓dC, ↓dOp, ↓dUn, ↓dNil, ↓dCons, ↓dTup, ↓dLst, ↓dLstM, ↓dCall, ↓dCallK, ↓pick, ↓dCB, ↓dSeqI, ↓dFor, ↓dRange1, ↓dRange2, ↓dRaise, ↓dRaise0, ↓dIsi, ↓dIsi2, ↓oAdd, ↓oSubI, ↓oMulI, ↓oDivI, ↓oModI, ↓oPowI, ↓oSubB, ↓oCmpI, ↓oNeg, ↓oEq, ↓oNe, ↓oIsN, ↓oNotN, ↓oIsB, ↓oIx, ↓cLen, ↓lenQ, ↓D.len?, ↓cAbs, ↓cInt, ↓cMax2, ↓cMin2, ↓cGcd, ↓cSum, ↓cStr, ↓okEq_int, ↓okEq_bl, ↓okEq_non, ↓eqD_int, ↓eqD_bl, ↓eqD_intTup, ↓atI0, ↓atI1, ↓atI2, ↓atI3, ↓ty_int, ↓ty_bl, ↓ty_non, ↓ty_str, ↓ty_tup, ↓ty_lst, ↓endsOf, List.length_cons, List.length_nil, List.map_cons, List.map_nil, Bool.not_true, Bool.not_false, Bool.true_and, Bool.and_true, Bool.false_and, Bool.or_true, Bool.true_or, Bool.false_or, Bool.or_false, ite_true, ite_false, if_true, if_false, Bool.false_eq_true, reduceCtorEq, decide_true, decide_false, true_and, and_true, Bool.not_not, Option.isSome_some, if_false_left, decide_eq_true_eq, Bool.decide_eq_true, ↓isT_non_non, ↓isT_non_bool, ↓isT_non_int, ↓isT_non_str, ↓isT_non_tuple, ↓isT_non_list, ↓isT_non_dict, ↓isT_bool_non, ↓isT_bool_bool, ↓isT_bool_int, ↓isT_bool_str, ↓isT_bool_tuple, ↓isT_bool_list, ↓isT_bool_dict, ↓isT_int_non, ↓isT_int_bool, ↓isT_int_int, ↓isT_int_str, ↓isT_int_tuple, ↓isT_int_list, ↓isT_int_dict, ↓isT_str_non, ↓isT_str_bool, ↓isT_str_int, ↓isT_str_str, ↓isT_str_tuple, ↓isT_str_list, ↓isT_str_dict, ↓isT_tuple_non, ↓isT_tuple_bool, ↓isT_tuple_int, ↓isT_tuple_str, ↓isT_tuple_tuple, ↓isT_tuple_list, ↓isT_tuple_dict, ↓isT_list_non, ↓isT_list_bool, ↓isT_list_int, ↓isT_list_str, ↓isT_list_tuple, ↓isT_list_list, ↓isT_list_dict, ↓isT_dict_non, ↓isT_dict_bool, ↓isT_dict_int, ↓isT_dict_str, ↓isT_dict_tuple, ↓isT_dict_list, ↓isT_dict_dict, ↓slot_0, ↓slot_1, ↓slot_2, ↓slot_3, ↓slot_4, ↓slot_5, ↓slot_6, ↓slot_7, ↓slot_8, ↓slot_9, ↓slot_10, ↓slot_11, ↓slot_12, ↓slot_13, ↓slot_14, ↓slot_15, ↓slot_16, ↓slot_17, ↓set_0, ↓set_1, ↓set_2, ↓set_3, ↓set_4, ↓set_5, ↓set_6, ↓set_7, ↓set_8, ↓set_9, ↓set_10, ↓set_11, ↓set_12, ↓set_13, ↓set_14, ↓set_15, ↓set_16, ↓set_17, pD, eqtI, eq01.1]; exact hR
      · have e1 : d = 1 := zero_one hq hz.2
        have e2 : c = 0 := hz.2
        simp only [↓dSeq_eq, ↓wnx_nx, ↓wnx_rt, ↓wnx_bk, ↓wnx_ct, ↓wnx_ex, ↓wlp_nx, ↓wlp_rt, ↓wlp_bk, ↓wlp_ct, ↓wlp_ex, ↓wex_nx, ↓wex_rt, ↓wex_bk, ↓wex_ct, ↓wex_ex, ↓en_nx, ↓en_rt, ↓en_ex, ↓forGo_nil, ↓forGo_cons, ↓dNext, ↓dBreak, ↓dCont, ↓dDrop, ↓dRet, ↓dRetN, ↓dIfS, ↓hName, ↓hNil, ↓hCons, ↓hTup, ↓dAsg, ↓dPar, ↓dTest, ↓dAnd, ↓dOr, ↓dNot, ↓dAndV, ↓dOrV, ↓dNotV, ↓dIf, ↓dVar, ↓dC, ↓dOp, ↓dUn, ↓dNil, ↓dCons, ↓dTup, ↓dLst, ↓dLstM, ↓dCall, ↓dCallK, ↓pick, ↓dCB, ↓dSeqI, ↓dFor, ↓dRange1, ↓dRange2, ↓dRaise, ↓dRaise0, ↓dIsi, ↓dIsi2, ↓oAdd, ↓oSubI, ↓oMulI, ↓oDivI, ↓oModI, ↓oPowI, ↓oSubB, ↓oCmpI, ↓oNeg, ↓oEq, ↓oNe, ↓oIsN, ↓oNotN, ↓oIsB, ↓oIx, ↓cLen, ↓lenQ, ↓D.len?, ↓cAbs, ↓cInt, ↓cMax2, ↓cMin2, ↓cGcd, ↓cSum, ↓cStr, ↓okEq_int, ↓okEq_bl, ↓okEq_non, ↓eqD_int, ↓eqD_bl, ↓eqD_intTup, ↓atI0, ↓atI1, ↓atI2, ↓atI3, ↓ty_int, ↓ty_bl, ↓ty_non, ↓ty_str, ↓ty_tup, ↓ty_lst, ↓endsOf, List.length_cons, List.length_nil, List.map_cons, List.map_nil, Bool.not_true, Bool.not_false, Bool.true_and, Bool.and_true, Bool.false_and, Bool.or_true, Bool.true_or, Bool.false_or, Bool.or_false, ite_true, ite_false, if_true, if_false, Bool.false_eq_true, reduceCtorEq, decide_true, decide_false, true_and, and_true, Bool.not_not, Option.isSome_some, if_false_left, decide_eq_true_eq, Bool.decide_eq_true, ↓isT_non_non, ↓isT_non_bool, ↓isT_non_int, ↓isT_non_str, ↓isT_non_tuple, ↓isT_non_list, ↓isT_non_dict, ↓isT_bool_non, ↓isT_bool_bool, ↓isT_bool_int, ↓isT_bool_str, ↓isT_bool_tuple, ↓isT_bool_list, ↓isT_bool_dict, ↓isT_int_non, ↓isT_int_bool, ↓isT_int_int, ↓isT_int_str, ↓isT_int_tuple, ↓isT_int_list, ↓isT_int_dict, ↓isT_str_non, ↓isT_str_bool, ↓isT_str_int, ↓isT_str_str, ↓isT_str_tuple, ↓isT_str_list, ↓isT_str_dict, ↓isT_tuple_non, ↓isT_tuple_bool, ↓isT_tuple_int, ↓isT_tuple_str, ↓isT_tuple_tuple, ↓isT_tuple_list, ↓isT_tuple_dict, ↓isT_list_non, ↓isT_list_bool, ↓isT_list_int, ↓isT_list_str, ↓isT_list_tuple, ↓isT_list_list, ↓isT_list_dict, ↓isT_dict_non, ↓isT_dict_bool, ↓isT_dict_int, ↓isT_dict_str, ↓isT_dict_tuple, ↓isT_dict_list, ↓isT_dict_dict, ↓slot_0, ↓slot_1, ↓slot_2, ↓slot_3, ↓slot_4, ↓slot_5, ↓slot_6, ↓slot_7, ↓slot_8, ↓slot_9, ↓slot_10, ↓slot_11, ↓slot_12, ↓slot_13, ↓slot_14, ↓slot_15, ↓slot_16, ↓slot_17, ↓set_0, ↓set_1, ↓set_2, ↓set_3, ↓set_4, ↓set_5, ↓set_6, ↓set_7, ↓set_8, ↓set_9, ↓set_10, ↓set_11, ↓set_12, ↓set_13, ↓set_14, ↓set_15, ↓set_16, ↓set_17, pD, eq01.1, eq01.2, e1, e2]
        rw [e1, e2] at hR
        exact ⟨by decide, hR⟩
      · exact ⟨by show 1 ≤ 100000; decide, _, .refl _, q⟩
    · unfold due5 at q
      rw [if_neg hz] at q
      have first : ∀ (R : Bool → DS → Prop) (E : Er → DS → Prop), R false (stD w.s (pD (a, b)) (pD (c, d)) M) → (dAnd (dTest (dOp oIn (dVar 0) (dTup (dCons (dC (.str "fraction")) (dCons (dC (.str "over")) dNil))))) (dOr (dTest (dOp oEq (dVar 2) (dC (.int 0)))) (dTest (dOp oEq (dVar 2) (dTup (dCons (dC (.int 0)) (dCons (dC (.int 1)) dNil))))))) (stD w.s (pD (a, b)) (pD (c, d)) M) R E := fun R E hR => by
        cases ho : w.isOver with
        | false => exact and_f (S' := stD w.s (pD (a, b)) (pD (c, d)) M) (fun R hR => in_w (by rw [inv_w]; exact ho) hR) hR
        | true =>
          have e2 : c ≠ 0 := fun z => hz ⟨ho, z⟩
          refine and_t (S' := stD w.s (pD (a, b)) (pD (c, d)) M) (fun R hR => in_w (by rw [inv_w]; exact ho) hR) (or_f (S' := stD w.s (pD (a, b)) (pD (c, d)) M) (fun R hR => ?_) ?_)
          · simp only [↓dSeq_eq, ↓wnx_nx, ↓wnx_rt, ↓wnx_bk, ↓wnx_ct, ↓wnx_ex, ↓wlp_nx, ↓wlp_rt, ↓wlp_bk, ↓wlp_ct, ↓wlp_ex, ↓wex_nx, ↓wex_rt, ↓wex_bk, ↓wex_ct, ↓wex_ex, ↓en_nx, ↓en_rt, ↓en_ex, ↓forGo_nil, ↓forGo_cons, ↓dNext, ↓dBreak, ↓dCont, ↓dDrop, ↓dRet, ↓dRetN, ↓dIfS, ↓hName, ↓hNil, ↓hCons, ↓hTup, ↓dAsg, ↓dPar, ↓dTest, ↓dAnd, ↓dOr, ↓dNot, ↓dAndV, ↓dOrV, ↓dNotV, ↓dIf, ↓dVar, ↓dC, ↓dOp, ↓dUn, ↓dNil, ↓dCons, ↓dTup, ↓dLst, ↓dLstM, ↓dCall, ↓dCallK, ↓pick, ↓dCB, ↓dSeqI, ↓dFor, ↓dRange1, ↓dRange2, ↓dRaise, ↓dRaise0, ↓dIsi, ↓dIsi2, ↓oAdd, ↓oSubI, ↓oMulI, ↓oDivI, ↓oModI, ↓oPowI, ↓oSubB, ↓oCmpI, ↓oNeg, ↓oEq, ↓oNe, ↓oIsN, ↓oNotN, ↓oIsB, ↓oIx, ↓cLen, ↓lenQ, ↓D.len?, ↓cAbs, ↓cInt, ↓cMax2, ↓cMin2, ↓cGcd, ↓cSum, ↓cStr, ↓okEq_int, ↓okEq_bl, ↓okEq_non, ↓eqD_int, ↓eqD_bl, ↓eqD_intTup, ↓atI0, ↓atI1, ↓atI2, ↓atI3, ↓ty_int, ↓ty_bl, ↓ty_non, ↓ty_str, ↓ty_tup, ↓ty_lst, ↓endsOf, List.length_cons, List.length_nil, List.map_cons, List.map_nil, Bool.not_true, Bool.not_false, Bool.true_and, Bool.and_true, Bool.false_and, Bool.or_true, Bool.true_or, Bool.false_or, Bool.or_false, ite_true, ite_false, if_true, if_false, Bool.false_eq_true, reduceCtorEq, decide_true, decide_false, true_and, and_true, Bool.not_not, Option.isSome_some, if_false_left, decide_eq_true_eq, Bool.decide_eq_true, ↓isT_non_non, ↓isT_non_bool, ↓isT_non_int, ↓isT_non_str, ↓isT_non_tuple, ↓isT_non_list, ↓isT_non_dict, ↓isT_bool_non, ↓isT_bool_bool, ↓isT_bool_int, ↓isT_bool_str, ↓isT_bool_tuple, ↓isT_bool_list, ↓isT_bool_dict, ↓isT_int_non, ↓isT_int_bool, ↓isT_int_int, ↓isT_int_str, ↓isT_int_tuple, ↓isT_int_list, ↓isT_int_dict, ↓isT_str_non, ↓isT_str_bool, ↓isT_str_int, ↓isT_str_str, ↓isT_str_tuple, ↓isT_str_list, ↓isT_str_dict, ↓isT_tuple_non, ↓isT_tuple_bool, ↓isT_tuple_int, ↓isT_tuple_str, ↓isT_tuple_tuple, ↓isT_tuple_list, ↓isT_tuple_dict, ↓isT_list_non, ↓isT_list_bool, ↓isT_list_int, ↓isT_list_str, ↓isT_list_tuple, ↓isT_list_list, ↓isT_list_dict, ↓isT_dict_non, ↓isT_dict_bool, ↓isT_dict_int, ↓isT_dict_str, ↓isT_dict_tuple, ↓isT_dict_list, ↓isT_dict_dict, ↓slot_0, ↓slot_1, ↓slot_2, ↓slot_3, ↓slot_4, ↓slot_5, ↓slot_6, ↓slot_7, ↓slot_8, ↓slot_9, ↓slot_10, ↓slot_11, ↓slot_12, ↓slot_13, ↓slot_14, ↓slot_15, ↓slot_16, ↓slot_17, ↓set_0, ↓set_1, ↓set_2, ↓set_3, ↓set_4, ↓set_5, ↓set_6, ↓set_7, ↓set_8, ↓set_9, ↓set_10, ↓set_11, ↓set_12, ↓set_13, ↓set_14, ↓set_15, ↓set_16, ↓set_17, pD, eqtI, eq01.1]; exact hR
          · simp only [↓dSeq_eq, ↓wnx_nx, ↓wnx_rt, ↓wnx_bk, ↓wnx_ct, ↓wnx_ex, ↓wlp_nx, ↓wlp_rt, ↓wlp_bk, ↓wlp_ct, ↓wlp_ex, ↓wex_nx, ↓wex_rt, ↓wex_bk, ↓wex_ct, ↓wex_ex, ↓en_nx, ↓en_rt, ↓en_ex, ↓forGo_nil, ↓forGo_cons, ↓dNext, ↓dBreak, ↓dCont, ↓dDrop, ↓dRet, ↓dRetN, ↓dIfS, ↓hName, ↓hNil, ↓hCons, ↓hTup, ↓dAsg, ↓dPar, ↓dTest, ↓dAnd, ↓dOr, ↓dNot, ↓dAndV, ↓dOrV, ↓dNotV, ↓dIf, ↓dVar, ↓dC, ↓dOp, ↓dUn, ↓dNil, ↓dCons, ↓dTup, ↓dLst, ↓dLstM, ↓dCall, ↓dCallK, ↓pick, ↓dCB, ↓dSeqI, ↓dFor, ↓dRange1, ↓dRange2, ↓dRaise, ↓dRaise0, ↓dIsi, ↓dIsi2, ↓oAdd, ↓oSubI, ↓oMulI, ↓oDivI, ↓oModI, ↓oPowI, ↓oSubB, ↓oCmpI, ↓oNeg, ↓oEq, ↓oNe, ↓oIsN, ↓oNotN, ↓oIsB, ↓oIx, ↓cLen, ↓lenQ, ↓D.len?, ↓cAbs, ↓cInt, ↓cMax2, ↓cMin2, ↓cGcd, ↓cSum, ↓cStr, ↓okEq_int, ↓okEq_bl, ↓okEq_non, ↓eqD_int, ↓eqD_bl, ↓eqD_intTup, ↓atI0, ↓atI1, ↓atI2, ↓atI3, ↓ty_int, ↓ty_bl, ↓ty_non, ↓ty_str, ↓ty_tup, ↓ty_lst, ↓endsOf, List.length_cons, List.length_nil, List.map_cons, List.map_nil, Bool.not_true, Bool.not_false, Bool.true_and, Bool.and_true, Bool.false_and, Bool.or_true, Bool.true_or, Bool.false_or, Bool.or_false, ite_true, ite_false, if_true, if_false, Bool.false_eq_true, reduceCtorEq, decide_true, decide_false, true_and, and_true, Bool.not_not, Option.isSome_some, if_false_left, decide_eq_true_eq, Bool.decide_eq_true, ↓isT_non_non, ↓isT_non_bool, ↓isT_non_int, ↓isT_non_str, ↓isT_non_tuple, ↓isT_non_list, ↓isT_non_dict, ↓isT_bool_non, ↓isT_bool_bool, ↓isT_bool_int, ↓isT_bool_str, ↓isT_bool_tuple, ↓isT_bool_list, ↓isT_bool_dict, ↓isT_int_non, ↓isT_int_bool, ↓isT_int_int, ↓isT_int_str, ↓isT_int_tuple, ↓isT_int_list, ↓isT_int_dict, ↓isT_str_non, ↓isT_str_bool, ↓isT_str_int, ↓isT_str_str, ↓isT_str_tuple, ↓isT_str_list, ↓isT_str_dict, ↓isT_tuple_non, ↓isT_tuple_bool, ↓isT_tuple_int, ↓isT_tuple_str, ↓isT_tuple_tuple, ↓isT_tuple_list, ↓isT_tuple_dict, ↓isT_list_non, ↓isT_list_bool, ↓isT_list_int, ↓isT_list_str, ↓isT_list_tuple, ↓isT_list_list, ↓isT_list_dict, ↓isT_dict_non, ↓isT_dict_bool, ↓isT_dict_int, ↓isT_dict_str, ↓isT_dict_tuple, ↓isT_dict_list, ↓isT_dict_dict, ↓slot_0, ↓slot_1, ↓slot_2, ↓slot_3, ↓slot_4, ↓slot_5, ↓slot_6, ↓slot_7, ↓slot_8, ↓slot_9, ↓slot_10, ↓slot_11, ↓slot_12, ↓slot_13, ↓slot_14, ↓slot_15, ↓slot_16, ↓slot_17, ↓set_0, ↓set_1, ↓set_2, ↓set_3, ↓set_4, ↓set_5, ↓set_6, ↓set_7, ↓set_8, ↓set_9, ↓set_10, ↓set_11, ↓set_12, ↓set_13, ↓set_14, ↓set_15, ↓set_16, ↓set_17, pD, eq01.1, eq01.2, e2]
            exact ⟨by decide, hR⟩
      refine skip_if first (skip_if (fun R E hR => test_str (okw w) okf (by rw [w_f]; exact hR)) ?_)
      cases w with
      | order =>
        refine stop_if (S' := stD W5.order.s (pD (a, b)) (pD (c, d)) M) (fun R E hR => test_str (okw _) okr (by rw [w_order_order]; exact hR)) (fun R => ?_)
        simp only [↓dSeq_eq, ↓wnx_nx, ↓wnx_rt, ↓wnx_bk, ↓wnx_ct, ↓wnx_ex, ↓wlp_nx, ↓wlp_rt, ↓wlp_bk, ↓wlp_ct, ↓wlp_ex, ↓wex_nx, ↓wex_rt, ↓wex_bk, ↓wex_ct, ↓wex_ex, ↓en_nx, ↓en_rt, ↓en_ex, ↓forGo_nil, ↓forGo_cons, ↓dNext, ↓dBreak, ↓dCont, ↓dDrop, ↓dRet, ↓dRetN, ↓dIfS, ↓hName, ↓hNil, ↓hCons, ↓hTup, ↓dAsg, ↓dPar, ↓dTest, ↓dAnd, ↓dOr, ↓dNot, ↓dAndV, ↓dOrV, ↓dNotV, ↓dIf, ↓dVar, ↓dC, ↓dOp, ↓dUn, ↓dNil, ↓dCons, ↓dTup, ↓dLst, ↓dLstM, ↓dCall, ↓dCallK, ↓pick, ↓dCB, ↓dSeqI, ↓dFor, ↓dRange1, ↓dRange2, ↓dRaise, ↓dRaise0, ↓dIsi, ↓dIsi2, ↓oAdd, ↓oSubI, ↓oMulI, ↓oDivI, ↓oModI, ↓oPowI, ↓oSubB, ↓oCmpI, ↓oNeg, ↓oEq, ↓oNe, ↓oIsN, ↓oNotN, ↓oIsB, ↓oIx, ↓cLen, ↓lenQ, ↓D.len?, ↓cAbs, ↓cInt, ↓cMax2, ↓cMin2, ↓cGcd, ↓cSum, ↓cStr, ↓okEq_int, ↓okEq_bl, ↓okEq_non, ↓eqD_int, ↓eqD_bl, ↓eqD_intTup, ↓atI0, ↓atI1, ↓atI2, ↓atI3, ↓ty_int, ↓ty_bl, ↓ty_non, ↓ty_str, ↓ty_tup, ↓ty_lst, ↓endsOf, List.length_cons, List.length_nil, List.map_cons, List.map_nil, Bool.not_true, Bool.not_false, Bool.true_and, Bool.and_true, Bool.false_and, Bool.or_true, Bool.true_or, Bool.false_or, Bool.or_false, ite_true, ite_false, if_true, if_false, Bool.false_eq_true, reduceCtorEq, decide_true, decide_false, true_and, and_true, Bool.not_not, Option.isSome_some, if_false_left, decide_eq_true_eq, Bool.decide_eq_true, ↓isT_non_non, ↓isT_non_bool, ↓isT_non_int, ↓isT_non_str, ↓isT_non_tuple, ↓isT_non_list, ↓isT_non_dict, ↓isT_bool_non, ↓isT_bool_bool, ↓isT_bool_int, ↓isT_bool_str, ↓isT_bool_tuple, ↓isT_bool_list, ↓isT_bool_dict, ↓isT_int_non, ↓isT_int_bool, ↓isT_int_int, ↓isT_int_str, ↓isT_int_tuple, ↓isT_int_list, ↓isT_int_dict, ↓isT_str_non, ↓isT_str_bool, ↓isT_str_int, ↓isT_str_str, ↓isT_str_tuple, ↓isT_str_list, ↓isT_str_dict, ↓isT_tuple_non, ↓isT_tuple_bool, ↓isT_tuple_int, ↓isT_tuple_str, ↓isT_tuple_tuple, ↓isT_tuple_list, ↓isT_tuple_dict, ↓isT_list_non, ↓isT_list_bool, ↓isT_list_int, ↓isT_list_str, ↓isT_list_tuple, ↓isT_list_list, ↓isT_list_dict, ↓isT_dict_non, ↓isT_dict_bool, ↓isT_dict_int, ↓isT_dict_str, ↓isT_dict_tuple, ↓isT_dict_list, ↓isT_dict_dict, ↓slot_0, ↓slot_1, ↓slot_2, ↓slot_3, ↓slot_4, ↓slot_5, ↓slot_6, ↓slot_7, ↓slot_8, ↓slot_9, ↓slot_10, ↓slot_11, ↓slot_12, ↓slot_13, ↓slot_14, ↓slot_15, ↓slot_16, ↓slot_17, ↓set_0, ↓set_1, ↓set_2, ↓set_3, ↓set_4, ↓set_5, ↓set_6, ↓set_7, ↓set_8, ↓set_9, ↓set_10, ↓set_11, ↓set_12, ↓set_13, ↓set_14, ↓set_15, ↓set_16, ↓set_17, pD]
        refine ⟨⟨m1, m4⟩, ⟨m3, m2⟩, ?_⟩
        rw [ord_eq]
        exact ⟨by decide, _, .refl _, q⟩
      | plus =>
        refine skip_if (fun R E hR => test_str (okw _) okr (by rw [w_plus_order]; exact hR)) ?_
        refine stop_if (S' := stD W5.plus.s (pD (a, b)) (pD (c, d)) M) (fun R E hR => test_str (okw _) okp (by rw [w_plus_plus]; exact hR)) (fun R => ?_)
        exact ⟨_, _, ⟨rfl, hp, hq⟩, by show 2 ≤ 100000; decide, _, .refl _, q⟩
      | minus =>
        refine skip_if (fun R E hR => test_str (okw _) okr (by rw [w_minus_order]; exact hR)) ?_
        refine skip_if (fun R E hR => test_str (okw _) okp (by rw [w_minus_plus]; exact hR)) ?_
        refine stop_if (S' := stD W5.minus.s (pD (a, b)) (pD (c, d)) M) (fun R E hR => test_str (okw _) okm (by rw [w_minus_minus]; exact hR)) (fun R => ?_)
        exact ⟨_, _, ⟨rfl, hp, hq⟩, by show 2 ≤ 100000; decide, _, .refl _, q⟩
      | times =>
        refine skip_if (fun R E hR => test_str (okw _) okr (by rw [w_times_order]; exact hR)) ?_
        refine skip_if (fun R E hR => test_str (okw _) okp (by rw [w_times_plus]; exact hR)) ?_
        refine skip_if (fun R E hR => test_str (okw _) okm (by rw [w_times_minus]; exact hR)) ?_
        show dTest _ _ _ _
        refine test_str (okw _) okt ?_
        rw [w_times_times]
        exact ⟨_, _, ⟨rfl, hp, hq⟩, by show 2 ≤ 100000; decide, _, .refl _, q⟩
      | over =>
        refine skip_if (fun R E hR => test_str (okw _) okr (by rw [w_over_order]; exact hR)) ?_
        refine skip_if (fun R E hR => test_str (okw _) okp (by rw [w_over_plus]; exact hR)) ?_
        refine skip_if (fun R E hR => test_str (okw _) okm (by rw [w_over_minus]; exact hR)) ?_
        show dTest _ _ _ _
        refine test_str (okw _) okt ?_
        rw [w_over_times]
        exact ⟨_, _, ⟨rfl, hp, hq⟩, fun z => hz ⟨rfl, z⟩, by show 2 ≤ 100000; decide, _, .refl _, q⟩
end K01
end
section
set_option maxRecDepth 100000
set_option maxHeartbeats 2000000
set_option exponentiation.threshold 100
namespace K01
open PySem PySem.Spec L2 DL
variable {K : PySem.W.Frag}
theorem forGo_n {g : TGd} {b : TSd} {ED : EndsD} {P : D → Prop} {I : Nat → DS → Prop} (step : ∀ n d S, P d → I (n + 1) S → ∀ R : DS → Prop, (∀ S', I n S' → R S') → g d S fun S1 => b (ED.wlp R) S1) (fin : ∀ S, I 0 S → ED.nx S) :
    ∀ (ds : List D) (S : DS), (∀ d ∈ ds, P d) → I ds.length S → forGo g b ED ds S
  | [], S, _, h => fin S h
  | d :: ds, S, hp, h => step ds.length d S (hp d (.head _)) h _ fun S' h' => forGo_n step fin ds S' (fun x hx => hp x (.tail _ hx)) h'
structure BI (a : Addr) (b : Nat) (M : Mst) : Prop where
  nd : NDM M
  bx : M a = some (.box b)
theorem BI.take {a : Addr} {b b' : Nat} {M : Mst} (h : BI a b M) : BI a b' (updM M a (.box b')) := ⟨h.nd.upd rfl, updM_same⟩
theorem BI.keep {a : Addr} {b : Nat} {M M' : Mst} (h : BI a b M) (k : Keep M M') (n : NDM M → NDM M') : BI a b M' := ⟨n h.nd, k a _ h.bx⟩
theorem BI.boxes {a : Addr} {b : Nat} {M M' : Mst} (h : BI a b M) (k : boxes M M') (n : NDM M') : BI a b M' := ⟨n, k a b h.bx⟩
/-- what both judges take -/
structure Jd (M : Mst) (d : D) : Prop where
  kn : known M d
  sz : ∀ a b, d = .tup [.int a, .int b] → szI 9000 b
theorem Jd.pure {M M' : Mst} {d : D} (h : ∀ M', WF 6 M' d) (s : ∀ a b, d = .tup [.int a, .int b] → szI 9000 b) : Jd M d := ⟨known_wf (h M), s⟩
theorem jd_pD {M : Mst} {p : Int × Int} {k : Nat} (h : Fr k p) (hk : k ≤ 9000) : Jd M (pD p) := ⟨⟨rfl, fun a b e => by cases e; exact ⟨rfl, rfl⟩⟩, fun a b e => by cases e; exact up_sz h.n2 hk⟩
/-! ### the judges, held against each other -/
def sp_judged : SpD := fun ds M Q _ => ∃ (a : Addr) (b : Nat) (x : Int × Int) (nm : Bool), ds = [.ref a, pD x, .bl nm] ∧ BI a (b + 6) M ∧ Fr 42 x ∧ ∀ M', BI a b M' → Q (.bl true) M'
theorem known_keep {M M' : Mst} {d : D} (k : Keep M M') (h : Val M d) : known M' d := known_wf (h.keep k).wf
/-- drawn strange values -/
theorem lc_strange {a : Addr} {b : Nat} {x : Int × Int} {nm : Bool} {Q : List D → Mst → Prop} (hx : Fr 42 x) : ∀ (ds : List D) (M : Mst) (acc : List D), BI a (b + ds.length) M → (∀ d ∈ acc, Val M d ∧ Sm d) → acc.length + ds.length ≤ 6 →
    (∀ M' acc', BI a b M' → (∀ d ∈ acc', Val M' d ∧ Sm d) → acc'.length ≤ 6 → Q acc' M') →
    lcGo (.one 5) dYes (dCall sp_law_strange (dCons (dVar 1) (dCons (dCall sp_law_take (dCons (dVar 0) (dCons (dC (.int 23)) dNil))) dNil))) [some (.ref a), some (pD x), some (.bl nm), none, none, none] [5] ds M acc Q
  | [], M, acc, hb, ha, hl, q => q M acc hb ha (by simpa using hl)
  | d :: ds, M, acc, hb, ha, hl, q => by
    unfold lcGo
    have hb' : M a = some (.box (b + ds.length + 1)) := hb.bx
    refine ⟨a, 23, b + ds.length, rfl, hb', by decide, d32 (by decide), fun k h0 h1 => ?_⟩
    refine ⟨x, k, rfl, hx, h0, h1, fun d1 M1 kp nn hv hs => ?_⟩
    have hb1 : BI a (b + ds.length) (updM M a (.box (b + ds.length))) := hb.take
    have len : acc.length + (ds.length + 1) ≤ 6 := by simpa using hl
    refine ⟨by omega, ?_⟩
    refine lc_strange hx ds M1 (acc ++ [d1]) (hb1.keep kp nn) (fun d' hd' => ?_) (by simp; omega) q
    rcases List.mem_append.mp hd' with h | h
    · obtain ⟨v, s⟩ := ha d' h
      refine ⟨?_, s⟩
      have k0 : Val (updM M a (.box (b + ds.length))) d' := by
        obtain ⟨v1, v2⟩ := v
        refine ⟨v1, ?_⟩
        have ne : ∀ p c, M p = some c → (∀ n, c ≠ .box n) → (updM M a (.box (b + ds.length))) p = some c := fun p c e n => by
          rw [updM_ne (fun z => by subst z; rw [hb'] at e; cases e; exact n _ rfl)]; exact e
        rcases v2 with h | ⟨p, e, ⟨l, hm, h⟩ | ⟨l, hm, h⟩⟩
        · exact .inl h
        · exact .inr ⟨p, e, .inl ⟨l, ne _ _ hm (fun n z => by cases z), h⟩⟩
        · exact .inr ⟨p, e, .inr ⟨l, ne _ _ hm (fun n z => by cases z), h⟩⟩
      exact k0.keep kp
    · rcases List.mem_cons.mp h with e | h
      · subst e; exact ⟨hv, hs⟩
      · cases h
theorem same_bl {n : Nat} {M : Mst} {f : Bool} {Q : D → Mst → Prop} {E} (hn : NDM M) (h : 1 ≤ n) (q : Q (.bl true) M) : sp_same n [.bl f, .bl f] M Q E := ⟨_, _, rfl, hn, .inl ⟨rfl, by cases n with
  | zero => omega
  | succ n => exact trivial, q⟩⟩
theorem p_judged (ds M Q E) (h : sp_judged ds M Q E) : t_law_judged_right K (sp_same 12) sp_law_is_own sp_is_fraction sp_law_strange sp_law_take (endsOf Q E) ⟨startD N_law_judged_right.length ds, M⟩ := by
  obtain ⟨a, b, x, nm, rfl, hb, hx, q⟩ := h
  show t_law_judged_right K (sp_same 12) sp_law_is_own sp_is_fraction sp_law_strange sp_law_take (endsOf Q E) ⟨[some (.ref a), some (pD x), some (.bl nm), none, none, none], M⟩
  unfold t_law_judged_right
  refine seq_all (α := Mst × List D) (S' := fun k => ⟨[some (.ref a), some (pD x), some (.bl nm), some (.lst k.2), none, none], k.1⟩) (P := fun k => BI a b k.1 ∧ ∀ d ∈ k.2, Jd k.1 d) (fun R hR => ?_) (fun k hk => ?_)
  · refine ⟨by decide, by show 2 ≤ 100000; decide, by show 3 ≤ 100000; decide, by decide, by decide, ?_⟩
    show lcGo (.one 5) dYes _ [some (.ref a), some (pD x), some (.bl nm), none, none, none] [5] (rangeD 0 6) M [] _
    refine lc_strange hx (rangeD 0 6) M [] hb (fun d hd => by cases hd) (by decide) fun M' acc hb' ha hl => ?_
    refine ⟨by show 3 + acc.length ≤ 100000; omega, hR (M', _) ⟨hb', fun d hd => ?_⟩⟩
    rcases List.mem_append.mp hd with h | h
    · rcases List.mem_cons.mp h with e | h
      · subst e; exact jd_pD hx (by decide)
      · rcases List.mem_cons.mp h with e | h
        · subst e; exact jd_pD (p := (0, 1)) (k := 1) ⟨by decide, by decide, by decide, by decide⟩ (by decide)
        · rcases List.mem_cons.mp h with e | h
          · subst e; exact jd_pD (neg_fr hx) (by decide)
          · cases h
    · exact ⟨known_wf (ha d h).1.wf, (ha d h).2⟩
  · obtain ⟨M1, vals⟩ := k
    obtain ⟨hb1, hv⟩ := hk
    have fin : ∀ (nm : Bool) (o : Option D), (dRet (dC (.bl true))) (endsOf Q E) ⟨[some (.ref a), some (pD x), some (.bl nm), some (.lst vals), o, none], M1⟩ := fun nm o => ⟨_, .refl _, q M1 hb1⟩
    show forGo _ _ _ vals _
    refine forGo_n (P := fun d => Jd M1 d) (I := fun _ S => ∃ nm o, S = ⟨[some (.ref a), some (pD x), some (.bl nm), some (.lst vals), o, none], M1⟩) (fun n d S hd ⟨nm, o, e⟩ R hR => ?_) (fun S ⟨nm, o, e⟩ => by subst e; exact fin nm o) vals _ hv ⟨nm, none, rfl⟩
    subst e
    show dSeq _ _ _ _
    refine skip_if (S := ⟨[some (.ref a), some (pD x), some (.bl nm), some (.lst vals), some d, none], M1⟩) (fun R E hR => ?_) (hR _ ⟨!nm, some d, rfl⟩)
    have own : ∀ Q', Q' (D.bl (isFr d)) M1 → sp_law_is_own [d] M1 Q' fun er M' => E er ⟨[some (.ref a), some (pD x), some (.bl nm), some (.lst vals), some d, none], M'⟩ := fun Q' h => ⟨d, rfl, hb1.nd, hd.kn, hd.sz, h⟩
    have rest : sp_law_is_own [d] M1 (fun d2 M' => sp_same 12 [.bl (isFr d), d2] M' (fun v M'' => match v with | .bl b => R (!b) ⟨[some (.ref a), some (pD x), some (.bl nm), some (.lst vals), some d, none], M''⟩ | _ => False) fun er M' => E er ⟨[some (.ref a), some (pD x), some (.bl nm), some (.lst vals), some d, none], M'⟩) fun er M' => E er ⟨[some (.ref a), some (pD x), some (.bl nm), some (.lst vals), some d, none], M'⟩ :=
      own _ (same_bl hb1.nd (by decide) hR)
    cases nm with
    | true => exact ⟨d, rfl, hd.kn, rest⟩
    | false => exact ⟨rfl, d, rfl, hd.kn, rest⟩
end K01
end
section
set_option maxRecDepth 100000
set_option maxHeartbeats 2000000
set_option exponentiation.threshold 100
namespace K01
open PySem PySem.Spec L2 DL
variable {K : PySem.W.Frag}
theorem good_told : goodS ("told" : Str) := ⟨by decide +kernel, by decide +kernel⟩
theorem good_zero : goodS ("zero" : Str) := ⟨by decide +kernel, by decide +kernel⟩
theorem wf_l1 {n : Nat} {M : Mst} {a : D} (ha : WF n M a) : WF (n + 1) M (.lst [a]) := ⟨by show 1 ≤ 100000; decide, all1 ha⟩
theorem wf_l2 {n : Nat} {M : Mst} {a b : D} (ha : WF n M a) (hb : WF n M b) : WF (n + 1) M (.lst [a, b]) := ⟨by show 2 ≤ 100000; decide, all2 ha hb⟩
theorem wf_zero {M : Mst} : WF 6 M zeroD := wf_l1 (pu_str good_zero M)
theorem wf_pD {n : Nat} {M : Mst} {p : Int × Int} : WF (n + 2) M (pD p) := pu_t2 pu_int pu_int M
theorem wf_told {M : Mst} {p : Int × Int} : WF 6 M (told (pD p)) := wf_l2 (pu_str good_told M) wf_pD
theorem wf_toldI {M : Mst} {i : Int} : WF 6 M (told (.int i)) := wf_l2 (pu_str good_told M) trivial
theorem wf_dueF {M : Mst} {a b : Int} : WF 6 M (dueF a b) := by
  unfold dueF
  split
  · exact wf_zero
  · exact wf_told
theorem wf_due5 {M : Mst} {w : W5} {p q : Int × Int} : WF 6 M (due5 w p q) := by
  unfold due5
  split
  · exact wf_zero
  · cases w
    · exact wf_told
    · exact wf_told
    · exact wf_told
    · exact wf_told
    · exact wf_toldI
theorem askF_int {x y : Int} {M : Mst} {k : D → Prop} (hy : szI 9000 y) (h : k (dueF x y)) : askF (.int x) (.int y) M k := by
  refine ⟨rfl, rfl, ?_⟩
  rw [if_neg (by show ¬ (true = false); decide), if_neg (by show ¬ (true = false); decide)]
  refine ⟨x, y, rfl, rfl, ?_⟩
  unfold dueF at h
  by_cases e : y = 0
  · rw [if_pos e] at h ⊢; exact h
  · rw [if_neg e] at h ⊢; exact ⟨hy, h⟩
theorem isFr_pD {k : Nat} {p : Int × Int} (h : Fr k p) : isFr (pD p) = true := by
  have e : isFr (pD p) = (decide (1 ≤ p.2) && decide ((Nat.gcd p.1.natAbs p.2.natAbs : Int) = 1)) := rfl
  rw [e, h.one, decide_eq_true (by have := h.pos; omega), Bool.true_and]
  rfl
theorem ask5_fr {w : W5} {p q : Int × Int} {M : Mst} {k : D → Prop} (hp : Fr 4400 p) (hq : Fr 4400 q) (h : k (due5 w p q)) : ask5 w (pD p) (pD q) M k := by
  refine ⟨(jd_pD hp (by decide)).kn, (jd_pD hq (by decide)).kn, ?_⟩
  rw [if_neg (by rw [isFr_pD hp]; decide), if_neg (by rw [isFr_pD hq]; decide)]
  refine ⟨p, q, rfl, rfl, hp, hq, ?_⟩
  unfold due5 at h
  by_cases e : w.isOver = true ∧ q.1 = 0
  · rw [if_pos e] at h ⊢; exact h
  · rw [if_neg e] at h ⊢; exact h
theorem share_le {x s : Int} (h0 : 0 ≤ x) (hs : 0 < s) : 0 ≤ x.fdiv s * s ∧ x.fdiv s * s ≤ x ∧ 0 ≤ x.fdiv s ∧ x.fdiv s ≤ x := by
  rw [fdiv_pos hs]
  have h1 : 0 ≤ x / s := Int.ediv_nonneg h0 (by omega)
  exact ⟨Int.mul_nonneg h1 (by omega), Int.ediv_mul_le x (by omega), h1, Int.ediv_le_self s h0⟩
def sp_made : SpD := fun ds M Q _ => ∃ (a : Addr) (b : Nat) (nm : Bool), ds = [.ref a, .bl nm] ∧ BI a (b + 15) M ∧ ∀ M', BI a b M' → Q (.bl true) M'
theorem p_made (ds M Q E) (h : sp_made ds M Q E) : t_law_made_right K (sp_same 12) sp_law_due sp_law_ask sp_law_take sp_law_integer (endsOf Q E) ⟨startD N_law_made_right.length ds, M⟩ := by
  obtain ⟨a, b, nm, rfl, hb, q⟩ := h
  show t_law_made_right K (sp_same 12) sp_law_due sp_law_ask sp_law_take sp_law_integer (endsOf Q E) ⟨[some (.ref a), some (.bl nm), none, none, none, none, none], M⟩
  unfold t_law_made_right
  refine seq_all (α := Mst × Int) (S' := fun k => ⟨[some (.ref a), some (.bl nm), some (.int k.2), none, none, none, none], k.1⟩) (P := fun k => BI a (b + 12) k.1 ∧ 1 ≤ k.2 ∧ k.2 ≤ 1000) (fun R hR => ?_) (fun k hk => ?_)
  · refine ⟨a, 9, b + 14, rfl, hb.bx, by decide, d32 (by decide), fun k1 a0 a1 => ⟨a, 1000, b + 13, rfl, updM_same, by decide, d32 (by decide), fun k2 b0 b1 => ⟨by show 3 ≤ 100000; decide, a, 3, b + 12, rfl, updM_same, by decide, d32 (by decide), fun k3 c0 c1 => ?_⟩⟩⟩
    have e : k3 = 0 ∨ k3 = 1 ∨ k3 = 2 := by omega
    have hB := (((hb.take (b' := b + 14)).take (b' := b + 13)).take (b' := b + 12))
    rcases e with rfl | rfl | rfl
    · exact hR (_, 1) ⟨hB, by show (1 : Int) ≤ 1; decide, by show (1 : Int) ≤ 1000; decide⟩
    · exact hR (_, 1 + k1) ⟨hB, by show 1 ≤ 1 + k1; omega, by show 1 + k1 ≤ 1000; omega⟩
    · exact hR (_, 1 + k2) ⟨hB, by show 1 ≤ 1 + k2; omega, by show 1 + k2 ≤ 1000; omega⟩
  obtain ⟨M1, s⟩ := k
  obtain ⟨hb1, hs1, hs2⟩ := hk
  have hs1' : 1 ≤ s := hs1
  have hs2' : s ≤ 1000 := hs2
  refine seq_all (α := Mst × Int × Int) (S' := fun k => ⟨[some (.ref a), some (.bl nm), some (.int s), some (.int k.2.1), some (.int k.2.2), none, none], k.1⟩) (P := fun k => BI a (b + 2) k.1 ∧ (0 ≤ k.2.1 ∧ k.2.1 < 1000000000000) ∧ (0 ≤ k.2.2 ∧ k.2.2 < 1000000000000)) (fun R hR => ?_) (fun k hk => ?_)
  · have cond : ∀ i : Int, i.natAbs < 1000000000000 → (s ≠ 0 ∧ szI 9000 s) ∧ (szI 60000000 ((if i < 0 then -i else i).fdiv s) ∧ szI 60000000 s) ∧ (0 ≤ (if i < 0 then -i else i).fdiv s * s ∧ (if i < 0 then -i else i).fdiv s * s < 1000000000000) := fun i hi => by
      have h0 : 0 ≤ (if i < 0 then -i else i) := by split <;> omega
      have h1 : (if i < 0 then -i else i) < 1000000000000 := by split <;> omega
      obtain ⟨s1, s2, s3, s4⟩ := share_le h0 (show 0 < s by omega)
      exact ⟨⟨by omega, d32 (by omega)⟩, ⟨sz60 (k := 42) (p42 (by omega)) (by decide), s32 (by omega)⟩, s1, by omega⟩
    exact ⟨a, b + 7, rfl, hb1.bx, fun i hi => ⟨(cond i hi).1, (cond i hi).2.1, a, b + 2, rfl, updM_same, fun j hj => ⟨(cond j hj).1, (cond j hj).2.1, hR (_, _, _) ⟨(hb1.take (b' := b + 7)).take (b' := b + 2), (cond i hi).2.2, (cond j hj).2.2⟩⟩⟩⟩
  obtain ⟨M2, t, u⟩ := k
  obtain ⟨hb2, ⟨ht0, ht1⟩, hu0, hu1⟩ := hk
  have ht0' : 0 ≤ t := ht0
  have ht1' : t < 1000000000000 := ht1
  have hu0' : 0 ≤ u := hu0
  have hu1' : u < 1000000000000 := hu1
  refine seq_all (α := Mst × Int × Int) (S' := fun k => ⟨[some (.ref a), some (.bl nm), some (.int s), some (.int k.2.1), some (.int k.2.2), none, none], k.1⟩) (P := fun k => BI a b k.1 ∧ k.2.1.natAbs < 1000000000000 ∧ k.2.2.natAbs < 1000000000000) (fun R hR => ?_) (fun k hk => ?_)
  · have sg : ∀ i : Int, 0 ≤ i → i < 1000000000000 → (szI 60000000 (-1) ∧ szI 60000000 i) ∧ (szI 60000000 1 ∧ szI 60000000 i) := fun i h0 h1 => by
      have : szI 60000000 i := sz60 (k := 42) (p42 (by omega)) (by decide)
      exact ⟨⟨s32 (by decide), this⟩, s32 (by decide), this⟩
    have two : ∀ k : Int, 0 ≤ k → k < 2 → k = 0 ∨ k = 1 := fun k h0 h1 => by omega
    have hB : BI a b (updM (updM M2 a (.box (b + 1))) a (.box b)) := (hb2.take (b' := b + 1)).take (b' := b)
    refine ⟨by show 2 ≤ 100000; decide, a, 2, b + 1, rfl, hb2.bx, by decide, d32 (by decide), fun k1 a0 a1 => ?_⟩
    rcases two k1 a0 a1 with rfl | rfl
    · refine ⟨(sg t ht0 ht1).1, by show 2 ≤ 100000; decide, a, 2, b, rfl, updM_same, by decide, d32 (by decide), fun k2 b0 b1 => ?_⟩
      rcases two k2 b0 b1 with rfl | rfl
      · exact ⟨(sg u hu0 hu1).1, hR (_, -1 * t, -1 * u) ⟨hB, by show (-1 * t).natAbs < _; omega, by show (-1 * u).natAbs < _; omega⟩⟩
      · exact ⟨(sg u hu0 hu1).2, hR (_, -1 * t, 1 * u) ⟨hB, by show (-1 * t).natAbs < _; omega, by show (1 * u).natAbs < _; omega⟩⟩
    · refine ⟨(sg t ht0 ht1).2, by show 2 ≤ 100000; decide, a, 2, b, rfl, updM_same, by decide, d32 (by decide), fun k2 b0 b1 => ?_⟩
      rcases two k2 b0 b1 with rfl | rfl
      · exact ⟨(sg u hu0 hu1).1, hR (_, 1 * t, -1 * u) ⟨hB, by show (1 * t).natAbs < _; omega, by show (-1 * u).natAbs < _; omega⟩⟩
      · exact ⟨(sg u hu0 hu1).2, hR (_, 1 * t, 1 * u) ⟨hB, by show (1 * t).natAbs < _; omega, by show (1 * u).natAbs < _; omega⟩⟩
  obtain ⟨M3, t, u⟩ := k
  obtain ⟨hb3, ht, hu⟩ := hk
  have ht' : t.natAbs < 1000000000000 := ht
  have hu' : u.natAbs < 1000000000000 := hu
  refine ⟨by show 2 ≤ 100000; decide, by show 2 ≤ 100000; decide, by show 2 ≤ 100000; decide, by show 2 ≤ 100000; decide, by show 2 ≤ 100000; decide, by show 2 ≤ 100000; decide, by show 6 ≤ 100000; decide, ?_⟩
  refine forGo_n (P := fun d => ∃ x y : Int, d = .tup [.int x, .int y] ∧ szI 9000 y) (I := fun _ S => ∃ nm o5 o6, S = ⟨[some (.ref a), some (.bl nm), some (.int s), some (.int t), some (.int u), o5, o6], M3⟩) (fun n d S ⟨x, y, ed, hy⟩ ⟨nm, o5, o6, e⟩ R hR => ?_) (fun S ⟨nm, o5, o6, e⟩ => by subst e; exact ⟨_, .refl _, q M3 hb3⟩) [.tup [.int t, .int u], .tup [.int u, .int t], .tup [.int t, .int (-t)], .tup [.int 0, .int u], .tup [.int t, .int 0], .tup [.int t, .int 1]] _ (fun d hd => ?_) ⟨nm, none, none, rfl⟩
  · have bt : szI 9000 t := up_sz (p42 ht') (by decide)
    have bu : szI 9000 u := up_sz (p42 hu') (by decide)
    have bn : szI 9000 (-t) := by unfold szI; rw [Int.natAbs_neg]; exact bt
    simp only [List.mem_cons, List.not_mem_nil, or_false] at hd
    rcases hd with e | e | e | e | e | e
    · exact ⟨_, _, e, bu⟩
    · exact ⟨_, _, e, bt⟩
    · exact ⟨_, _, e, bn⟩
    · exact ⟨_, _, e, bu⟩
    · exact ⟨_, _, e, d32 (by decide)⟩
    · exact ⟨_, _, e, d32 (by decide)⟩
  · subst e ed
    refine ⟨rfl, ?_⟩
    simp only [hCons, hName, hNil, set_5, set_6]
    refine skip_if (fun R E hR => ?_) (hR _ ⟨!nm, _, _, rfl⟩)
    have fin : sp_same 12 [dueF x y, dueF x y] M3 (fun v M'' => match v with | .bl b => R (!b) ⟨[some (.ref a), some (.bl nm), some (.int s), some (.int t), some (.int u), some (.int x), some (.int y)], M''⟩ | _ => False) (fun er M' => E er ⟨[some (.ref a), some (.bl nm), some (.int s), some (.int t), some (.int u), some (.int x), some (.int y)], M'⟩) :=
      same_eq hb3.nd wf_dueF (by decide) hR
    exact ⟨.int x, .int y, nm, .inl ⟨rfl, askF_int hy (.inl ⟨x, y, rfl, hy, fin⟩)⟩⟩
end K01
end
section
set_option maxRecDepth 100000
set_option maxHeartbeats 2000000
set_option exponentiation.threshold 100
namespace K01
open PySem PySem.Spec L2 DL
variable {K : PySem.W.Frag}
theorem bi_down {a : Addr} {b c : Nat} {M : Mst} (h : BI a c M) (l : b ≤ c) : MLe (updM M a (.box b)) M ∧ BI a b (updM M a (.box b)) := by
  refine ⟨fun x cc e => ?_, h.nd.upd rfl, updM_same⟩
  by_cases z : x = a
  · subst z
    rw [updM_same] at e
    cases e
    exact ⟨_, h.bx, l⟩
  · rw [updM_ne z] at e
    exact ⟨cc, e, .refl _⟩
def W5.isOrd : W5 → Bool
  | .order => true
  | _ => false
theorem ord_w (w : W5) : decide (w.s = "order") = w.isOrd := by cases w <;> decide +kernel
theorem ok_told : okEq (.str "told") = true := by decide +kernel
theorem ok_zero : okEq (.str "zero") = true := by decide +kernel
theorem zt : decide (("zero" : Str) = "told") = false := by decide +kernel
theorem tt_ : decide (("told" : Str) = "told") = true := by decide +kernel
theorem due_case {k : Nat} (w : W5) {p q : Int × Int} (hp : Fr k p) (hq : Fr k q) : due5 w p q = zeroD ∨ (w.isOrd = true ∧ ∃ i, due5 w p q = told (.int i)) ∨ (w.isOrd = false ∧ ∃ r, due5 w p q = told (pD r) ∧ Fr (2 * k + 1) r) := by
  unfold due5
  by_cases h : w.isOver = true ∧ q.1 = 0
  · rw [if_pos h]; exact .inl rfl
  · rw [if_neg h]
    cases w with
    | plus => exact .inr (.inr ⟨rfl, _, rfl, plus_fr hp hq⟩)
    | minus => exact .inr (.inr ⟨rfl, _, rfl, minus_fr hp hq⟩)
    | times => exact .inr (.inr ⟨rfl, _, rfl, times_fr hp hq⟩)
    | over => exact .inr (.inr ⟨rfl, _, rfl, over_fr hp hq fun z => h ⟨rfl, z⟩⟩)
    | order => exact .inr (.inl ⟨rfl, _, rfl⟩)
def words : List D := [.str "plus", .str "minus", .str "times", .str "over", .str "order"]
theorem word_of {d : D} (h : d ∈ words) : ∃ w : W5, d = .str w.s := by
  simp only [words, List.mem_cons, List.not_mem_nil, or_false] at h
  rcases h with e | e | e | e | e
  · exact ⟨.plus, e⟩
  · exact ⟨.minus, e⟩
  · exact ⟨.times, e⟩
  · exact ⟨.over, e⟩
  · exact ⟨.order, e⟩
def sp_chain : SpD := fun ds M Q _ => ∃ (a : Addr) (b : Nat) (x y : Int × Int) (nm : Bool), ds = [.ref a, pD x, pD y, .bl nm] ∧ BI a (b + 84) M ∧ Fr 42 x ∧ Fr 42 y ∧ ∀ M', BI a b M' → Q (.bl true) M'
abbrev stC (a : Addr) (x y : Int × Int) (nm : Bool) (f : Int × Int) (o5 o6 o7 : Option D) (M : Mst) : DS := ⟨[some (.ref a), some (pD x), some (pD y), some (.bl nm), some (pD f), o5, o6, o7], M⟩
theorem ask_due {w : W5} {x y f : Int × Int} {nm : Bool} {a : Addr} {o5 o7 : Option D} {M : Mst} {k : Nat} (hx : Fr k x) (hy : Fr k y) (hk : k ≤ 4400) (hn : NDM M) {R : Bool → DS → Prop} {E : Er → DS → Prop} (h : R false (stC a x y nm f o5 (some (.str w.s)) o7 M)) :
    sp_law_ask [.str w.s, pD x, pD y, .bl nm] M (fun d M' => sp_law_due [.str w.s, pD x, pD y] M' (fun d2 M'' => sp_same 12 [d, d2] M'' (fun v M3 => match v with | .bl b => R (!b) (stC a x y nm f o5 (some (.str w.s)) o7 M3) | _ => False) fun er M' => E er (stC a x y nm f o5 (some (.str w.s)) o7 M')) fun er M' => E er (stC a x y nm f o5 (some (.str w.s)) o7 M')) fun er M' => E er (stC a x y nm f o5 (some (.str w.s)) o7 M') :=
  ⟨_, _, nm, .inr ⟨w, rfl, ask5_fr (hx.mono hk) (hy.mono hk) (.inr ⟨w, x, y, rfl, hx.mono hk, hy.mono hk, same_eq hn wf_due5 (by decide) h⟩)⟩⟩
theorem ask_same {w : W5} {x y f : Int × Int} {nm : Bool} {a : Addr} {o5 : Option D} {M : Mst} {k : Nat} (hx : Fr k x) (hy : Fr k y) (hk : k ≤ 4400) (hn : NDM M) {R : Bool → DS → Prop} {E : Er → DS → Prop} (h : R false (stC a x y nm f o5 (some (.str w.s)) (some (due5 w x y)) M)) :
    sp_law_ask [.str w.s, pD x, pD y, .bl nm] M (fun d M' => sp_same 12 [d, due5 w x y] M' (fun v M3 => match v with | .bl b => R (!b) (stC a x y nm f o5 (some (.str w.s)) (some (due5 w x y)) M3) | _ => False) fun er M' => E er (stC a x y nm f o5 (some (.str w.s)) (some (due5 w x y)) M')) fun er M' => E er (stC a x y nm f o5 (some (.str w.s)) (some (due5 w x y)) M') :=
  ⟨_, _, nm, .inr ⟨w, rfl, ask5_fr (hx.mono hk) (hy.mono hk) (same_eq hn wf_due5 (by decide) h)⟩⟩
theorem p_chain (ds M Q E) (h : sp_chain ds M Q E) : t_law_chain_right K (sp_same 12) sp_law_due sp_law_ask sp_law_take sp_law_beside (endsOf Q E) ⟨startD N_law_chain_right.length ds, M⟩ := by
  obtain ⟨a, b, x, y, nm, rfl, hb, hx, hy, q⟩ := h
  show t_law_chain_right K (sp_same 12) sp_law_due sp_law_ask sp_law_take sp_law_beside (endsOf Q E) ⟨[some (.ref a), some (pD x), some (pD y), some (.bl nm), none, none, none, none], M⟩
  unfold t_law_chain_right
  refine seq_to (S' := stC a x y nm x none none none M) (fun R hR => hR) ?_
  refine seq_all (α := (Int × Int) × (Int × Int) × Bool × (Option D × Option D × Option D) × Mst) (S' := fun k => stC a k.1 k.2.1 k.2.2.1 x k.2.2.2.1.1 k.2.2.2.1.2.1 k.2.2.2.1.2.2 k.2.2.2.2) (P := fun k => ∃ c j, b ≤ c ∧ BI a c k.2.2.2.2 ∧ Fr j k.1 ∧ Fr j k.2.1 ∧ j ≤ 4400) (fun R hR => ?_) (fun k hk => ?_)
  · refine ⟨by decide, by decide, ?_⟩
    refine forGo_n (P := fun d => ∃ i : Int, d = .int i ∧ 0 ≤ i) (I := fun n S => ∃ x' y' nm o5 o6 o7 M' c j, S = stC a x' y' nm x o5 o6 o7 M' ∧ b + 14 * n ≤ c ∧ BI a c M' ∧ Fr j x' ∧ Fr j y' ∧ (j + 1) * 2 ^ n ≤ 2880 ∧ 42 ≤ j) (fun n d S ⟨i, ed, hi⟩ ⟨x', y', nm, o5, o6, o7, M', c, j, es, hc, hB, hx', hy', hj, hj42⟩ R hR0 => ?_)
      (fun S ⟨x', y', nm, o5, o6, o7, M', c, j, es, hc, hB, hx', hy', hj, _⟩ => by subst es; exact hR (x', y', nm, (o5, o6, o7), M') ⟨c, j, by omega, hB, hx', hy', by omega⟩) (rangeD 0 6) _ (fun d hd => ?_) ⟨x, y, nm, none, none, none, M, b + 84, 42, rfl, by show b + 14 * 6 ≤ b + 84; omega, hb, hx, hy, by decide, by decide⟩
    · obtain ⟨k, _, e⟩ := rangeD_mem hd
      exact ⟨_, e, by omega⟩
    · subst es ed
      have hj2 : (2 * j + 1 + 1) * 2 ^ n ≤ 2880 := by
        have e : (2 * j + 1 + 1) * 2 ^ n = (j + 1) * 2 ^ (n + 1) := by rw [Nat.pow_succ, Nat.mul_comm (2 ^ n) 2, ← Nat.mul_assoc]; congr 1; omega
        rw [e]; exact hj
      have hjk : j ≤ 4400 := by
        have p : 1 ≤ 2 ^ (n + 1) := Nat.one_le_two_pow
        have : (j + 1) * 1 ≤ (j + 1) * 2 ^ (n + 1) := Nat.mul_le_mul_left _ p
        omega
      have hj1 : (j + 1) * 2 ^ n ≤ 2880 := by
        have p : 2 ^ n ≤ 2 ^ (n + 1) := Nat.pow_le_pow_right (by decide) (by omega)
        exact Nat.le_trans (Nat.mul_le_mul_left _ p) hj
      refine seq_all (α := W5 × Nat × Mst) (S' := fun k => stC a x' y' nm x (some (.int i)) (some (.str k.1.s)) o7 k.2.2) (P := fun k => b + 14 * n + 13 ≤ k.2.1 ∧ BI a k.2.1 k.2.2) (fun R hR => ?_) (fun k hk => ?_)
      · refine ⟨by show 5 ≤ 100000; decide, ?_⟩
        by_cases h0 : 0 < i
        · show (if decide (0 < i) = true then _ else _)
          rw [if_pos (decide_eq_true h0)]
          obtain ⟨c', rfl⟩ : ∃ c', c = c' + 1 := ⟨c - 1, by omega⟩
          refine ⟨a, 5, c', rfl, hB.bx, by decide, d32 (by decide), fun k a0 a1 => ?_⟩
          have e : k = 0 ∨ k = 1 ∨ k = 2 ∨ k = 3 ∨ k = 4 := by omega
          have hB1 : BI a c' (updM M' a (.box c')) := hB.take
          rcases e with rfl | rfl | rfl | rfl | rfl
          · exact hR (.plus, c', _) ⟨by show b + 14 * n + 13 ≤ c'; omega, hB1⟩
          · exact hR (.minus, c', _) ⟨by show b + 14 * n + 13 ≤ c'; omega, hB1⟩
          · exact hR (.times, c', _) ⟨by show b + 14 * n + 13 ≤ c'; omega, hB1⟩
          · exact hR (.over, c', _) ⟨by show b + 14 * n + 13 ≤ c'; omega, hB1⟩
          · exact hR (.order, c', _) ⟨by show b + 14 * n + 13 ≤ c'; omega, hB1⟩
        · show (if decide (0 < i) = true then _ else _)
          rw [if_neg (by rw [decide_eq_false h0]; decide)]
          exact hR (.over, c, M') ⟨by show b + 14 * n + 13 ≤ c; omega, hB⟩
      obtain ⟨w, c1, M1⟩ := k
      obtain ⟨hc1, hB1⟩ := hk
      refine seq_to (S' := stC a x' y' nm x (some (.int i)) (some (.str w.s)) (some (due5 w x' y')) M1) (fun R hR => ?_) ?_
      · exact .inr ⟨w, x', y', rfl, hx'.mono hjk, hy'.mono hjk, hR⟩
      refine skip_if (S := stC a x' y' nm x (some (.int i)) (some (.str w.s)) (some (due5 w x' y')) M1) (fun R E hR => ask_same (E := E) hx' hy' hjk hB1.nd hR) ?_
      refine seq_all (α := (Int × Int) × (Int × Int) × Nat × Mst) (S' := fun k => stC a k.1 k.2.1 nm x (some (.int i)) (some (.str w.s)) (some (due5 w x' y')) k.2.2.2) (P := fun k => b + 14 * n ≤ k.2.2.1 ∧ BI a k.2.2.1 k.2.2.2 ∧ Fr (2 * j + 1) k.1 ∧ Fr (2 * j + 1) k.2.1) (fun R hR => ?_) (fun k hk => ?_)
      · have stay := hR (x', y', c1, M1) ⟨by show b + 14 * n ≤ c1; have : b + 14 * n + 13 ≤ c1 := hc1; omega, hB1, hx'.mono (by omega), hy'.mono (by omega)⟩
        rcases due_case w hx' hy' with e | ⟨ho, iv, e⟩ | ⟨ho, r, e, hr⟩
        · rw [e] at stay ⊢
          exact if_f (S' := stC a x' y' nm x (some (.int i)) (some (.str w.s)) (some zeroD) M1) (fun R hR => and_f (S' := stC a x' y' nm x (some (.int i)) (some (.str w.s)) (some zeroD) M1) (fun R hR => ⟨⟨ok_zero, ok_told⟩, by rw [eqD_str, zt]; exact hR⟩) hR) stay
        · rw [e] at stay ⊢
          exact if_f (S' := stC a x' y' nm x (some (.int i)) (some (.str w.s)) (some (told (.int iv))) M1) (fun R hR => and_t (S' := stC a x' y' nm x (some (.int i)) (some (.str w.s)) (some (told (.int iv))) M1) (fun R hR => ⟨⟨ok_told, ok_told⟩, by rw [eqD_str, tt_]; exact hR⟩) ⟨⟨okw w, okr⟩, by rw [eqD_str, ord_w, ho]; exact hR⟩) stay
        · rw [e] at hR ⊢
          refine if_t (S' := stC a x' y' nm x (some (.int i)) (some (.str w.s)) (some (told (pD r))) M1) (fun R hR => and_t (S' := stC a x' y' nm x (some (.int i)) (some (.str w.s)) (some (told (pD r))) M1) (fun R hR => ⟨⟨ok_told, ok_told⟩, by rw [eqD_str, tt_]; exact hR⟩) ⟨⟨okw w, okr⟩, by rw [eqD_str, ord_w, ho]; exact hR⟩) ?_
          have hc1' : b + 14 * n + 13 ≤ c1 := hc1
          obtain ⟨c2, rfl⟩ : ∃ c2, c1 = c2 + 12 + 1 := ⟨c1 - 13, by omega⟩
          refine ⟨a, 2, c2 + 12, rfl, hB1.bx, by decide, d32 (by decide), fun k a0 a1 => ⟨⟨rfl, rfl⟩, ?_⟩⟩
          have e2 : k = 0 ∨ k = 1 := by omega
          have hB2 : BI a (c2 + 12) (updM M1 a (.box (c2 + 12))) := hB1.take
          rcases e2 with rfl | rfl
          · refine ⟨a, c2, x, rfl, hB2.bx, hx, fun p hp => ⟨by show 2 ≤ 100000; decide, rfl, ?_⟩⟩
            have hp2 : Fr (2 * j + 1) p := hp.mono (by omega)
            exact hR (r, p, c2, _) ⟨by show b + 14 * n ≤ c2; omega, hB2.take, hr, hp2⟩
          · exact ⟨by show 2 ≤ 100000; decide, rfl, hR (y', r, c2 + 12, _) ⟨by show b + 14 * n ≤ c2 + 12; omega, hB2, hy'.mono (by omega), hr⟩⟩
      obtain ⟨x2, y2, c2, M2⟩ := k
      obtain ⟨hc2, hB2, hx2, hy2⟩ := hk
      exact hR0 _ ⟨x2, y2, !nm, _, _, _, M2, c2, 2 * j + 1, rfl, hc2, hB2, hx2, hy2, hj2, by omega⟩
  · obtain ⟨x1, y1, nm1, ⟨o5, o6, o7⟩, M1⟩ := k
    obtain ⟨c, j, hc, hB, hx1, hy1, hj⟩ := hk
    refine ⟨by show 5 ≤ 100000; decide, ?_⟩
    obtain ⟨m1, m2⟩ := bi_down hB hc
    refine forGo_n (P := fun d => ∃ w : W5, d = .str w.s) (I := fun _ S => ∃ o6, S = stC a x1 y1 nm1 x o5 o6 o7 M1) (fun n d S ⟨w, ed⟩ ⟨o6, es⟩ R hR => ?_) (fun S ⟨o6, es⟩ => by subst es; exact ⟨_, m1, q _ m2⟩) words _ (fun d hd => word_of hd) ⟨o6, rfl⟩
    subst ed es
    exact if_f (S' := stC a x1 y1 nm1 x o5 (some (.str w.s)) o7 M1) (fun R hR => ask_due (E := fun er S => E er S.M) hx1 hy1 hj hB.nd hR) (hR _ ⟨_, rfl⟩)
end K01
end
section
set_option maxRecDepth 100000
set_option maxHeartbeats 2000000
set_option exponentiation.threshold 100
namespace K01
open PySem PySem.Spec L2 DL
variable {K : PySem.W.Frag}
theorem ok_inv : okEq (.str "invalid") = true := by decide +kernel
theorem ok_intg : okEq (.str "integer") = true := by decide +kernel
theorem ii : decide (("invalid" : Str) = "invalid") = true := by decide +kernel
theorem gg : decide (("integer" : Str) = "integer") = true := by decide +kernel
def sp_refused : SpD := fun ds M Q _ => ∃ (a : Addr) (b : Nat) (x : Int × Int) (nm : Bool), ds = [.ref a, pD x, .bl nm] ∧ BI a (b + 12) M ∧ Fr 42 x ∧ ∀ M', BI a b M' → Q (.bl true) M'
abbrev stR (a : Addr) (x : Int × Int) (nm : Bool) (o : List (Option D)) (M : Mst) : DS := ⟨some (.ref a) :: some (pD x) :: some (.bl nm) :: o, M⟩
theorem val_known {M : Mst} {d : D} (h : Val M d) : known M d := known_wf h.wf
theorem Keep.obj {M M' : Mst} {d : D} (k : Keep M M') (h : Val M d) : Val M' d := h.keep k
/-- what the four ways ask: the wrong one is told -/
theorem ask_wrong {w : W5} {x y v : D} {nm : Bool} {M : Mst} {Q : D → Mst → Prop} {E} (hx : known M x) (hy : known M y) (h : (isFr x = false ∧ v = x) ∨ (isFr x = true ∧ isFr y = false ∧ v = y)) (q : Q (inv v) M) : sp_law_ask [.str w.s, x, y, .bl nm] M Q E := by
  refine ⟨x, y, nm, .inr ⟨w, rfl, hx, hy, ?_⟩⟩
  rcases h with ⟨e, rfl⟩ | ⟨e1, e2, rfl⟩
  · rw [if_pos e]; exact q
  · rw [if_neg (by rw [e1]; decide), if_pos e2]; exact q
theorem ask_wrongF {x y v : D} {nm : Bool} {M : Mst} {Q : D → Mst → Prop} {E} (hx : (x.ty M).isSome = true) (hy : (y.ty M).isSome = true) (h : (isInt x = false ∧ v = x) ∨ (isInt x = true ∧ isInt y = false ∧ v = y)) (q : Q (intg v) M) : sp_law_ask [.str "fraction", x, y, .bl nm] M Q E := by
  refine ⟨x, y, nm, .inl ⟨rfl, hx, hy, ?_⟩⟩
  rcases h with ⟨e, rfl⟩ | ⟨e1, e2, rfl⟩
  · rw [if_pos e]; exact q
  · rw [if_neg (by rw [e1]; decide), if_pos e2]; exact q
theorem if_all {α : Type} {c : TTd} {t u : TSd} {D : EndsD} {S : DS} {S' : α → DS} {P : α → Prop} (g : ∀ R : Bool → DS → Prop, (∀ x, P x → R false (S' x)) → c S R D.ex) (h : ∀ x, P x → u D (S' x)) : dIfS c t u D S :=
  g _ fun x hx => by show (if false = true then _ else _); rw [if_neg (by decide)]; exact h x hx
theorem tup_fr01 : Fr 42 (0, 1) := ⟨by decide, by decide, by decide, by decide⟩
theorem isFr_of_pD {p : Int × Int} {k : Nat} (h : Fr k p) : isFr (pD p) = true := isFr_pD h
theorem p_refused (ds M Q E) (h : sp_refused ds M Q E) : t_law_refused_right K sp_law_very sp_law_ask sp_law_no_integer sp_law_take sp_law_strange (endsOf Q E) ⟨startD N_law_refused_right.length ds, M⟩ := by
  obtain ⟨a, b, x, nm, rfl, hb, hx, q⟩ := h
  show t_law_refused_right K sp_law_very sp_law_ask sp_law_no_integer sp_law_take sp_law_strange (endsOf Q E) (stR a x nm [none, none, none, none, none, none, none, none, none, none, none, none] M)
  unfold t_law_refused_right
  refine seq_all (α := Bool × (Option D × Option D × Option D × Option D × Option D × Option D) × (Option D × Option D × Option D × Option D) × Mst) (S' := fun k => stR a x k.1 [k.2.1.1, k.2.1.2.1, k.2.1.2.2.1, k.2.1.2.2.2.1, k.2.1.2.2.2.2.1, k.2.1.2.2.2.2.2, k.2.2.1.1, k.2.2.1.2.1, k.2.2.1.2.2.1, k.2.2.1.2.2.2, none, none] k.2.2.2) (P := fun k => BI a (b + 2) k.2.2.2) (fun R hR => ?_) (fun k hk => ?_)
  · refine ⟨by show 5 ≤ 100000; decide, ?_⟩
    refine forGo_n (P := fun d => ∃ w : W5, d = .str w.s) (I := fun n S => ∃ nm o3 o4 o5 o6 o7 o8 o9 o10 o11 o12 M', S = stR a x nm [o3, o4, o5, o6, o7, o8, o9, o10, o11, o12, none, none] M' ∧ BI a (b + 2 + 2 * n) M') (fun n d S ⟨w, ed⟩ ⟨nm, o3, o4, o5, o6, o7, o8, o9, o10, o11, o12, M', es, hB⟩ R hR0 => ?_)
      (fun S ⟨nm, o3, o4, o5, o6, o7, o8, o9, o10, o11, o12, M', es, hB⟩ => by subst es; exact hR (nm, (o3, o4, o5, o6, o7, o8), (o9, o10, o11, o12), M') hB) words _ (fun d hd => word_of hd) ⟨nm, none, none, none, none, none, none, none, none, none, none, M, rfl, hb⟩
    subst ed es
    have hB' : BI a (b + 2 + 2 * n + 1 + 1) M' := hB
    refine seq_all (α := (Int × Int) × Mst) (S' := fun k => stR a x nm [some (.str w.s), some (.int k.1.1), some (.int k.1.2), o6, o7, o8, o9, o10, o11, o12, none, none] k.2) (P := fun k => BI a (b + 2 + 2 * n) k.2 ∧ (0 ≤ k.1.1 ∧ k.1.1 < 23) ∧ (0 ≤ k.1.2 ∧ k.1.2 < 23)) (fun R hR => ?_) (fun k hk => ?_)
    · exact ⟨a, 23, b + 2 + 2 * n + 1, rfl, hB'.bx, by decide, d32 (by decide), fun k1 a0 a1 => ⟨a, 23, b + 2 + 2 * n, rfl, updM_same, by decide, d32 (by decide), fun k2 b0 b1 => hR ((k1, k2), _) ⟨(hB'.take (b' := b + 2 + 2 * n + 1)).take, ⟨a0, a1⟩, b0, b1⟩⟩⟩
    obtain ⟨⟨h1, h2⟩, M1⟩ := k
    obtain ⟨hB1, hh1, hh2⟩ := hk
    refine ⟨by decide, by decide, ?_⟩
    refine forGo_n (P := fun d => ∃ i : Int, d = .int i ∧ 0 ≤ i ∧ i < 4) (I := fun _ S => ∃ nm o6 o7 o8 o9 o10 o11 o12 M', S = stR a x nm [some (.str w.s), some (.int h1), some (.int h2), o6, o7, o8, o9, o10, o11, o12, none, none] M' ∧ BI a (b + 2 + 2 * n) M') (fun n2 d S ⟨i, ed, hi0, hi4⟩ ⟨nm, o6, o7, o8, o9, o10, o11, o12, M', es, hB⟩ R hR1 => ?_)
      (fun S ⟨nm, o6, o7, o8, o9, o10, o11, o12, M', es, hB⟩ => by subst es; exact hR0 _ ⟨nm, _, _, _, o6, o7, o8, o9, o10, o11, o12, M', rfl, hB⟩) (rangeD 0 4) _ (fun d hd => ?_) ⟨nm, o6, o7, o8, o9, o10, o11, o12, M1, rfl, hB1⟩
    · obtain ⟨k, hk, e⟩ := rangeD_mem hd
      exact ⟨_, e, by omega, by omega⟩
    · subst ed es
      refine seq_all (α := (D × D) × Mst) (S' := fun k => stR a x nm [some (.str w.s), some (.int h1), some (.int h2), some (.int i), some k.1.1, some k.1.2, o9, o10, o11, o12, none, none] k.2) (P := fun k => BI a (b + 2 + 2 * n) k.2 ∧ Val k.2 k.1.1 ∧ Val k.2 k.1.2) (fun R hR => ?_) (fun k hk => ?_)
      · exact ⟨x, h1, rfl, hx, hh1.1, hh1.2, fun d1 M2 k1 n1 v1 _ => ⟨x, h2, rfl, hx, hh2.1, hh2.2, fun d2 M3 k2 n2 v2 _ => hR ((d1, d2), M3) ⟨(hB.keep k1 n1).keep k2 n2, v1.keep k2, v2⟩⟩⟩
      obtain ⟨⟨d1, d2⟩, M2⟩ := k
      obtain ⟨hB2, v1, v2⟩ := hk
      have kx : known M2 (pD x) := (jd_pD hx (by decide)).kn
      have k01 : known M2 (pD (0, 1)) := (jd_pD tup_fr01 (by decide)).kn
      have fx : isFr (pD x) = true := isFr_pD hx
      have f01 : isFr (pD (0, 1)) = true := isFr_pD tup_fr01
      refine seq_all (α := D × D × D) (S' := fun k => stR a x nm [some (.str w.s), some (.int h1), some (.int h2), some (.int i), some d1, some d2, some k.1, some k.2.1, some k.2.2, o12, none, none] M2) (P := fun k => known M2 k.1 ∧ known M2 k.2.1 ∧ ((isFr k.1 = false ∧ k.2.2 = k.1) ∨ (isFr k.1 = true ∧ isFr k.2.1 = false ∧ k.2.2 = k.2.1)) ∧ Val M2 k.2.2) (fun R hR => ?_) (fun k hk => ?_)
      · refine ⟨by show 3 ≤ 100000; decide, by show 3 ≤ 100000; decide, by show 3 ≤ 100000; decide, by show 2 ≤ 100000; decide, by show 3 ≤ 100000; decide, by show 4 ≤ 100000; decide, ?_⟩
        have e : i = 0 ∨ i = 1 ∨ i = 2 ∨ i = 3 := by omega
        rcases e with rfl | rfl | rfl | rfl
        · exact ⟨rfl, hR (d1, pD x, d1) ⟨val_known v1, kx, .inl ⟨v1.1, rfl⟩, v1⟩⟩
        · exact ⟨rfl, hR (pD x, d2, d2) ⟨kx, val_known v2, .inr ⟨fx, v2.1, rfl⟩, v2⟩⟩
        · exact ⟨rfl, hR (d1, d2, d1) ⟨val_known v1, val_known v2, .inl ⟨v1.1, rfl⟩, v1⟩⟩
        · exact ⟨rfl, hR (d1, pD (0, 1), d1) ⟨val_known v1, k01, .inl ⟨v1.1, rfl⟩, v1⟩⟩
      obtain ⟨p1, p2, v⟩ := k
      obtain ⟨kp1, kp2, hw, hv⟩ := hk
      refine seq_to (S' := stR a x nm [some (.str w.s), some (.int h1), some (.int h2), some (.int i), some d1, some d2, some p1, some p2, some v, some (inv v), none, none] M2) (fun R hR => ?_) ?_
      · exact ask_wrong (E := E) (v := v) (Q := fun d M' => R (stR a x nm [some (.str w.s), some (.int h1), some (.int h2), some (.int i), some d1, some d2, some p1, some p2, some v, some d, none, none] M')) kp1 kp2 hw hR
      refine seq_all (α := Mst) (S' := fun M3 => stR a x nm [some (.str w.s), some (.int h1), some (.int h2), some (.int i), some d1, some d2, some p1, some p2, some v, some (inv v), none, none] M3) (P := fun M3 => BI a (b + 2 + 2 * n) M3) (fun R hR => ?_) (fun M3 hB3 => ?_)
      · refine if_all (S' := fun M3 => stR a x nm [some (.str w.s), some (.int h1), some (.int h2), some (.int i), some d1, some d2, some p1, some p2, some v, some (inv v), none, none] M3) (P := fun M3 => BI a (b + 2 + 2 * n) M3) (fun R hR => ?_) hR
        refine or_f (S' := stR a x nm [some (.str w.s), some (.int h1), some (.int h2), some (.int i), some d1, some d2, some p1, some p2, some v, some (inv v), none, none] M2) (fun R hR => ⟨⟨ok_inv, ok_inv⟩, by rw [eqD_str, ii]; exact hR⟩) ?_
        exact ⟨v, rfl, hB2.nd, .inr hv, fun M3 bx nd => hR M3 (hB2.boxes bx nd)⟩
      exact hR1 _ ⟨!nm, _, _, _, _, _, _, _, M3, rfl, hB3⟩
  · obtain ⟨nm, ⟨o3, o4, o5, o6, o7, o8⟩, ⟨o9, o10, o11, o12⟩, M1⟩ := k
    have hB1 : BI a (b + 1 + 1) M1 := hk
    refine seq_all (α := (Int × Int) × Mst) (S' := fun k => stR a x nm [o3, some (.int k.1.1), some (.int k.1.2), o6, o7, o8, o9, o10, o11, o12, none, none] k.2) (P := fun k => BI a b k.2 ∧ (0 ≤ k.1.1 ∧ k.1.1 < 12) ∧ (0 ≤ k.1.2 ∧ k.1.2 < 12)) (fun R hR => ?_) (fun k hk => ?_)
    · exact ⟨a, 12, b + 1, rfl, hB1.bx, by decide, d32 (by decide), fun k1 a0 a1 => ⟨a, 12, b, rfl, updM_same, by decide, d32 (by decide), fun k2 b0 b1 => hR ((k1, k2), _) ⟨(hB1.take (b' := b + 1)).take, ⟨a0, a1⟩, b0, b1⟩⟩⟩
    obtain ⟨⟨h1, h2⟩, M2⟩ := k
    obtain ⟨hB2, hh1, hh2⟩ := hk
    refine ⟨by decide, by decide, ?_⟩
    refine forGo_n (P := fun d => ∃ i : Int, d = .int i ∧ 0 ≤ i ∧ i < 5) (I := fun _ S => ∃ o6 o7 o8 o11 o12 o13 o14 M', S = stR a x nm [o3, some (.int h1), some (.int h2), o6, o7, o8, o9, o10, o11, o12, o13, o14] M' ∧ BI a b M') (fun n2 d S ⟨i, ed, hi0, hi5⟩ ⟨o6, o7, o8, o11, o12, o13, o14, M', es, hB⟩ R hR1 => ?_)
      (fun S ⟨o6, o7, o8, o11, o12, o13, o14, M', es, hB⟩ => by subst es; exact ⟨_, .refl _, q M' hB⟩) (rangeD 0 5) _ (fun d hd => ?_) ⟨o6, o7, o8, o11, o12, none, none, M2, rfl, hB2⟩
    · obtain ⟨k, hk, e⟩ := rangeD_mem hd
      exact ⟨_, e, by omega, by omega⟩
    · subst ed es
      refine seq_all (α := (D × D) × Mst) (S' := fun k => stR a x nm [o3, some (.int h1), some (.int h2), some (.int i), some k.1.1, some k.1.2, o9, o10, o11, o12, o13, o14] k.2) (P := fun k => BI a b k.2 ∧ (isInt k.1.1 = false ∧ Obj k.2 k.1.1) ∧ (isInt k.1.2 = false ∧ Obj k.2 k.1.2)) (fun R hR => ?_) (fun k hk => ?_)
      · exact ⟨x, h1, rfl, hh1.1, hh1.2, fun d1 M2 k1 n1 i1 v1 => ⟨x, h2, rfl, hh2.1, hh2.2, fun d2 M3 k2 n2 i2 v2 => hR ((d1, d2), M3) ⟨(hB.keep k1 n1).keep k2 n2, ⟨i1, v1.keep k2⟩, i2, v2⟩⟩⟩
      obtain ⟨⟨d1, d2⟩, M3⟩ := k
      obtain ⟨hB3, ⟨i1, v1⟩, i2, v2⟩ := hk
      refine seq_all (α := D × D × D) (S' := fun k => stR a x nm [o3, some (.int h1), some (.int h2), some (.int i), some d1, some d2, o9, o10, some k.2.2, o12, some k.1, some k.2.1] M3) (P := fun k => (k.1.ty M3).isSome = true ∧ (k.2.1.ty M3).isSome = true ∧ ((isInt k.1 = false ∧ k.2.2 = k.1) ∨ (isInt k.1 = true ∧ isInt k.2.1 = false ∧ k.2.2 = k.2.1)) ∧ Obj M3 k.2.2) (fun R hR => ?_) (fun k hk => ?_)
      · refine ⟨by show 3 ≤ 100000; decide, by show 3 ≤ 100000; decide, by show 3 ≤ 100000; decide, by show 3 ≤ 100000; decide, by show 3 ≤ 100000; decide, by show 5 ≤ 100000; decide, ?_⟩
        have e : i = 0 ∨ i = 1 ∨ i = 2 ∨ i = 3 ∨ i = 4 := by omega
        have t1 := ty_wf v1.wf
        have t2 := ty_wf v2.wf
        rcases e with rfl | rfl | rfl | rfl | rfl
        · exact ⟨rfl, hR (d1, .int 5, d1) ⟨t1, rfl, .inl ⟨i1, rfl⟩, v1⟩⟩
        · exact ⟨rfl, hR (.int 7, d2, d2) ⟨rfl, t2, .inr ⟨rfl, i2, rfl⟩, v2⟩⟩
        · exact ⟨rfl, hR (d1, d2, d1) ⟨t1, t2, .inl ⟨i1, rfl⟩, v1⟩⟩
        · exact ⟨rfl, hR (d1, .int 0, d1) ⟨t1, rfl, .inl ⟨i1, rfl⟩, v1⟩⟩
        · exact ⟨rfl, hR (.int 0, d2, d2) ⟨rfl, t2, .inr ⟨rfl, i2, rfl⟩, v2⟩⟩
      obtain ⟨p1, p2, v⟩ := k
      obtain ⟨kp1, kp2, hw, hv⟩ := hk
      refine seq_to (S' := stR a x nm [o3, some (.int h1), some (.int h2), some (.int i), some d1, some d2, o9, o10, some v, some (intg v), some p1, some p2] M3) (fun R hR => ?_) ?_
      · exact ask_wrongF (E := E) (v := v) (Q := fun d M' => R (stR a x nm [o3, some (.int h1), some (.int h2), some (.int i), some d1, some d2, o9, o10, some v, some d, some p1, some p2] M')) kp1 kp2 hw hR
      refine if_all (S' := fun M4 => stR a x nm [o3, some (.int h1), some (.int h2), some (.int i), some d1, some d2, o9, o10, some v, some (intg v), some p1, some p2] M4) (P := fun M4 => BI a b M4) (fun R hR => ?_) (fun M4 hB4 => hR1 _ ⟨_, _, _, _, _, _, _, M4, rfl, hB4⟩)
      refine or_f (S' := stR a x nm [o3, some (.int h1), some (.int h2), some (.int i), some d1, some d2, o9, o10, some v, some (intg v), some p1, some p2] M3) (fun R hR => ⟨⟨ok_intg, ok_intg⟩, by rw [eqD_str, gg]; exact hR⟩) ?_
      exact ⟨v, rfl, hB3.nd, hv, fun M4 bx nd => hR M4 (hB3.boxes bx nd)⟩
end K01
end
section
set_option maxRecDepth 100000
set_option maxHeartbeats 2000000
set_option exponentiation.threshold 100
namespace K01
open PySem PySem.Spec L2 DL
variable {K : PySem.W.Frag}
/-- the law: whatever the script -/
def sp_law : SpD := fun ds M Q _ => ∃ l : List Int, ds = [.scr l] ∧ l.length ≤ 63 ∧ NDM M ∧ ∀ M', Q (.bl true) M'
abbrev stL (l : List Int) (o : List (Option D)) (M : Mst) : DS := ⟨some (.scr l) :: o, M⟩
theorem p_law (ds M Q E) (h : sp_law ds M Q E) : t_law K sp_refused sp_chain sp_made sp_judged sp_law_beside sp_law_fraction sp_law_take sp_law_box sp_law_cell (endsOf Q E) ⟨startD N_law.length ds, M⟩ := by
  obtain ⟨l, rfl, hl, hn, q⟩ := h
  show t_law K sp_refused sp_chain sp_made sp_judged sp_law_beside sp_law_fraction sp_law_take sp_law_box sp_law_cell (endsOf Q E) (stL l [none, none, none, none, none] M)
  unfold t_law
  refine seq_all (α := (Option D × Option D × Option D × Option D × Option D) × Mst) (S' := fun k => stL l [k.1.1, k.1.2.1, k.1.2.2.1, k.1.2.2.2.1, k.1.2.2.2.2] k.2) (P := fun _ => True) (fun R hR => ?_) (fun k _ => ⟨_, .refl _, q _⟩)
  have hm : ∃ m : Nat, m ≤ 5 ∧ (if (if ((l.length : Nat) : Int) < 5 then ((l.length : Nat) : Int) else 5) > 2 then (if ((l.length : Nat) : Int) < 5 then ((l.length : Nat) : Int) else 5) else 2) = (m : Int) := by
    by_cases h1 : ((l.length : Nat) : Int) < 5
    · rw [if_pos h1]
      by_cases h2 : ((l.length : Nat) : Int) > 2
      · rw [if_pos h2]; exact ⟨l.length, by omega, rfl⟩
      · rw [if_neg h2]; exact ⟨2, by omega, rfl⟩
    · rw [if_neg h1]; exact ⟨5, by omega, rfl⟩
  obtain ⟨m, hm5, hm⟩ := hm
  have core : forGo (hName 1) (dSeq (dAsg (dCall sp_law_box (dCons (dCall sp_law_cell (dCons (dVar 0) (dCons (dVar 1) dNil))) dNil)) (hName 2))
 (dSeq (dAsg (dOp oEq (dCall sp_law_take (dCons (dVar 2) (dCons (dC (.int 2)) dNil))) (dC (.int 0))) (hName 3))
 (dSeq (dAsg (dCall sp_law_fraction (dCons (dVar 2) dNil)) (hName 4))
 (dSeq (dAsg (dCall sp_law_beside (dCons (dVar 2) (dCons (dVar 4) dNil))) (hName 5))
 (dSeq (dIfS (dOr (dNot (dTest (dCall sp_judged (dCons (dVar 2) (dCons (dVar 4) (dCons (dVar 3) dNil)))))) (dNot (dTest (dCall sp_made (dCons (dVar 2) (dCons (dVar 3) dNil)))))) (dRet (dC (.bl false))) dNext)
 (dIfS (dOr (dNot (dTest (dCall sp_chain (dCons (dVar 2) (dCons (dVar 4) (dCons (dVar 5) (dCons (dVar 3) dNil))))))) (dNot (dTest (dCall sp_refused (dCons (dVar 2) (dCons (dVar 5) (dCons (dNotV (dVar 3)) dNil))))))) (dRet (dC (.bl false))) dNext)))))) ((endsOf Q E).wnx R) (rangeD 0 m) (stL l [none, none, none, none, none] M) := by
    refine forGo_n (P := fun d => ∃ k : Nat, d = .int (k : Int) ∧ k < 1000) (I := fun _ S => ∃ o1 o2 o3 o4 o5 M', S = stL l [o1, o2, o3, o4, o5] M' ∧ NDM M') (fun n d S ⟨k, ed, hk⟩ ⟨o1, o2, o3, o4, o5, M', es, hn⟩ R0 hR0 => ?_)
      (fun S ⟨o1, o2, o3, o4, o5, M', es, hn⟩ => by subst es; exact hR ((o1, o2, o3, o4, o5), M') trivial) (rangeD 0 m) _ (fun d hd => ?_) ⟨none, none, none, none, none, M, rfl, hn⟩
    · obtain ⟨k, hk, e⟩ := rangeD_mem hd
      exact ⟨k, e, by omega⟩
    · subst ed es
      refine seq_all (α := Addr × Mst) (S' := fun z => stL l [some (.int k), some (.ref z.1), o3, o4, o5] z.2) (P := fun z => BI z.1 boxMost z.2) (fun R hR => ?_) (fun z hz => ?_)
      · exact ⟨l, k, rfl, hk, fun i => ⟨i, rfl, fun p hp => hR (p, _) ⟨hn.upd rfl, updM_same⟩⟩⟩
      obtain ⟨a, M1⟩ := z
      obtain ⟨b, hb⟩ : ∃ b, boxMost = b + 12 + 84 + 15 + 6 + 12 + 10 + 1 := ⟨4294967296 - 140, by decide⟩
      have hB1 : BI a (b + 12 + 84 + 15 + 6 + 12 + 10 + 1) M1 := hb ▸ hz
      refine seq_all (α := Bool × Mst) (S' := fun z => stL l [some (.int k), some (.ref a), some (.bl z.1), o4, o5] z.2) (P := fun z => BI a (b + 12 + 84 + 15 + 6 + 12 + 10) z.2) (fun R hR => ?_) (fun z hz => ?_)
      · exact ⟨a, 2, b + 12 + 84 + 15 + 6 + 12 + 10, rfl, hB1.bx, by decide, d32 (by decide), fun k a0 a1 => ⟨⟨rfl, rfl⟩, hR (eqD (.int k) (.int 0), _) hB1.take⟩⟩
      obtain ⟨nm, M2⟩ := z
      refine seq_all (α := (Int × Int) × Mst) (S' := fun z => stL l [some (.int k), some (.ref a), some (.bl nm), some (pD z.1), o5] z.2) (P := fun z => BI a (b + 12 + 84 + 15 + 6 + 12) z.2 ∧ Fr 42 z.1) (fun R hR => ?_) (fun z hz2 => ?_)
      · exact ⟨a, b + 12 + 84 + 15 + 6 + 12, rfl, hz.bx, fun p hp => hR (p, _) ⟨BI.take hz, hp⟩⟩
      obtain ⟨x, M3⟩ := z
      obtain ⟨hB3, hx⟩ := hz2
      refine seq_all (α := (Int × Int) × Mst) (S' := fun z => stL l [some (.int k), some (.ref a), some (.bl nm), some (pD x), some (pD z.1)] z.2) (P := fun z => BI a (b + 12 + 84 + 15 + 6) z.2 ∧ Fr 42 z.1) (fun R hR => ?_) (fun z hz2 => ?_)
      · exact ⟨a, b + 12 + 84 + 15 + 6, x, rfl, hB3.bx, hx, fun p hp => hR (p, _) ⟨hB3.take, hp⟩⟩
      obtain ⟨y, M4⟩ := z
      obtain ⟨hB4, hy⟩ := hz2
      refine seq_all (α := Mst) (S' := fun z => stL l [some (.int k), some (.ref a), some (.bl nm), some (pD x), some (pD y)] z) (P := fun z => BI a (b + 12 + 84) z) (fun R hR => ?_) (fun M5 hB5 => ?_)
      · refine if_all (S' := fun z => stL l [some (.int k), some (.ref a), some (.bl nm), some (pD x), some (pD y)] z) (P := fun z => BI a (b + 12 + 84) z) (fun R hR => ?_) hR
        exact ⟨a, b + 12 + 84 + 15, x, nm, rfl, hB4, hx, fun M' hB' => ⟨a, b + 12 + 84, nm, rfl, hB', fun M'' hB'' => hR M'' hB''⟩⟩
      refine if_all (S' := fun z => stL l [some (.int k), some (.ref a), some (.bl nm), some (pD x), some (pD y)] z) (P := fun z => BI a b z) (fun R hR => ?_) (fun M6 hB6 => hR0 _ ⟨_, _, _, _, _, M6, rfl, hB6.nd⟩)
      exact ⟨a, b + 12, x, y, nm, rfl, hB5, hx, hy, fun M' hB' => ⟨a, b, y, !nm, rfl, hB', hy, fun M'' hB'' => hR M'' hB''⟩⟩
  have e3 := core
  rw [← Int.toNat_natCast m, ← hm] at e3
  have b1 : (if (if ((l.length : Nat) : Int) < 5 then ((l.length : Nat) : Int) else 5) > 2 then (if ((l.length : Nat) : Int) < 5 then ((l.length : Nat) : Int) else 5) else 2) < 2 ^ 62 := by
    rw [hm]
    have : (m : Int) < 4611686018427387904 := by omega
    exact this
  have b2 : -(2 ^ 62) ≤ (if (if ((l.length : Nat) : Int) < 5 then ((l.length : Nat) : Int) else 5) > 2 then (if ((l.length : Nat) : Int) < 5 then ((l.length : Nat) : Int) else 5) else 2) := by
    rw [hm]
    have : (-4611686018427387904 : Int) ≤ (m : Int) := by omega
    exact this
  exact ⟨b1, b2, e3⟩
/-! ### all defs keep their promises -/
theorem FD.bot {P : Program} {w : World} {K : PySem.W.Frag} {mg : Str → Option Value} {base : Heap} {x : Str} {st : Stmt} {f : Addr} {fd : FuncData} {ps : List Str} {k : Nat} (F : FunD K x x (defArgs st) (defBody st) (defScope st) [] [] f fd) (hm : mg x = some (.ref f)) (hb : Binds K fd ps []) :
    FD P w K mg base x st ps k fun _ _ _ _ => False :=
  ⟨f, fd, ⟨fun vs H Q E ⟨_, _, _, _, _, _, _, _, z⟩ => z.elim, fun A outer s H args us vs Q E _ _ _ _ ⟨_, _, _, _, _, _, _, _, z⟩ => z.elim⟩, F, hm, hb⟩
section
variable {P : Program} {w : World} {K : PySem.W.Frag} {mg : Str → Option Value} {base : Heap}
theorem a_same (Z : Fs P K mg) : ∀ n, FD P w K mg base "_law_same" s_law_same P_law_same n (sp_same n)
  | 0 => by
    obtain ⟨f, fd, F, hm⟩ := Z.n_law_same
    exact (FD.bot F hm (F.bindsN fun _ _ _ _ _ _ us hl => match us, hl with | [_, _], _ => rfl)).imp fun ds M Q E ⟨x, y, _, _, h⟩ => by
      rcases h with ⟨_, h, _⟩ | ⟨_, _, _, _, h, _⟩ | ⟨_, _, _, _, _, _, h, _⟩
      · exact h
      · omega
      · omega
  | n + 1 => d_law_same Z (a_same Z n) (fun ds M Q E h => by obtain ⟨x, y, rfl, _⟩ := h; rfl) p_law_same
theorem a_law (Z : Fs P K mg) : FD P w K mg base "law" s_law P_law 15 sp_law := by
  have f_whole : FD P w K mg base "is_whole" s_is_whole P_is_whole 1 sp_is_whole := d_is_whole Z (fun ds M Q E h => by obtain ⟨x, rfl, _⟩ := h; rfl) p_is_whole
  have f_ratio : FD P w K mg base "is_ratio" s_is_ratio P_is_ratio 2 sp_is_ratio := d_is_ratio Z f_whole (fun ds M Q E h => by obtain ⟨x, rfl, _⟩ := h; rfl) p_is_ratio
  have f_lowest : FD P w K mg base "lowest" s_lowest P_lowest 1 sp_lowest := d_lowest Z (fun ds M Q E h => by obtain ⟨x, y, rfl, _⟩ := h; rfl) p_lowest
  have f_add : FD P w K mg base "add" s_add P_add 2 sp_add := d_add Z f_lowest (fun ds M Q E h => by obtain ⟨x, y, ⟨rfl, _⟩, _⟩ := h; rfl) p_add
  have f_sub : FD P w K mg base "sub" s_sub P_sub 3 sp_sub := d_sub Z f_add (fun ds M Q E h => by obtain ⟨x, y, ⟨rfl, _⟩, _⟩ := h; rfl) p_sub
  have f_mul : FD P w K mg base "mul" s_mul P_mul 2 sp_mul := d_mul Z f_lowest (fun ds M Q E h => by obtain ⟨x, y, ⟨rfl, _⟩, _⟩ := h; rfl) p_mul
  have f_div : FD P w K mg base "div" s_div P_div 2 sp_div := d_div Z f_lowest (fun ds M Q E h => by obtain ⟨x, y, ⟨rfl, _⟩, _⟩ := h; rfl) p_div
  have f_compared : FD P w K mg base "compared" s_compared P_compared 1 sp_compared := d_compared Z (fun ds M Q E h => by obtain ⟨x, y, ⟨rfl, _⟩, _⟩ := h; rfl) p_compared
  have f_check : FD P w K mg base "check_fractions" s_check_fractions P_check_fractions 3 (sp_check_fractions K) := d_check_fractions Z f_ratio (fun ds M Q E h => by obtain ⟨x, y, rfl, _⟩ := h; rfl) p_check_fractions
  have f_isfr : FD P w K mg base "is_fraction" s_is_fraction P_is_fraction 3 sp_is_fraction := d_is_fraction Z f_ratio (fun ds M Q E h => by obtain ⟨x, rfl, _⟩ := h; rfl) p_is_fraction
  have f_fraction : FD P w K mg base "fraction" s_fraction P_fraction 3 (sp_fraction K) := d_fraction Z f_lowest f_whole (fun ds M Q E h => by obtain ⟨x, y, rfl, _⟩ := h; rfl) p_fraction
  have f_plus : FD P w K mg base "plus" s_plus P_plus 4 (sp_plus K) := d_plus Z f_add f_check (fun ds M Q E h => by obtain ⟨x, y, rfl, _⟩ := h; rfl) p_plus
  have f_minus : FD P w K mg base "minus" s_minus P_minus 4 (sp_minus K) := d_minus Z f_sub f_check (fun ds M Q E h => by obtain ⟨x, y, rfl, _⟩ := h; rfl) p_minus
  have f_times : FD P w K mg base "times" s_times P_times 4 (sp_times K) := d_times Z f_mul f_check (fun ds M Q E h => by obtain ⟨x, y, rfl, _⟩ := h; rfl) p_times
  have f_over : FD P w K mg base "over" s_over P_over 4 (sp_over K) := d_over Z f_div f_check (fun ds M Q E h => by obtain ⟨x, y, rfl, _⟩ := h; rfl) p_over
  have f_order : FD P w K mg base "order" s_order P_order 4 (sp_order K) := d_order Z f_compared f_check (fun ds M Q E h => by obtain ⟨x, y, rfl, _⟩ := h; rfl) p_order
  have f_cell : FD P w K mg base "_law_cell" s_law_cell P_law_cell 1 sp_law_cell := d_law_cell Z (fun ds M Q E h => by obtain ⟨x, y, rfl, _⟩ := h; rfl) p_law_cell
  have f_box : FD P w K mg base "_law_box" s_law_box P_law_box 1 sp_law_box := d_law_box Z (fun ds M Q E h => by obtain ⟨x, rfl, _⟩ := h; rfl) p_law_box
  have f_take0 : FD P w K mg base "_law_take" s_law_take P_law_take 1 sp_take0 := d_law_take Z (fun ds M Q E h => by obtain ⟨_, _, _, _, _, _, _, rfl, _⟩ := h; rfl) p_take0
  have f_take : FD P w K mg base "_law_take" s_law_take P_law_take 1 sp_law_take := f_take0.box.imp take_open
  have f_same : FD P w K mg base "_law_same" s_law_same P_law_same 12 (sp_same 12) := a_same Z 12
  have f_very : FD P w K mg base "_law_very" s_law_very P_law_very 13 sp_law_very := d_law_very Z f_same (fun ds M Q E h => by obtain ⟨x, rfl, _⟩ := h; rfl) p_law_very
  have f_low : FD P w K mg base "_law_low" s_law_low P_law_low 1 sp_law_low := d_law_low Z (fun ds M Q E h => by obtain ⟨x, y, rfl, _⟩ := h; rfl) p_law_low
  have f_lplus : FD P w K mg base "_law_plus" s_law_plus P_law_plus 2 sp_law_plus := d_law_plus Z f_low (fun ds M Q E h => by obtain ⟨x, y, ⟨rfl, _⟩, _⟩ := h; rfl) p_law_plus
  have f_lminus : FD P w K mg base "_law_minus" s_law_minus P_law_minus 2 sp_law_minus := d_law_minus Z f_low (fun ds M Q E h => by obtain ⟨x, y, ⟨rfl, _⟩, _⟩ := h; rfl) p_law_minus
  have f_ltimes : FD P w K mg base "_law_times" s_law_times P_law_times 2 sp_law_times := d_law_times Z f_low (fun ds M Q E h => by obtain ⟨x, y, ⟨rfl, _⟩, _⟩ := h; rfl) p_law_times
  have f_lover : FD P w K mg base "_law_over" s_law_over P_law_over 2 sp_law_over := d_law_over Z f_low (fun ds M Q E h => by obtain ⟨x, y, ⟨rfl, _⟩, _⟩ := h; rfl) p_law_over
  have f_integer : FD P w K mg base "_law_integer" s_law_integer P_law_integer 2 sp_law_integer := d_law_integer Z f_take (fun ds M Q E h => by obtain ⟨x, y, rfl, _⟩ := h; rfl) p_law_integer
  have f_lfraction : FD P w K mg base "_law_fraction" s_law_fraction P_law_fraction 3 sp_law_fraction := d_law_fraction Z f_low f_integer (fun ds M Q E h => by obtain ⟨x, y, rfl, _⟩ := h; rfl) p_law_fraction
  have f_beside : FD P w K mg base "_law_beside" s_law_beside P_law_beside 4 sp_law_beside := d_law_beside Z f_take f_lfraction f_low (fun ds M Q E h => by obtain ⟨_, _, _, rfl, _⟩ := h; rfl) p_law_beside
  have f_strange : FD P w K mg base "_law_strange" s_law_strange P_law_strange 1 sp_law_strange := d_law_strange Z (fun ds M Q E h => by obtain ⟨x, y, rfl, _⟩ := h; rfl) p_law_strange
  have f_noint : FD P w K mg base "_law_no_integer" s_law_no_integer P_law_no_integer 1 sp_law_no_integer := d_law_no_integer Z (fun ds M Q E h => by obtain ⟨x, y, rfl, _⟩ := h; rfl) p_law_no_integer
  have f_own : FD P w K mg base "_law_is_own" s_law_is_own P_law_is_own 13 sp_law_is_own := d_law_is_own Z f_same f_low (fun ds M Q E h => by obtain ⟨x, rfl, _⟩ := h; rfl) p_law_is_own
  have f_ask : FD P w K mg base "_law_ask" s_law_ask P_law_ask 5 sp_law_ask := d_law_ask Z f_order f_over f_times f_minus f_plus f_fraction (fun ds M Q E h => by obtain ⟨_, _, _, ⟨rfl, _⟩ | ⟨_, rfl, _⟩⟩ := h <;> rfl) (p_law_ask Z)
  have f_due : FD P w K mg base "_law_due" s_law_due P_law_due 3 sp_law_due := d_law_due Z f_ltimes f_lover f_lminus f_lplus f_low (fun ds M Q E h => by rcases h with ⟨_, _, rfl, _⟩ | ⟨_, _, _, rfl, _⟩ <;> rfl) p_law_due
  have f_judged : FD P w K mg base "_law_judged_right" s_law_judged_right P_law_judged_right 14 sp_judged := d_law_judged_right Z f_same f_own f_isfr f_strange f_take (fun ds M Q E h => by obtain ⟨_, _, _, _, rfl, _⟩ := h; rfl) p_judged
  have f_made : FD P w K mg base "_law_made_right" s_law_made_right P_law_made_right 13 sp_made := d_law_made_right Z f_same f_due f_ask f_take f_integer (fun ds M Q E h => by obtain ⟨_, _, _, rfl, _⟩ := h; rfl) p_made
  have f_chain : FD P w K mg base "_law_chain_right" s_law_chain_right P_law_chain_right 13 sp_chain := d_law_chain_right Z f_same f_due f_ask f_take f_beside (fun ds M Q E h => by obtain ⟨_, _, _, _, _, rfl, _⟩ := h; rfl) p_chain
  have f_refused : FD P w K mg base "_law_refused_right" s_law_refused_right P_law_refused_right 14 sp_refused := d_law_refused_right Z f_very f_ask f_noint f_take f_strange (fun ds M Q E h => by obtain ⟨_, _, _, _, rfl, _⟩ := h; rfl) p_refused
  exact d_law Z f_refused f_chain f_made f_judged f_beside f_lfraction f_take f_box f_cell (fun ds M Q E h => by obtain ⟨x, rfl, _⟩ := h; rfl) p_law
end
end K01
end
section
set_option maxRecDepth 100000
set_option maxHeartbeats 0
namespace K01
open PySem PySem.Spec PyProof.Rows L2 DL
def clsI (i : Nat) (q : Str) : HK.IV := match top i with
  | .ClassDef _ _ _ (st :: _) _ _ _ _ _ _ _ => some (("__init__" : Str), q, defArgs st, .stmts (defBody st), defScope st, mainGlobals, [("__class__" : Str)], builtinsNs)
  | _ => none
def fx : List HK.Fx := ([.glo "is_whole", .glo "is_ratio", .glo "lowest", .glo "add", .glo "sub", .glo "mul", .glo "div", .glo "compared"] : List HK.Fx) ++ ([.glo "check_fractions", .glo "is_fraction", .glo "fraction", .glo "plus", .glo "minus", .glo "times", .glo "over", .glo "order"] : List HK.Fx) ++ ([.glo "_law_cell", .glo "_law_box", .glo "_law_take", .glo "_law_same", .glo "_law_very", .glo "_law_low", .glo "_law_plus", .glo "_law_minus"] : List HK.Fx) ++ ([.glo "_law_times", .glo "_law_over", .glo "_law_integer", .glo "_law_fraction", .glo "_law_beside", .glo "_law_strange", .glo "_law_no_integer", .glo "_law_is_own"] : List HK.Fx) ++ ([.glo "_law_ask", .glo "_law_due", .glo "_law_judged_right", .glo "_law_made_right", .glo "_law_chain_right", .glo "_law_refused_right", .glo "law", .blt "gcd" "math.gcd"] : List HK.Fx) ++ ([.tup "ZERO" [(.int 0), (.int 1)], .err "DividedByZero", .err "InvalidFraction", .err "InvalidInteger", .free "abs", .free "bool", .free "dict", .free "int"] : List HK.Fx) ++ ([.free "isinstance", .free "len", .free "list", .free "max", .free "min", .free "range", .free "str", .free "sum"] : List HK.Fx) ++ ([.free "tuple", .xf "DividedByZero" "given", .exm "DividedByZero" "DividedByZero" true, .exm "DividedByZero" "InvalidFraction" false, .exm "DividedByZero" "InvalidInteger" false, .xf "InvalidFraction" "given", .exm "InvalidFraction" "DividedByZero" false, .exm "InvalidFraction" "InvalidFraction" true] : List HK.Fx) ++ ([.exm "InvalidFraction" "InvalidInteger" false, .xf "InvalidInteger" "given", .exm "InvalidInteger" "DividedByZero" false, .exm "InvalidInteger" "InvalidFraction" false, .exm "InvalidInteger" "InvalidInteger" true, .base "WeightError", .nul "WeightError" "DividedByZero" "DividedByZero.__init__", .pass "WeightError" "InvalidFraction"] : List HK.Fx) ++ ([.pass "WeightError" "InvalidInteger"] : List HK.Fx)
def ini : List (Str × HK.IV) := [("WeightError", clsI 2 "WeightError.__init__"), ("DividedByZero", clsI 3 "DividedByZero.__init__")]
def dd_is_whole : He.DefD := ⟨("is_whole", none), "is_whole", "is_whole", defArgs s_is_whole, defBody s_is_whole, defScope s_is_whole, [], []⟩
def dd_is_ratio : He.DefD := ⟨("is_ratio", none), "is_ratio", "is_ratio", defArgs s_is_ratio, defBody s_is_ratio, defScope s_is_ratio, [], []⟩
def dd_lowest : He.DefD := ⟨("lowest", none), "lowest", "lowest", defArgs s_lowest, defBody s_lowest, defScope s_lowest, [], []⟩
def dd_add : He.DefD := ⟨("add", none), "add", "add", defArgs s_add, defBody s_add, defScope s_add, [], []⟩
def dd_sub : He.DefD := ⟨("sub", none), "sub", "sub", defArgs s_sub, defBody s_sub, defScope s_sub, [], []⟩
def dd_mul : He.DefD := ⟨("mul", none), "mul", "mul", defArgs s_mul, defBody s_mul, defScope s_mul, [], []⟩
def dd_div : He.DefD := ⟨("div", none), "div", "div", defArgs s_div, defBody s_div, defScope s_div, [], []⟩
def dd_compared : He.DefD := ⟨("compared", none), "compared", "compared", defArgs s_compared, defBody s_compared, defScope s_compared, [], []⟩
def dd_check_fractions : He.DefD := ⟨("check_fractions", none), "check_fractions", "check_fractions", defArgs s_check_fractions, defBody s_check_fractions, defScope s_check_fractions, [], []⟩
def dd_is_fraction : He.DefD := ⟨("is_fraction", none), "is_fraction", "is_fraction", defArgs s_is_fraction, defBody s_is_fraction, defScope s_is_fraction, [], []⟩
def dd_fraction : He.DefD := ⟨("fraction", none), "fraction", "fraction", defArgs s_fraction, defBody s_fraction, defScope s_fraction, [], []⟩
def dd_plus : He.DefD := ⟨("plus", none), "plus", "plus", defArgs s_plus, defBody s_plus, defScope s_plus, [], []⟩
def dd_minus : He.DefD := ⟨("minus", none), "minus", "minus", defArgs s_minus, defBody s_minus, defScope s_minus, [], []⟩
def dd_times : He.DefD := ⟨("times", none), "times", "times", defArgs s_times, defBody s_times, defScope s_times, [], []⟩
def dd_over : He.DefD := ⟨("over", none), "over", "over", defArgs s_over, defBody s_over, defScope s_over, [], []⟩
def dd_order : He.DefD := ⟨("order", none), "order", "order", defArgs s_order, defBody s_order, defScope s_order, [], []⟩
def dd_law_cell : He.DefD := ⟨("_law_cell", none), "_law_cell", "_law_cell", defArgs s_law_cell, defBody s_law_cell, defScope s_law_cell, [], []⟩
def dd_law_box : He.DefD := ⟨("_law_box", none), "_law_box", "_law_box", defArgs s_law_box, defBody s_law_box, defScope s_law_box, [], []⟩
def dd_law_take : He.DefD := ⟨("_law_take", none), "_law_take", "_law_take", defArgs s_law_take, defBody s_law_take, defScope s_law_take, [], []⟩
def dd_law_same : He.DefD := ⟨("_law_same", none), "_law_same", "_law_same", defArgs s_law_same, defBody s_law_same, defScope s_law_same, [], []⟩
def dd_law_very : He.DefD := ⟨("_law_very", none), "_law_very", "_law_very", defArgs s_law_very, defBody s_law_very, defScope s_law_very, [], []⟩
def dd_law_low : He.DefD := ⟨("_law_low", none), "_law_low", "_law_low", defArgs s_law_low, defBody s_law_low, defScope s_law_low, [], []⟩
def dd_law_plus : He.DefD := ⟨("_law_plus", none), "_law_plus", "_law_plus", defArgs s_law_plus, defBody s_law_plus, defScope s_law_plus, [], []⟩
def dd_law_minus : He.DefD := ⟨("_law_minus", none), "_law_minus", "_law_minus", defArgs s_law_minus, defBody s_law_minus, defScope s_law_minus, [], []⟩
def dd_law_times : He.DefD := ⟨("_law_times", none), "_law_times", "_law_times", defArgs s_law_times, defBody s_law_times, defScope s_law_times, [], []⟩
def dd_law_over : He.DefD := ⟨("_law_over", none), "_law_over", "_law_over", defArgs s_law_over, defBody s_law_over, defScope s_law_over, [], []⟩
def dd_law_integer : He.DefD := ⟨("_law_integer", none), "_law_integer", "_law_integer", defArgs s_law_integer, defBody s_law_integer, defScope s_law_integer, [], []⟩
def dd_law_fraction : He.DefD := ⟨("_law_fraction", none), "_law_fraction", "_law_fraction", defArgs s_law_fraction, defBody s_law_fraction, defScope s_law_fraction, [], []⟩
def dd_law_beside : He.DefD := ⟨("_law_beside", none), "_law_beside", "_law_beside", defArgs s_law_beside, defBody s_law_beside, defScope s_law_beside, [], []⟩
def dd_law_strange : He.DefD := ⟨("_law_strange", none), "_law_strange", "_law_strange", defArgs s_law_strange, defBody s_law_strange, defScope s_law_strange, [], []⟩
def dd_law_no_integer : He.DefD := ⟨("_law_no_integer", none), "_law_no_integer", "_law_no_integer", defArgs s_law_no_integer, defBody s_law_no_integer, defScope s_law_no_integer, [], []⟩
def dd_law_is_own : He.DefD := ⟨("_law_is_own", none), "_law_is_own", "_law_is_own", defArgs s_law_is_own, defBody s_law_is_own, defScope s_law_is_own, [], []⟩
def dd_law_ask : He.DefD := ⟨("_law_ask", none), "_law_ask", "_law_ask", defArgs s_law_ask, defBody s_law_ask, defScope s_law_ask, [], []⟩
def dd_law_due : He.DefD := ⟨("_law_due", none), "_law_due", "_law_due", defArgs s_law_due, defBody s_law_due, defScope s_law_due, [], []⟩
def dd_law_judged_right : He.DefD := ⟨("_law_judged_right", none), "_law_judged_right", "_law_judged_right", defArgs s_law_judged_right, defBody s_law_judged_right, defScope s_law_judged_right, [], []⟩
def dd_law_made_right : He.DefD := ⟨("_law_made_right", none), "_law_made_right", "_law_made_right", defArgs s_law_made_right, defBody s_law_made_right, defScope s_law_made_right, [], []⟩
def dd_law_chain_right : He.DefD := ⟨("_law_chain_right", none), "_law_chain_right", "_law_chain_right", defArgs s_law_chain_right, defBody s_law_chain_right, defScope s_law_chain_right, [], []⟩
def dd_law_refused_right : He.DefD := ⟨("_law_refused_right", none), "_law_refused_right", "_law_refused_right", defArgs s_law_refused_right, defBody s_law_refused_right, defScope s_law_refused_right, [], []⟩
def dd_law : He.DefD := ⟨("law", none), "law", "law", defArgs s_law, defBody s_law, defScope s_law, [], []⟩
def fn : List He.DefD := ([dd_is_whole, dd_is_ratio, dd_lowest, dd_add, dd_sub, dd_mul, dd_div, dd_compared] : List He.DefD) ++ ([dd_check_fractions, dd_is_fraction, dd_fraction, dd_plus, dd_minus, dd_times, dd_over, dd_order] : List He.DefD) ++ ([dd_law_cell, dd_law_box, dd_law_take, dd_law_same, dd_law_very, dd_law_low, dd_law_plus, dd_law_minus] : List He.DefD) ++ ([dd_law_times, dd_law_over, dd_law_integer, dd_law_fraction, dd_law_beside, dd_law_strange, dd_law_no_integer, dd_law_is_own] : List He.DefD) ++ ([dd_law_ask, dd_law_due, dd_law_judged_right, dd_law_made_right, dd_law_chain_right, dd_law_refused_right, dd_law] : List He.DefD)
abbrev R : PySem.W.OpenRow := PySem.W.OpenLaw.row PySem.Challenge.rw_everyweight_k01_fractions
abbrev Pr : Program := PySem.Challenge.pw_everyweight_k01_fractions
abbrev hk : PySem.W.Hook := HK.hookX Pr 6 fx ini fn
def ob (s : PySem.W.SharedT) : HK.Al := HK.obsXG Pr 6 fx ini fn (HandSHeadRun.getT s)
theorem ob_eq (s : PySem.W.SharedT) : ob s = hk.obs s.abs := HK.obsXG_eq (HandSHeadRun.getT_eq s)
abbrev qv : Program := PySem.W.view R.prog [0, 47]
def names : List Str := (["WeightError", "DividedByZero", "InvalidInteger", "InvalidFraction", "ZERO", "is_whole", "is_ratio", "lowest"] : List Str) ++ (["add", "sub", "mul", "div", "compared", "check_fractions", "is_fraction", "fraction"] : List Str) ++ (["plus", "minus", "times", "over", "order", "_law_cell", "_law_box", "_law_take"] : List Str) ++ (["_law_same", "_law_very", "_law_low", "_law_plus", "_law_minus", "_law_times", "_law_over", "_law_integer"] : List Str) ++ (["_law_fraction", "_law_beside", "_law_strange", "_law_no_integer", "_law_is_own", "_law_ask", "_law_due", "_law_judged_right"] : List Str) ++ (["_law_made_right", "_law_chain_right", "_law_refused_right"] : List Str)
theorem run (w : World) : HandSHeadRun.RunEqI R qv hk ob 4000 names w := by
  unfold HandSHeadRun.RunEqI
  kernel_rfl
theorem facts {K : PySem.W.Frag} {h : Heap} {mg : Str → Option Value} (X : K.In h) (G : h.Ns mainGlobals mg) (c : HK.SaysX Pr fx ini fn K) : Fs Pr K mg := by
  have i0 : HK.initW K "WeightError" = clsI 2 "WeightError.__init__" := c.init 0 rfl
  have B : EL.BaseTxt Pr K (He.ga K "WeightError") (He.ma K (He.ga K "WeightError") "__init__") := HK.base_ok (c.fact 69 rfl) i0 (by rfl)
  have i1 : HK.initW K "DividedByZero" = clsI 3 "DividedByZero.__init__" := c.init 1 rfl
  have e1 := HK.nul_ok (b := "WeightError") (x := "DividedByZero") (q := "DividedByZero.__init__") (c.fact 70 rfl) B i1 (by rfl)
  exact {
    g_gcd := HK.blt_ok X G (c.fact 39 rfl)
    c_ZERO := (HK.tup_ok X G (c.fact 40 rfl)).1
    r_ZERO := fun H => .tup ((HK.tup_ok X G (c.fact 40 rfl)).2 H) (.cons (.int 0) (.cons (.int 1) .nil))
    e_DividedByZero := ⟨HK.err_ok X G (c.fact 41 rfl), _, _, _, _, e1⟩
    e_InvalidFraction := ⟨HK.err_ok X G (c.fact 42 rfl), _, _, HK.pass_ok (c.fact 71 rfl) B⟩
    e_InvalidInteger := ⟨HK.err_ok X G (c.fact 43 rfl), _, _, HK.pass_ok (c.fact 72 rfl) B⟩
    f_abs := He.free_ok X G (c.fact 44 rfl)
    f_bool := He.free_ok X G (c.fact 45 rfl)
    f_dict := He.free_ok X G (c.fact 46 rfl)
    f_int := He.free_ok X G (c.fact 47 rfl)
    f_isinstance := He.free_ok X G (c.fact 48 rfl)
    f_len := He.free_ok X G (c.fact 49 rfl)
    f_list := He.free_ok X G (c.fact 50 rfl)
    f_max := He.free_ok X G (c.fact 51 rfl)
    f_min := He.free_ok X G (c.fact 52 rfl)
    f_range := He.free_ok X G (c.fact 53 rfl)
    f_str := He.free_ok X G (c.fact 54 rfl)
    f_sum := He.free_ok X G (c.fact 55 rfl)
    f_tuple := He.free_ok X G (c.fact 56 rfl)
    t_DividedByZero := HK.xf_ok (c.fact 57 rfl)
    x_DividedByZero_DividedByZero := HK.exm_ok (c.fact 58 rfl)
    x_DividedByZero_InvalidFraction := HK.exm_ok (c.fact 59 rfl)
    x_DividedByZero_InvalidInteger := HK.exm_ok (c.fact 60 rfl)
    t_InvalidFraction := HK.xf_ok (c.fact 61 rfl)
    x_InvalidFraction_DividedByZero := HK.exm_ok (c.fact 62 rfl)
    x_InvalidFraction_InvalidFraction := HK.exm_ok (c.fact 63 rfl)
    x_InvalidFraction_InvalidInteger := HK.exm_ok (c.fact 64 rfl)
    t_InvalidInteger := HK.xf_ok (c.fact 65 rfl)
    x_InvalidInteger_DividedByZero := HK.exm_ok (c.fact 66 rfl)
    x_InvalidInteger_InvalidFraction := HK.exm_ok (c.fact 67 rfl)
    x_InvalidInteger_InvalidInteger := HK.exm_ok (c.fact 68 rfl)
    n_is_whole := by
      obtain ⟨fd, F⟩ := c.def_ 0 (d := dd_is_whole) rfl
      exact ⟨_, fd, F, He.glo_ok X G (c.fact 0 rfl)⟩
    n_is_ratio := by
      obtain ⟨fd, F⟩ := c.def_ 1 (d := dd_is_ratio) rfl
      exact ⟨_, fd, F, He.glo_ok X G (c.fact 1 rfl)⟩
    n_lowest := by
      obtain ⟨fd, F⟩ := c.def_ 2 (d := dd_lowest) rfl
      exact ⟨_, fd, F, He.glo_ok X G (c.fact 2 rfl)⟩
    n_add := by
      obtain ⟨fd, F⟩ := c.def_ 3 (d := dd_add) rfl
      exact ⟨_, fd, F, He.glo_ok X G (c.fact 3 rfl)⟩
    n_sub := by
      obtain ⟨fd, F⟩ := c.def_ 4 (d := dd_sub) rfl
      exact ⟨_, fd, F, He.glo_ok X G (c.fact 4 rfl)⟩
    n_mul := by
      obtain ⟨fd, F⟩ := c.def_ 5 (d := dd_mul) rfl
      exact ⟨_, fd, F, He.glo_ok X G (c.fact 5 rfl)⟩
    n_div := by
      obtain ⟨fd, F⟩ := c.def_ 6 (d := dd_div) rfl
      exact ⟨_, fd, F, He.glo_ok X G (c.fact 6 rfl)⟩
    n_compared := by
      obtain ⟨fd, F⟩ := c.def_ 7 (d := dd_compared) rfl
      exact ⟨_, fd, F, He.glo_ok X G (c.fact 7 rfl)⟩
    n_check_fractions := by
      obtain ⟨fd, F⟩ := c.def_ 8 (d := dd_check_fractions) rfl
      exact ⟨_, fd, F, He.glo_ok X G (c.fact 8 rfl)⟩
    n_is_fraction := by
      obtain ⟨fd, F⟩ := c.def_ 9 (d := dd_is_fraction) rfl
      exact ⟨_, fd, F, He.glo_ok X G (c.fact 9 rfl)⟩
    n_fraction := by
      obtain ⟨fd, F⟩ := c.def_ 10 (d := dd_fraction) rfl
      exact ⟨_, fd, F, He.glo_ok X G (c.fact 10 rfl)⟩
    n_plus := by
      obtain ⟨fd, F⟩ := c.def_ 11 (d := dd_plus) rfl
      exact ⟨_, fd, F, He.glo_ok X G (c.fact 11 rfl)⟩
    n_minus := by
      obtain ⟨fd, F⟩ := c.def_ 12 (d := dd_minus) rfl
      exact ⟨_, fd, F, He.glo_ok X G (c.fact 12 rfl)⟩
    n_times := by
      obtain ⟨fd, F⟩ := c.def_ 13 (d := dd_times) rfl
      exact ⟨_, fd, F, He.glo_ok X G (c.fact 13 rfl)⟩
    n_over := by
      obtain ⟨fd, F⟩ := c.def_ 14 (d := dd_over) rfl
      exact ⟨_, fd, F, He.glo_ok X G (c.fact 14 rfl)⟩
    n_order := by
      obtain ⟨fd, F⟩ := c.def_ 15 (d := dd_order) rfl
      exact ⟨_, fd, F, He.glo_ok X G (c.fact 15 rfl)⟩
    n_law_cell := by
      obtain ⟨fd, F⟩ := c.def_ 16 (d := dd_law_cell) rfl
      exact ⟨_, fd, F, He.glo_ok X G (c.fact 16 rfl)⟩
    n_law_box := by
      obtain ⟨fd, F⟩ := c.def_ 17 (d := dd_law_box) rfl
      exact ⟨_, fd, F, He.glo_ok X G (c.fact 17 rfl)⟩
    n_law_take := by
      obtain ⟨fd, F⟩ := c.def_ 18 (d := dd_law_take) rfl
      exact ⟨_, fd, F, He.glo_ok X G (c.fact 18 rfl)⟩
    n_law_same := by
      obtain ⟨fd, F⟩ := c.def_ 19 (d := dd_law_same) rfl
      exact ⟨_, fd, F, He.glo_ok X G (c.fact 19 rfl)⟩
    n_law_very := by
      obtain ⟨fd, F⟩ := c.def_ 20 (d := dd_law_very) rfl
      exact ⟨_, fd, F, He.glo_ok X G (c.fact 20 rfl)⟩
    n_law_low := by
      obtain ⟨fd, F⟩ := c.def_ 21 (d := dd_law_low) rfl
      exact ⟨_, fd, F, He.glo_ok X G (c.fact 21 rfl)⟩
    n_law_plus := by
      obtain ⟨fd, F⟩ := c.def_ 22 (d := dd_law_plus) rfl
      exact ⟨_, fd, F, He.glo_ok X G (c.fact 22 rfl)⟩
    n_law_minus := by
      obtain ⟨fd, F⟩ := c.def_ 23 (d := dd_law_minus) rfl
      exact ⟨_, fd, F, He.glo_ok X G (c.fact 23 rfl)⟩
    n_law_times := by
      obtain ⟨fd, F⟩ := c.def_ 24 (d := dd_law_times) rfl
      exact ⟨_, fd, F, He.glo_ok X G (c.fact 24 rfl)⟩
    n_law_over := by
      obtain ⟨fd, F⟩ := c.def_ 25 (d := dd_law_over) rfl
      exact ⟨_, fd, F, He.glo_ok X G (c.fact 25 rfl)⟩
    n_law_integer := by
      obtain ⟨fd, F⟩ := c.def_ 26 (d := dd_law_integer) rfl
      exact ⟨_, fd, F, He.glo_ok X G (c.fact 26 rfl)⟩
    n_law_fraction := by
      obtain ⟨fd, F⟩ := c.def_ 27 (d := dd_law_fraction) rfl
      exact ⟨_, fd, F, He.glo_ok X G (c.fact 27 rfl)⟩
    n_law_beside := by
      obtain ⟨fd, F⟩ := c.def_ 28 (d := dd_law_beside) rfl
      exact ⟨_, fd, F, He.glo_ok X G (c.fact 28 rfl)⟩
    n_law_strange := by
      obtain ⟨fd, F⟩ := c.def_ 29 (d := dd_law_strange) rfl
      exact ⟨_, fd, F, He.glo_ok X G (c.fact 29 rfl)⟩
    n_law_no_integer := by
      obtain ⟨fd, F⟩ := c.def_ 30 (d := dd_law_no_integer) rfl
      exact ⟨_, fd, F, He.glo_ok X G (c.fact 30 rfl)⟩
    n_law_is_own := by
      obtain ⟨fd, F⟩ := c.def_ 31 (d := dd_law_is_own) rfl
      exact ⟨_, fd, F, He.glo_ok X G (c.fact 31 rfl)⟩
    n_law_ask := by
      obtain ⟨fd, F⟩ := c.def_ 32 (d := dd_law_ask) rfl
      exact ⟨_, fd, F, He.glo_ok X G (c.fact 32 rfl)⟩
    n_law_due := by
      obtain ⟨fd, F⟩ := c.def_ 33 (d := dd_law_due) rfl
      exact ⟨_, fd, F, He.glo_ok X G (c.fact 33 rfl)⟩
    n_law_judged_right := by
      obtain ⟨fd, F⟩ := c.def_ 34 (d := dd_law_judged_right) rfl
      exact ⟨_, fd, F, He.glo_ok X G (c.fact 34 rfl)⟩
    n_law_made_right := by
      obtain ⟨fd, F⟩ := c.def_ 35 (d := dd_law_made_right) rfl
      exact ⟨_, fd, F, He.glo_ok X G (c.fact 35 rfl)⟩
    n_law_chain_right := by
      obtain ⟨fd, F⟩ := c.def_ 36 (d := dd_law_chain_right) rfl
      exact ⟨_, fd, F, He.glo_ok X G (c.fact 36 rfl)⟩
    n_law_refused_right := by
      obtain ⟨fd, F⟩ := c.def_ 37 (d := dd_law_refused_right) rfl
      exact ⟨_, fd, F, He.glo_ok X G (c.fact 37 rfl)⟩
    n_law := by
      obtain ⟨fd, F⟩ := c.def_ 38 (d := dd_law) rfl
      exact ⟨_, fd, F, He.glo_ok X G (c.fact 38 rfl)⟩ }
end K01
open PySem PySem.W PySem.Calls PyProof.Rows
theorem PySem.Challenge.cw_everyweight_k01_fractions_holds : PySem.Challenge.rw_everyweight_k01_fractions.Holds := by
  w_on; o_law
  refine HandSHeadRun.head_imp (r := OpenLaw.row PySem.Challenge.rw_everyweight_k01_fractions) (q := K01.qv) (H := K01.hk) (ob := K01.ob) (M := 4000) (loose := K01.names) (d := HandSHeadRun.topDef (OpenLaw.row PySem.Challenge.rw_everyweight_k01_fractions).prog 47) (kwd := []) K01.ob_eq K01.run (by kernel_rfl) (by kernel_rfl) (by kernel_rfl) (by rfl) (by first | assumption | decide +kernel) (by decide +kernel) ⟨rfl, rfl, rfl, rfl, rfl, by decide +kernel⟩ ?hw ?hc
  case hw => w_witness2
  case hc =>
    refine L2.walk_ofE (l := PySem.Challenge.rw_everyweight_k01_fractions) (n := 63) (k := 15) (x := "script") (CX := L2.CX0) rfl (by decide) (by kernel_rfl) ⟨rfl, by decide, by decide⟩ ?F (fun _ _ _ _ z => z)
    intro w mg fa h Y G hmg0
    obtain ⟨K, KX, c⟩ := Y
    have hmg : mg ("law" : PySem.Str) = some (.ref fa) := by
      have e : (HandSHeadRun.topDef (OpenLaw.row PySem.Challenge.rw_everyweight_k01_fractions).prog 47).name = ("law" : PySem.Str) := by kernel_rfl
      rw [← e]
      exact hmg0
    have Z := K01.facts KX G c
    obtain ⟨fd, sp, hb, hsp, hF⟩ := DL.law_end (P := K01.Pr) (w := w) (n := 63) Z.n_law hmg (fun base => K01.a_law Z) (fun fd F s u => L2.FunD.bindsA (ps := ["script"]) F (fun _ _ _ _ _ _ us hl => match us, hl with | [_], _ => rfl) s [u] rfl) (fun l hl => ⟨l, rfl, hl, (fun _ _ e => by cases e), fun _ => rfl⟩)
    exact ⟨K, fd, sp, KX, hb, hsp, fun base _ _ => hF base⟩
end
