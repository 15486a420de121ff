import PyProof.Rows.All
import Wide.All
import OpenK.AllK
import Wide.FinOn
import HandS.ForMost
import HandS.ForExc
import HandS.Style
import HandS.TupAny
import HandS.Lambda
import HandS.AnyAll
import PyProof.StrLawsChain
import PyProof.Rows.StrSplitAre
import PyProof.GenComp
import HandS.GenOver
import HandS.GenList
import HandS.EndTab
import HandS.Dict
import HandS.DictComp
import HandS.ListItems
import HandS.WordsDict
import HandS.Deep
import KE.DataMinMax
import KE.DataCmp
import HandS.Zip
import HandS.Iter
import KE.GoesEnum
import KE.GoesMore
import KE.GoesZip
import PyProof.TupleOfGen
import PySem.Challenge.RW_friezestack_k02_strips_that_are_made
import HandS.HeadHook4
import HandS.HeadWalk
import HandS.Head3
import HandS.HeadEnd
set_option Elab.async false
set_option linter.all false
set_option autoImplicit false
set_option maxRecDepth 100000
set_option maxHeartbeats 0
/-! The data layer: values as trees (D), a monad for what code computes (M), and how such trees lie in the abstract heap. -/
namespace Dd
open PySem PySem.Spec L2

/-! ### data -/
inductive D where
  | non | bl (b : Bool) | int (i : Int) | str (s : Str)
  | lst (xs : List D) | tup (xs : List D)
  | dk (ks : List Key) (vs : List D)
  | dt (ks : List (List Key)) (vs : List D)
  | obj (c : Nat) (xs : List D)
  | cell (j : Nat)
  | lam (i : Nat)
  | rol (xs : List D)
instance : Inhabited D := ⟨.non⟩

inductive Out (α : Type) where
  | ok (a : α) (μ : List D)
  | exc (c : Nat) (μ : List D)
  | bad
abbrev M (α : Type) := List D → Out α
namespace M
def pure {α : Type} (a : α) : M α := fun μ => .ok a μ
def exc {α : Type} (c : Nat) : M α := fun μ => .exc c μ
def bad {α : Type} : M α := fun _ => .bad
def bind {α β : Type} (m : M α) (k : α → M β) : M β := fun μ => match m μ with
  | .ok a μ' => k a μ'
  | .exc c μ' => .exc c μ'
  | .bad => .bad
def opt {α : Type} : Option α → M α
  | some a => pure a
  | none => bad
@[simp] theorem pure_bind {α β : Type} (a : α) (k : α → M β) : bind (pure a) k = k a := rfl
@[simp] theorem bad_bind {α β : Type} (k : α → M β) : bind (bad : M α) k = bad := rfl
@[simp] theorem exc_bind {α β : Type} (c : Nat) (k : α → M β) : bind (exc c : M α) k = exc c := rfl
@[simp] theorem bind_pure {α : Type} (m : M α) : bind m pure = m := by
  funext μ
  unfold bind pure
  cases m μ <;> rfl
@[simp] theorem bind_assoc {α β γ : Type} (m : M α) (k : α → M β) (l : β → M γ) : bind (bind m k) l = bind m fun a => bind (k a) l := by
  funext μ
  unfold bind
  cases m μ <;> rfl
@[simp] theorem opt_some {α : Type} (a : α) : opt (some a) = pure a := rfl
@[simp] theorem opt_none {α : Type} : opt (none : Option α) = bad := rfl
end M

def Good {α : Type} (m : Out α) (A : α → List D → Prop) (B : Nat → List D → Prop) : Prop := match m with
  | .ok a μ => A a μ
  | .exc c μ => B c μ
  | .bad => False
theorem Good.imp {α : Type} {m : Out α} {A A' : α → List D → Prop} {B B' : Nat → List D → Prop} (h : Good m A B) (ha : ∀ a μ, A a μ → A' a μ) (hb : ∀ c μ, B c μ → B' c μ) : Good m A' B' := by
  cases m with
  | ok a μ => exact ha _ _ h
  | exc c μ => exact hb _ _ h
  | bad => exact h
theorem good_bind {α β : Type} {m : M α} {k : α → M β} {μ : List D} {A : β → List D → Prop} {B : Nat → List D → Prop} (h : Good (M.bind m k μ) A B) : Good (m μ) (fun a μ1 => Good (k a μ1) A B) B := by
  unfold M.bind at h
  cases e : m μ with
  | ok a μ1 => rw [e] at h; exact h
  | exc c μ1 => rw [e] at h; exact h
  | bad => rw [e] at h; exact h

/-! ### the signature: what is fixed for a law -/
structure Sg where
  T : List (Addr × Option Str)
  ρ : List Addr
  CA : Nat → Addr
  FN : Nat → List Str
  EX : Nat → Addr
  lamO : Nat → Addr → Addr → HO
  lamQ : Str

def TabK (H : Hp) (P : Addr) : Option Str → Prop
  | some q => LamX.TabS H P q
  | none => GxR.TabG H P
def Tabs (T : List (Addr × Option Str)) (H : Hp) : Prop := ∀ p ∈ T, TabK H p.1 p.2
def NT (o : HO) : Prop := ∀ ps, o ≠ .tbl ps
structure Fr (S : Sg) (H H' : Hp) : Prop where
  keep : ∀ b o, H b = some o → b ∉ S.ρ → NT o → H' b = some o
  dom : ∀ b, H b ≠ none → H' b ≠ none
theorem Fr.refl (S : Sg) (H : Hp) : Fr S H H := ⟨fun _ _ h _ _ => h, fun _ h => h⟩
theorem Fr.trans {S : Sg} {H H1 H2 : Hp} (a : Fr S H H1) (b : Fr S H1 H2) : Fr S H H2 := ⟨fun c o h n t => b.keep c o (a.keep c o h n t) n t, fun c h => b.dom c (a.dom c h)⟩
theorem upd_dom {H : Hp} {p : Addr} {o : HO} : ∀ b, H b ≠ none → upd H p o b ≠ none := fun b h e => by
  by_cases q : b = p
  · rw [q, upd_same] at e
    cases e
  · rw [upd_ne q] at e
    exact h e
theorem Fr.add {S : Sg} {H : Hp} {p : Addr} {o : HO} (h : H p = none) : Fr S H (upd H p o) := ⟨fun b x e _ _ => by
  rw [upd_ne (ne_of_none e h)]
  exact e, upd_dom⟩
theorem Tabs.ext {T : List (Addr × Option Str)} {H H' : Hp} (t : Tabs T H) (e : ∀ b o, H b = some o → H' b = some o) : Tabs T H' := fun p hp => by
  have q := t p hp
  cases h : p.2 with
  | some s =>
    rw [h] at q
    exact LamX.TabS.ext q e
  | none =>
    rw [h] at q
    obtain ⟨ps, h1, h2⟩ := q
    exact ⟨ps, e _ _ h1, h2⟩
def mutK : HO → Bool
  | .lst _ | .dK _ | .dT _ | .ins _ _ _ | .tup _ => true
  | _ => false
/-- a list, dict or instance is written: the tables stand -/
theorem Tabs.write {T : List (Addr × Option Str)} {H : Hp} {a : Addr} {o o' : HO} (t : Tabs T H) (h : H a = some o) (m : mutK o = true) : Tabs T (upd H a o') := fun p hp => by
  have q := t p hp
  have key : ∀ b u, H b = some u → mutK u = false → upd H a o' b = some u := fun b u e n => by
    rw [upd_ne]
    · exact e
    · intro z
      rw [z, h] at e
      cases e
      rw [m] at n
      cases n
  cases h2 : p.2 with
  | some s =>
    rw [h2] at q
    obtain ⟨ps, h1, h3, h4⟩ := q
    refine ⟨ps, key _ _ h1 rfl, h3, fun pos cv hc => ?_⟩
    obtain ⟨c, e1, e2⟩ := h4 pos cv hc
    exact ⟨c, e1, key _ _ e2 rfl⟩
  | none =>
    rw [h2] at q
    obtain ⟨ps, h1, h3⟩ := q
    exact ⟨ps, key _ _ h1 rfl, h3⟩

noncomputable def del (H : Hp) (O : Addr → Prop) : Hp := fun a => open Classical in if O a then none else H a
theorem del_out {H : Hp} {O : Addr → Prop} {a : Addr} (h : ¬ O a) : del H O a = H a := by
  unfold del
  exact if_neg h
theorem del_some {H : Hp} {O : Addr → Prop} {a : Addr} {o : HO} (h : del H O a = some o) : H a = some o ∧ ¬ O a := by
  unfold del at h
  by_cases c : O a
  · rw [if_pos c] at h
    cases h
  · rw [if_neg c] at h
    exact ⟨h, c⟩

/-! ### how data lie -/
mutual
inductive Rep (K : PySem.W.Frag) (S : Sg) (H : Hp) : V → D → Prop
  | non : Rep K S H .non .non
  | bl (b : Bool) : Rep K S H (.bl b) (.bl b)
  | int (i : Int) : Rep K S H (.int i) (.int i)
  | str (s : Str) : s.length ≤ sizeLine → PyData.strOk s = true → Rep K S H (.str s) (.str s)
  | lst {a : Addr} {vs : List V} {ds : List D} : H a = some (.lst vs) → vs.length ≤ sizeLine → Reps K S H vs ds → Rep K S H (.ref a) (.lst ds)
  | tup {a : Addr} {vs : List V} {ds : List D} : SqT K H a vs → vs.length ≤ sizeLine → Reps K S H vs ds → Rep K S H (.ref a) (.tup ds)
  | dk {a : Addr} {ks : List Key} {vs : List V} {ds : List D} : H a = some (.dK (ks.zip vs)) → ks.length = vs.length → Reps K S H vs ds → Rep K S H (.ref a) (.dk ks ds)
  | dt {a : Addr} {ks : List (List Key)} {vs : List V} {ds : List D} : H a = some (.dT (ks.zip vs)) → ks.length = vs.length → Reps K S H vs ds → Rep K S H (.ref a) (.dt ks ds)
  | obj {a dx : Addr} {c : Nat} {vs : List V} {ds : List D} : H a = some (.ins (S.CA c) dx ((S.FN c).zip vs)) → vs.length = (S.FN c).length → Reps K S H vs ds → Rep K S H (.ref a) (.obj c ds)
  | cell {a : Addr} {j : Nat} : S.ρ[j]? = some a → Rep K S H (.ref a) (.cell j)
  | lam {a c : Addr} {i : Nat} : H a = some (S.lamO i a c) → NT (S.lamO i a c) → H c = some (LamX.CodeO c S.lamQ) → Rep K S H (.ref a) (.lam i)
  | rol {a : Addr} {vs : List V} {ds : List D} : SqL K H a vs → vs.length ≤ sizeLine → Reps K S H vs ds → Rep K S H (.ref a) (.rol ds)
inductive Reps (K : PySem.W.Frag) (S : Sg) (H : Hp) : List V → List D → Prop
  | nil : Reps K S H [] []
  | cons {v : V} {vs : List V} {d : D} {ds : List D} : Rep K S H v d → Reps K S H vs ds → Reps K S H (v :: vs) (d :: ds)
end
theorem nt_code {c : Addr} {q : Str} : NT (LamX.CodeO c q) := fun ps z => LamX.codeO_ne ps z
theorem nt_lst {vs : List V} : NT (.lst vs) := fun _ z => by cases z
theorem nt_tup {vs : List V} : NT (.tup vs) := fun _ z => by cases z
theorem nt_frz {o : Obj} {u : HO} : NT (.frz o u) := fun _ z => by cases z
theorem nt_dK {vs : List (Key × V)} : NT (.dK vs) := fun _ z => by cases z
theorem nt_dT {vs : List (List Key × V)} : NT (.dT vs) := fun _ z => by cases z
theorem nt_ins {C dx : Addr} {fs : List (Str × V)} : NT (.ins C dx fs) := fun _ z => by cases z
section
variable {K : PySem.W.Frag} {S : Sg} {H H' : Hp}
theorem sqT_mono (h : ∀ b o, H b = some o → NT o → H' b = some o) {a : Addr} {vs : List V} (q : SqT K H a vs) : SqT K H' a vs := by
  rcases q with (q | ⟨o, q⟩) | q
  · exact .inl (.inl (h _ _ q nt_tup))
  · exact .inl (.inr ⟨o, h _ _ q nt_frz⟩)
  · exact .inr q
theorem sqL_mono (h : ∀ b o, H b = some o → NT o → H' b = some o) {a : Addr} {vs : List V} (q : SqL K H a vs) : SqL K H' a vs := by
  rcases q with (q | ⟨o, q⟩) | q
  · exact .inl (.inl (h _ _ q nt_lst))
  · exact .inl (.inr ⟨o, h _ _ q nt_frz⟩)
  · exact .inr q
mutual
theorem Rep.mono (h : ∀ b o, H b = some o → NT o → H' b = some o) : ∀ {v : V} {d : D}, Rep K S H v d → Rep K S H' v d
  | _, _, .non => .non
  | _, _, .bl b => .bl b
  | _, _, .int i => .int i
  | _, _, .str s h1 h2 => .str s h1 h2
  | _, _, .lst h1 h2 h3 => .lst (h _ _ h1 nt_lst) h2 (Reps.mono h h3)
  | _, _, .tup h1 h2 h3 => .tup (sqT_mono h h1) h2 (Reps.mono h h3)
  | _, _, .dk h1 h2 h3 => .dk (h _ _ h1 nt_dK) h2 (Reps.mono h h3)
  | _, _, .dt h1 h2 h3 => .dt (h _ _ h1 nt_dT) h2 (Reps.mono h h3)
  | _, _, .obj h1 h2 h3 => .obj (h _ _ h1 nt_ins) h2 (Reps.mono h h3)
  | _, _, .cell h1 => .cell h1
  | _, _, .lam h1 h2 h3 => .lam (h _ _ h1 h2) h2 (h _ _ h3 nt_code)
  | _, _, .rol h1 h2 h3 => .rol (sqL_mono h h1) h2 (Reps.mono h h3)
theorem Reps.mono (h : ∀ b o, H b = some o → NT o → H' b = some o) : ∀ {vs : List V} {ds : List D}, Reps K S H vs ds → Reps K S H' vs ds
  | _, _, .nil => .nil
  | _, _, .cons a b => .cons (Rep.mono h a) (Reps.mono h b)
end
theorem Reps.length : ∀ {vs : List V} {ds : List D}, Reps K S H vs ds → vs.length = ds.length
  | _, _, .nil => rfl
  | _, _, .cons _ b => by rw [List.length_cons, List.length_cons, Reps.length b]
theorem Reps.append : ∀ {vs ws : List V} {ds es : List D}, Reps K S H vs ds → Reps K S H ws es → Reps K S H (vs ++ ws) (ds ++ es)
  | _, _, _, _, .nil, q => q
  | _, _, _, _, .cons a b, q => .cons a (Reps.append b q)
theorem Reps.get : ∀ {vs : List V} {ds : List D} {i : Nat} {d : D}, Reps K S H vs ds → ds[i]? = some d → ∃ v, vs[i]? = some v ∧ Rep K S H v d
  | _, _, _, _, .nil, e => by simp at e
  | _, _, 0, _, .cons a b, e => by simp at e; subst e; exact ⟨_, rfl, a⟩
  | _, _, i + 1, d, .cons a b, e => by
    obtain ⟨v, h1, h2⟩ := Reps.get (i := i) (d := d) b (by simpa using e)
    exact ⟨v, by simpa using h1, h2⟩
theorem Reps.getV : ∀ {vs : List V} {ds : List D} {i : Nat} {v : V}, Reps K S H vs ds → vs[i]? = some v → ∃ d, ds[i]? = some d ∧ Rep K S H v d
  | _, _, _, _, .nil, e => by simp at e
  | _, _, 0, _, .cons a b, e => by simp at e; subst e; exact ⟨_, rfl, a⟩
  | _, _, i + 1, d, .cons a b, e => by
    obtain ⟨v, h1, h2⟩ := Reps.getV (i := i) (v := d) b (by simpa using e)
    exact ⟨v, by simpa using h1, h2⟩
theorem Reps.take : ∀ {vs : List V} {ds : List D} (n : Nat), Reps K S H vs ds → Reps K S H (vs.take n) (ds.take n)
  | _, _, 0, _ => .nil
  | _, _, _ + 1, .nil => .nil
  | _, _, n + 1, .cons a b => .cons a (Reps.take n b)
theorem Reps.drop : ∀ {vs : List V} {ds : List D} (n : Nat), Reps K S H vs ds → Reps K S H (vs.drop n) (ds.drop n)
  | _, _, 0, r => r
  | _, _, _ + 1, .nil => .nil
  | _, _, n + 1, .cons _ b => Reps.drop n b
theorem Reps.reverse : ∀ {vs : List V} {ds : List D}, Reps K S H vs ds → Reps K S H vs.reverse ds.reverse
  | _, _, .nil => .nil
  | _, _, .cons a b => by
    rw [List.reverse_cons, List.reverse_cons]
    exact (Reps.reverse b).append (.cons a .nil)
theorem Reps.set {v : V} {d : D} (r : Rep K S H v d) : ∀ {vs : List V} {ds : List D} (i : Nat), Reps K S H vs ds → Reps K S H (vs.set i v) (ds.set i d)
  | _, _, _, .nil => .nil
  | _, _, 0, .cons _ b => .cons r b
  | _, _, i + 1, .cons a b => .cons a (Reps.set r i b)
theorem Reps.replicate (n : Nat) : ∀ {vs : List V} {ds : List D}, Reps K S H vs ds → Reps K S H (List.replicate n vs).flatten (List.replicate n ds).flatten := fun {vs ds} r => by
  induction n with
  | zero => exact .nil
  | succ n ih =>
    rw [List.replicate_succ, List.replicate_succ, List.flatten_cons, List.flatten_cons]
    exact r.append ih
end

/-! ### what may be written: its content -/
def CellIs (K : PySem.W.Frag) (S : Sg) (Hc H : Hp) (a : Addr) : D → Prop
  | .lst ds => ∃ vs, H a = some (.lst vs) ∧ vs.length ≤ sizeLine ∧ Reps K S Hc vs ds
  | .dk ks ds => ∃ vs, H a = some (.dK (ks.zip vs)) ∧ ks.length = vs.length ∧ Reps K S Hc vs ds
  | .dt ks ds => ∃ vs, H a = some (.dT (ks.zip vs)) ∧ ks.length = vs.length ∧ Reps K S Hc vs ds
  | .obj c ds => ∃ dx vs, H a = some (.ins (S.CA c) dx ((S.FN c).zip vs)) ∧ vs.length = (S.FN c).length ∧ Reps K S Hc vs ds
  | _ => False
section
variable {K : PySem.W.Frag} {S : Sg} {Hc Hc' H H' : Hp} {a : Addr}
theorem CellIs.there {d : D} (c : CellIs K S Hc H a d) : ∃ o, H a = some o ∧ mutK o = true := by
  cases d with
  | lst ds => obtain ⟨vs, h, _⟩ := c; exact ⟨_, h, rfl⟩
  | dk ks ds => obtain ⟨vs, h, _⟩ := c; exact ⟨_, h, rfl⟩
  | dt ks ds => obtain ⟨vs, h, _⟩ := c; exact ⟨_, h, rfl⟩
  | obj k ds => obtain ⟨dx, vs, h, _⟩ := c; exact ⟨_, h, rfl⟩
  | _ => exact False.elim c
theorem CellIs.mut_at {d : D} {o : HO} (c : CellIs K S Hc H a d) (h : H a = some o) : mutK o = true := by
  obtain ⟨u, e, m⟩ := c.there
  rw [h] at e
  cases e
  exact m
theorem mutK_nt {o : HO} (h : mutK o = true) : NT o := fun ps z => by rw [z] at h; cases h
theorem CellIs.mono {d : D} (c : CellIs K S Hc H a d) (h : ∀ b o, Hc b = some o → NT o → Hc' b = some o) (ha : H' a = H a) : CellIs K S Hc' H' a d := by
  cases d with
  | lst ds => obtain ⟨vs, h1, h2, h3⟩ := c; exact ⟨vs, ha.trans h1, h2, h3.mono h⟩
  | dk ks ds => obtain ⟨vs, h1, h2, h3⟩ := c; exact ⟨vs, ha.trans h1, h2, h3.mono h⟩
  | dt ks ds => obtain ⟨vs, h1, h2, h3⟩ := c; exact ⟨vs, ha.trans h1, h2, h3.mono h⟩
  | obj k ds => obtain ⟨dx, vs, h1, h2, h3⟩ := c; exact ⟨dx, vs, ha.trans h1, h2, h3.mono h⟩
  | _ => exact False.elim c
/-- what may be written is, as a value, that data -/
theorem CellIs.rep {d : D} (c : CellIs K S Hc H a d) (h : ∀ b o, Hc b = some o → NT o → H b = some o) : Rep K S H (.ref a) d := by
  cases d with
  | lst ds => obtain ⟨vs, h1, h2, h3⟩ := c; exact .lst h1 h2 (h3.mono h)
  | dk ks ds => obtain ⟨vs, h1, h2, h3⟩ := c; exact .dk h1 h2 (h3.mono h)
  | dt ks ds => obtain ⟨vs, h1, h2, h3⟩ := c; exact .dt h1 h2 (h3.mono h)
  | obj k ds => obtain ⟨dx, vs, h1, h2, h3⟩ := c; exact .obj h1 h2 (h3.mono h)
  | _ => exact False.elim c
end

/-! ### the world: tables, the hidden, the shared cells -/
structure Wd (K : PySem.W.Frag) (S : Sg) (O : Addr → Prop) (H : Hp) (μ : List D) : Prop where
  tabs : Tabs S.T H
  hid : ∀ a, O a → H a ≠ none
  hm : ∀ a, O a → ∃ o, H a = some o ∧ mutK o = true
  rho : ∀ a ∈ S.ρ, O a
  len : μ.length = S.ρ.length
  amb : ∀ (j : Nat) (c : D), μ[j]? = some c → ∃ a, S.ρ[j]? = some a ∧ CellIs K S (del H O) H a c
section
variable {K : PySem.W.Frag} {S : Sg} {O O' : Addr → Prop} {H H' : Hp} {μ : List D}
theorem Wd.keep (w : Wd K S O H μ) (f : Fr S H H') : ∀ b o, del H O b = some o → NT o → del H' O b = some o := fun b o h n => by
  obtain ⟨h1, h2⟩ := del_some h
  rw [del_out h2]
  exact f.keep b o h1 (fun z => h2 (w.rho b z)) n
theorem Wd.rep {v : V} {d : D} (w : Wd K S O H μ) (f : Fr S H H') (r : Rep K S (del H O) v d) : Rep K S (del H' O) v d := r.mono (w.keep f)
theorem Wd.reps {v : List V} {d : List D} (w : Wd K S O H μ) (f : Fr S H H') (r : Reps K S (del H O) v d) : Reps K S (del H' O) v d := r.mono (w.keep f)
theorem Wd.fresh (w : Wd K S O H μ) {p : Addr} (h : H p = none) : ¬ O p := fun z => w.hid p z h
theorem Wd.add (w : Wd K S O H μ) {p : Addr} {o : HO} (h : H p = none) : Wd K S O (upd H p o) μ where
  tabs := w.tabs.ext fun b u e => by rw [upd_ne (ne_of_none e h)]; exact e
  hid := fun a z e => by
    rw [upd_ne (fun q => w.fresh h (by rw [← q]; exact z))] at e
    exact w.hid a z e
  hm := fun a z => by
    obtain ⟨o, e, m⟩ := w.hm a z
    exact ⟨o, by rw [upd_ne (ne_of_none e h)]; exact e, m⟩
  rho := w.rho
  len := w.len
  amb := fun j c e => by
    obtain ⟨a, h1, h2⟩ := w.amb j c e
    refine ⟨a, h1, h2.mono (w.keep (Fr.add h)) ?_⟩
    rw [upd_ne]
    intro q
    obtain ⟨o, e, _⟩ := h2.there
    rw [q, h] at e
    cases e
/-- less is hidden -/
theorem Wd.less (w : Wd K S O H μ) (h : ∀ a, O' a → O a) (hr : ∀ a ∈ S.ρ, O' a) : Wd K S O' H μ where
  tabs := w.tabs
  hid := fun a z => w.hid a (h a z)
  hm := fun a z => w.hm a (h a z)
  rho := hr
  len := w.len
  amb := fun j c e => by
    obtain ⟨a, h1, h2⟩ := w.amb j c e
    refine ⟨a, h1, h2.mono (fun b o q _ => ?_) rfl⟩
    obtain ⟨q1, q2⟩ := del_some q
    rw [del_out (fun z => q2 (h b z))]
    exact q1
theorem rep_less {v : V} {d : D} (h : ∀ a, O' a → O a) (r : Rep K S (del H O) v d) : Rep K S (del H O') v d := r.mono fun b o q _ => by
  obtain ⟨q1, q2⟩ := del_some q
  rw [del_out (fun z => q2 (h b z))]
  exact q1
theorem reps_less {v : List V} {d : List D} (h : ∀ a, O' a → O a) (r : Reps K S (del H O) v d) : Reps K S (del H O') v d := r.mono fun b o q _ => by
  obtain ⟨q1, q2⟩ := del_some q
  rw [del_out (fun z => q2 (h b z))]
  exact q1
/-- one more is hidden, a new one -/
def With (O : Addr → Prop) (p : Addr) : Addr → Prop := fun a => O a ∨ a = p
theorem keep_with {p : Addr} {o' : HO} (h : H p = none) : ∀ b o, del H O b = some o → NT o → del (upd H p o') (With O p) b = some o := fun b o q _ => by
  obtain ⟨q1, q2⟩ := del_some q
  have n : b ≠ p := ne_of_none q1 h
  rw [del_out (fun z => z.elim q2 n), upd_ne n]
  exact q1
theorem Wd.more (w : Wd K S O H μ) {p : Addr} {o : HO} (h : H p = none) (hk : mutK o = true := by rfl) : Wd K S (With O p) (upd H p o) μ where
  tabs := (w.add h).tabs
  hid := fun a z e => by
    rcases z with z | z
    · exact (w.add h).hid a z e
    · rw [z, upd_same] at e
      cases e
  hm := fun a z => by
    rcases z with z | z
    · exact (w.add h).hm a z
    · exact ⟨o, by rw [z, upd_same], hk⟩
  rho := fun a z => .inl (w.rho a z)
  len := w.len
  amb := fun j c e => by
    obtain ⟨a, h1, h2⟩ := w.amb j c e
    refine ⟨a, h1, h2.mono (keep_with h) ?_⟩
    rw [upd_ne]
    intro q
    obtain ⟨o, e, _⟩ := h2.there
    rw [q, h] at e
    cases e
/-- a hidden list (no shared cell) is written -/
theorem keep_write {p : Addr} {o' : HO} (ho : O p) : ∀ b o, del H O b = some o → NT o → del (upd H p o') O b = some o := fun b o q _ => by
  obtain ⟨q1, q2⟩ := del_some q
  have n : b ≠ p := fun z => q2 (z ▸ ho)
  rw [del_out q2, upd_ne n]
  exact q1
theorem Wd.write (w : Wd K S O H μ) {p : Addr} {o o' : HO} (ho : O p) (hn : p ∉ S.ρ) (h : H p = some o) (m : mutK o = true) (m' : mutK o' = true := by rfl) : Wd K S O (upd H p o') μ where
  tabs := w.tabs.write h m
  hid := fun a z e => by
    by_cases q : a = p
    · rw [q, upd_same] at e
      cases e
    · rw [upd_ne q] at e
      exact w.hid a z e
  hm := fun a z => by
    by_cases q : a = p
    · exact ⟨o', by rw [q, upd_same], m'⟩
    · obtain ⟨u, e, k⟩ := w.hm a z
      exact ⟨u, by rw [upd_ne q]; exact e, k⟩
  rho := w.rho
  len := w.len
  amb := fun j c e => by
    obtain ⟨a, h1, h2⟩ := w.amb j c e
    refine ⟨a, h1, h2.mono (keep_write ho) ?_⟩
    rw [upd_ne]
    intro q
    exact hn (q ▸ List.mem_of_getElem? h1)
end

/-! ### slots -/
inductive Sl where
  | no | v (d : D) | o (d : D)
abbrev Env := List Sl
def SlIs (K : PySem.W.Frag) (S : Sg) (Ob O : Addr → Prop) (H : Hp) (s : Option (Option V)) : Sl → Prop
  | .no => True
  | .v d => ∃ x, s = some (some x) ∧ Rep K S (del H O) x d
  | .o d => ∃ a, s = some (some (.ref a)) ∧ O a ∧ ¬ Ob a ∧ CellIs K S (del H O) H a d
structure SlsB (K : PySem.W.Frag) (S : Sg) (Ob O : Addr → Prop) (H : Hp) (σ : St) (Γ : Env) : Prop where
  len : σ.length = Γ.length
  hb : ∀ a ∈ S.ρ, Ob a
  at_ : ∀ (i : Nat) (s : Sl), Γ[i]? = some s → SlIs K S Ob O H σ[i]? s
  dis : ∀ (i j : Nat) (a : Addr) (d e : D), Γ[i]? = some (.o d) → Γ[j]? = some (.o e) → σ[i]? = some (some (.ref a)) → σ[j]? = some (some (.ref a)) → i = j
section
variable {K : PySem.W.Frag} {S : Sg} {Ob O O' : Addr → Prop} {H H' : Hp} {μ : List D} {σ : St} {Γ : Env}
theorem SlIs.fr {s : Option (Option V)} {z : Sl} (w : Wd K S O H μ) (hb : ∀ a ∈ S.ρ, Ob a) (f : Fr S H H') (h : SlIs K S Ob O H s z) : SlIs K S Ob O H' s z := by
  cases z with
  | no => trivial
  | v d => obtain ⟨x, e, r⟩ := h; exact ⟨x, e, w.rep f r⟩
  | o d =>
    obtain ⟨a, e, h1, h2, c⟩ := h
    obtain ⟨o, ho, hm⟩ := c.there
    exact ⟨a, e, h1, h2, c.mono (w.keep f) ((f.keep a o ho (fun z => h2 (hb a z)) (mutK_nt hm)).trans ho.symm)⟩
theorem SlsB.fr (s : SlsB K S Ob O H σ Γ) (w : Wd K S O H μ) (f : Fr S H H') : SlsB K S Ob O H' σ Γ := ⟨s.len, s.hb, fun i z e => (s.at_ i z e).fr w s.hb f, s.dis⟩
theorem SlsB.setV (s : SlsB K S Ob O H σ Γ) {i : Nat} {x : V} {d : D} (r : Rep K S (del H O) x d) : SlsB K S Ob O H (σ.set i (some x)) (Γ.set i (.v d)) where
  len := by rw [List.length_set, List.length_set, s.len]
  hb := s.hb
  at_ := fun j z e => by
    by_cases h : i = j
    · subst h
      by_cases hi : i < Γ.length
      · rw [List.getElem?_set_self hi] at e
        cases e
        exact ⟨x, by rw [List.getElem?_set_self (by rw [s.len]; exact hi)], r⟩
      · rw [List.getElem?_eq_none (by rw [List.length_set]; omega)] at e
        cases e
    · rw [List.getElem?_set_ne h] at e ⊢
      exact s.at_ j z e
  dis := fun j k a p q e1 e2 e3 e4 => by
    by_cases h : i = j
    · subst h
      by_cases hi : i < Γ.length
      · rw [List.getElem?_set_self hi] at e1
        cases e1
      · rw [List.getElem?_eq_none (by rw [List.length_set]; omega)] at e1
        cases e1
    · by_cases h' : i = k
      · subst h'
        by_cases hi : i < Γ.length
        · rw [List.getElem?_set_self hi] at e2
          cases e2
        · rw [List.getElem?_eq_none (by rw [List.length_set]; omega)] at e2
          cases e2
      · rw [List.getElem?_set_ne h] at e1 e3
        rw [List.getElem?_set_ne h'] at e2 e4
        exact s.dis j k a p q e1 e2 e3 e4
def wipeG (Γ : Env) : List Nat → Env
  | [] => Γ
  | v :: vs => (wipeG Γ vs).set v .no
theorem SlsB.setNo (s : SlsB K S Ob O H σ Γ) (i : Nat) : SlsB K S Ob O H (σ.set i none) (Γ.set i .no) where
  len := by rw [List.length_set, List.length_set, s.len]
  hb := s.hb
  at_ := fun j z e => by
    by_cases h : i = j
    · subst h
      by_cases hi : i < Γ.length
      · rw [List.getElem?_set_self hi] at e
        cases e
        trivial
      · rw [List.getElem?_eq_none (by rw [List.length_set]; omega)] at e
        cases e
    · rw [List.getElem?_set_ne h] at e ⊢
      exact s.at_ j z e
  dis := fun j k a p q e1 e2 e3 e4 => by
    by_cases h : i = j
    · subst h
      by_cases hi : i < σ.length
      · rw [List.getElem?_set_self hi] at e3
        cases e3
      · rw [List.getElem?_eq_none (by rw [List.length_set]; omega)] at e3
        cases e3
    · by_cases h' : i = k
      · subst h'
        by_cases hi : i < σ.length
        · rw [List.getElem?_set_self hi] at e4
          cases e4
        · rw [List.getElem?_eq_none (by rw [List.length_set]; omega)] at e4
          cases e4
      · rw [List.getElem?_set_ne h] at e1 e3
        rw [List.getElem?_set_ne h'] at e2 e4
        exact s.dis j k a p q e1 e2 e3 e4
theorem SlsB.wipe (s : SlsB K S Ob O H σ Γ) : ∀ vs : List Nat, SlsB K S Ob O H (L2.wipe σ vs) (wipeG Γ vs)
  | [] => s
  | v :: vs => (s.wipe vs).setNo v
/-- a new hidden thing -/
theorem SlIs.more {s : Option (Option V)} {z : Sl} {p : Addr} {o : HO} (hp : H p = none) (h : SlIs K S Ob O H s z) : SlIs K S Ob (With O p) (upd H p o) s z := by
  cases z with
  | no => trivial
  | v d => obtain ⟨x, e, r⟩ := h; exact ⟨x, e, r.mono (keep_with hp)⟩
  | o d =>
    obtain ⟨a, e, h1, h2, c⟩ := h
    obtain ⟨o, ho, hm⟩ := c.there
    exact ⟨a, e, .inl h1, h2, c.mono (keep_with hp) (upd_ne (ne_of_none ho hp))⟩
theorem SlsB.more (s : SlsB K S Ob O H σ Γ) {p : Addr} {o : HO} (hp : H p = none) : SlsB K S Ob (With O p) (upd H p o) σ Γ := ⟨s.len, s.hb, fun i z e => (s.at_ i z e).more hp, s.dis⟩
/-- a hidden thing, in no slot, is written -/
theorem SlIs.write {s : Option (Option V)} {z : Sl} {p : Addr} {o : HO} (hp : O p) (hn : s ≠ some (some (.ref p))) (h : SlIs K S Ob O H s z) : SlIs K S Ob O (upd H p o) s z := by
  cases z with
  | no => trivial
  | v d => obtain ⟨x, e, r⟩ := h; exact ⟨x, e, r.mono (keep_write hp)⟩
  | o d =>
    obtain ⟨a, e, h1, h2, c⟩ := h
    refine ⟨a, e, h1, h2, c.mono (keep_write hp) (upd_ne ?_)⟩
    intro q
    exact hn (by rw [e, q])
def Sls (K : PySem.W.Frag) (S : Sg) (O : Addr → Prop) (H : Hp) (σ : St) (Γ : Env) : Prop := ∃ Ob, SlsB K S Ob O H σ Γ
theorem Sls.fr (s : Sls K S O H σ Γ) (w : Wd K S O H μ) (f : Fr S H H') : Sls K S O H' σ Γ := let ⟨Ob, s⟩ := s; ⟨Ob, s.fr w f⟩
end
end Dd
namespace Dd
open PySem PySem.Spec L2

/-! ### running -/
def Run (K : PySem.W.Frag) (S : Sg) (W : XK) (O : Addr → Prop) (σ : St) (H : Hp) {α : Type} (f : Env → M α) (Q : α → Hp → Prop) : Prop :=
  ∃ Γ μ, Wd K S O H μ ∧ Sls K S O H σ Γ ∧ Good (f Γ μ) (fun a μ' => ∀ H', Fr S H H' → Wd K S O H' μ' → Q a H') (fun c μ' => ∀ H', Fr S H H' → Wd K S O H' μ' → W (.ref (S.EX c)) none H')
section
variable {K : PySem.W.Frag} {S : Sg} {W : XK} {O : Addr → Prop} {σ : St} {H : Hp} {α β : Type}
theorem Run.bind {f : Env → M α} {k : α → Env → M β} {Q : β → Hp → Prop} (h : Run K S W O σ H (fun Γ => M.bind (f Γ) fun a => k a Γ) Q) : Run K S W O σ H f (fun a H1 => Run K S W O σ H1 (k a) Q) := by
  obtain ⟨Γ, μ, w, s, g⟩ := h
  refine ⟨Γ, μ, w, s, (good_bind g).imp (fun a μ1 g1 H1 f1 w1 => ⟨Γ, μ1, w1, s.fr w f1, g1.imp (fun b μ2 q H2 f2 w2 => q H2 (f1.trans f2) w2) (fun c μ2 q H2 f2 w2 => q H2 (f1.trans f2) w2)⟩) (fun c μ1 q => q)⟩
theorem Run.mono {f : Env → M α} {Q Q' : α → Hp → Prop} (h : Run K S W O σ H f Q) (hq : ∀ a H' μ μ', Wd K S O H μ → Fr S H H' → Wd K S O H' μ' → Q a H' → Q' a H') : Run K S W O σ H f Q' := by
  obtain ⟨Γ, μ, w, s, g⟩ := h
  exact ⟨Γ, μ, w, s, g.imp (fun a μ1 q H1 f1 w1 => hq a H1 μ μ1 w f1 w1 (q H1 f1 w1)) (fun c μ1 q => q)⟩
theorem Run.pure {a : α} {Q : α → Hp → Prop} (h : Run K S W O σ H (fun _ => M.pure a) Q) : ∃ μ, Wd K S O H μ ∧ ∀ H', Fr S H H' → Wd K S O H' μ → Q a H' := by
  obtain ⟨Γ, μ, w, s, g⟩ := h
  exact ⟨μ, w, g⟩
theorem Run.opt {z : Option α} {Q : α → Hp → Prop} (h : Run K S W O σ H (fun _ => M.opt z) Q) : ∃ a μ, z = some a ∧ Wd K S O H μ ∧ ∀ H', Fr S H H' → Wd K S O H' μ → Q a H' := by
  obtain ⟨Γ, μ, w, s, g⟩ := h
  cases z with
  | none => exact False.elim g
  | some a => exact ⟨a, μ, rfl, w, g⟩
end
abbrev E := Env → M D
def tD (K : PySem.W.Frag) (S : Sg) (W : XK) (f : E) : TE := fun σ H Q => ∃ O, Run K S W O σ H f fun d H' => ∀ v, Rep K S (del H' O) v d → Q v H'
def tB (K : PySem.W.Frag) (S : Sg) (W : XK) (f : Env → M Bool) : TT := fun σ H Q => ∃ O, Run K S W O σ H f fun b H' => Q b H'
def tAs (K : PySem.W.Frag) (S : Sg) (W : XK) (f : Env → M (List D)) : TA := fun σ H Q => ∃ O, Run K S W O σ H f fun ds H' => ∀ vs, Reps K S (del H' O) vs ds → Q vs H'
abbrev DE (X : Cx) (S : Sg) (W : XK) (e : Expr) (f : E) : Prop := PE X e (tD X.K S W f)
abbrev DT (X : Cx) (S : Sg) (W : XK) (e : Expr) (f : Env → M Bool) : Prop := PT X e (tB X.K S W f)
abbrev DW (X : Cx) (S : Sg) (W : XK) (e : Expr) (f : Env → M Bool) : Prop := PW X e (tB X.K S W f)
abbrev DA (X : Cx) (S : Sg) (W : XK) (es : List Expr) (f : Env → M (List D)) : Prop := PA X es (tAs X.K S W f)
section
variable {X : Cx}
theorem peI {e : Expr} {t t' : TE} (h : PE X e t) (i : ∀ σ H Q, t' σ H Q → t σ H Q) : PE X e t' := ⟨fun pins s σ H Q I q => h.run pins s σ H Q I (i σ H Q q)⟩
theorem ptI {e : Expr} {t t' : TT} (h : PT X e t) (i : ∀ σ H Q, t' σ H Q → t σ H Q) : PT X e t' := ⟨fun pins s σ H Q I q => h.run pins s σ H Q I (i σ H Q q)⟩
theorem pwI {e : Expr} {t t' : TT} (h : PW X e t) (i : ∀ σ H Q, t' σ H Q → t σ H Q) : PW X e t' := ⟨fun wh pins s σ H Q I q => h.run wh pins s σ H Q I (i σ H Q q)⟩
theorem paI {e : List Expr} {t t' : TA} (h : PA X e t) (i : ∀ σ H Q, t' σ H Q → t σ H Q) : PA X e t' := ⟨fun pos pins s σ H Q I q => h.run pos pins s σ H Q I (i σ H Q q)⟩
theorem psI {e : Stmt} {t t' : TS} (h : PS X e t) (i : ∀ D σ H, t' D σ H → t D σ H) : PS X e t' := ⟨fun pins s σ H D I q => h.run pins s σ H D I (i D σ H q)⟩
theorem pssI {e : List Stmt} {t t' : TS} (h : PSs X e t) (i : ∀ D σ H, t' D σ H → t D σ H) : PSs X e t' := ⟨fun pins s σ H D I q => h.run pins s σ H D I (i D σ H q)⟩
end

/-! ### names, constants -/
def eVar (i : Nat) : E := fun Γ => match Γ[i]? with
  | some (.v d) => M.pure d
  | _ => M.bad
def eC (d : D) : E := fun _ => M.pure d
section
variable {X : Cx} {S : Sg} {W : XK}
theorem de_var (i : Nat) {x : Str} {pos : Pos} (hN : X.N[i]? = some x := by rfl) (hv : Vis X.env.scope x := by first | exact Or.inl rfl | exact Or.inr (Or.inl rfl) | exact Or.inr (Or.inr rfl)) (hd : (x == ("__debug__" : Str)) = false := by decide)
    (hcd : (x == ("__classdict__" : Str)) = false := by decide) : DE X S W (.Name x pos) (eVar i) := by
  refine peI (pe_var hN hv hd hcd) fun σ H Q h => ?_
  obtain ⟨O, Γ, μ, w, ⟨Ob, s⟩, g⟩ := h
  unfold eVar at g
  cases e : Γ[i]? with
  | none => rw [e] at g; exact False.elim g
  | some z =>
    rw [e] at g
    cases z with
    | no => exact False.elim g
    | o d => exact False.elim g
    | v d =>
      obtain ⟨x, e1, r⟩ := s.at_ i _ e
      exact ⟨x, e1, g H (Fr.refl S H) w x r⟩
theorem run_c {K : PySem.W.Frag} {σ : St} {H : Hp} {Q : VK} {d : D} (h : tD K S W (eC d) σ H Q) : ∃ O μ, Wd K S O H μ ∧ ∀ v, Rep K S (del H O) v d → Q v H := by
  obtain ⟨O, Γ, μ, w, s, g⟩ := h
  exact ⟨O, μ, w, g H (Fr.refl S H) w⟩
theorem de_int {i : Int} {j : Nat} {pos : Pos} : DE X S W (.Constant (.int i) j pos) (eC (.int i)) := peI pe_int fun σ H Q h => let ⟨_, _, _, q⟩ := run_c h; q _ (.int i)
theorem de_bl {b : Bool} {j : Nat} {pos : Pos} : DE X S W (.Constant (.bool b) j pos) (eC (.bl b)) := peI pe_bl fun σ H Q h => let ⟨_, _, _, q⟩ := run_c h; q _ (.bl b)
theorem de_non {j : Nat} {pos : Pos} : DE X S W (.Constant .none j pos) (eC .non) := peI pe_non fun σ H Q h => let ⟨_, _, _, q⟩ := run_c h; q _ .non
theorem de_str {x : Str} {j : Nat} {pos : Pos} (h1 : x.length ≤ sizeLine := by decide +kernel) (h2 : PyData.strOk x = true := by decide +kernel) : DE X S W (.Constant (.str x) j pos) (eC (.str x)) :=
  peI pe_str fun σ H Q h => let ⟨_, _, _, q⟩ := run_c h; q _ (.str x h1 h2)
/-- a constant of the module -/
structure GC (K : PySem.W.Frag) (mg : Str → Option Value) (x : Str) (d : D) : Prop where
  ex : ∃ v u, mg x = some u ∧ RelV v u ∧ ∀ S H, Rep K S H v d
theorem de_glob {x : Str} {d : D} {pos : Pos} (c : GC X.K X.mg x d) (hg : Gl X x := by rfl) (hd : (x == ("__debug__" : Str)) = false := by decide) : DE X S W (.Name x pos) (eC d) := by
  obtain ⟨v, u, e, r, q⟩ := c.ex
  exact peI (pe_glob hg e r hd) fun σ H Q h => let ⟨_, _, _, k⟩ := run_c h; k _ (q S _)
end

/-! ### operators -/
def OpD (K : PySem.W.Frag) (S : Sg) (r : R2) (dop : D → D → Option D) : Prop := ∀ O H μ x y v w z Q, Wd K S O H μ → Rep K S (del H O) v x → Rep K S (del H O) w y → dop x y = some z →
  (∀ u H', Fr S H H' → Wd K S O H' μ → Rep K S (del H' O) u z → Q u H') → r v w H Q
def eOp (dop : D → D → Option D) (f g : E) : E := fun Γ => M.bind (f Γ) fun x => M.bind (g Γ) fun y => M.opt (dop x y)
section
variable {X : Cx} {S : Sg} {W : XK} {a b c : Expr} {f g k : E} {pos : Pos}
theorem tOp_of {K : PySem.W.Frag} {r : R2} {dop : D → D → Option D} (hd : OpD K S r dop) {σ : St} {H : Hp} {Q : VK} (h : tD K S W (eOp dop f g) σ H Q) : tOp r (tD K S W f) (tD K S W g) σ H Q := by
  obtain ⟨O, h⟩ := h
  refine ⟨O, (Run.bind h).mono fun x H1 μ μ1 w0 f1 w1 h1 v rv => ⟨O, (Run.bind h1).mono fun y H2 _ μ2 _ f2 w2 h2 u ru => ?_⟩⟩
  obtain ⟨z, μ3, e, w3, q⟩ := h2.opt
  exact hd O H2 μ3 x y v u z Q w3 (w1.rep f2 rv) ru e fun u H' f' w' r => q H' f' w' u r
theorem de_op {op : Operator} {r : R2} {dop : D → D → Option D} (ho : OpR X (binaryOp op) r) (hd : OpD X.K S r dop) (ha : DE X S W a f) (hb : DE X S W b g) : DE X S W (.BinOp a op b pos) (eOp dop f g) :=
  peI (pe_op ho ha hb) fun σ H Q h => tOp_of hd h
theorem de_cmp {op : CmpOp} {r : R2} {dop : D → D → Option D} (ho : OpR X (compareOp op) r) (hd : OpD X.K S r dop) (ha : DE X S W a f) (hb : DE X S W b g) (hm : behindInMarks op b = false := by rfl) : DE X S W (.Compare a [op] [b] pos) (eOp dop f g) :=
  peI (pe_cmpR ho ha hb hm) fun σ H Q h => tOp_of hd h
def asB : D → Option Bool
  | .bl b => some b
  | _ => none
def bOf (f : E) : Env → M Bool := fun Γ => M.bind (f Γ) fun d => M.opt (asB d)
theorem asB_some {K : PySem.W.Frag} {H : Hp} {v : V} {d : D} {b : Bool} (h : asB d = some b) (r : Rep K S H v d) : v = .bl b := by
  cases d <;> first | (cases h; done) | (cases h; cases r; rfl)
theorem bOf_run {K : PySem.W.Frag} {t : TE} {σ : St} {H : Hp} {Q : Bool → Hp → Prop} (h : tB K S W (bOf f) σ H Q) : tD K S W f σ H fun x H1 => ∃ b, x = .bl b ∧ Q b H1 := by
  obtain ⟨O, h⟩ := h
  refine ⟨O, (Run.bind h).mono fun x H1 μ μ1 w0 f1 w1 h1 v rv => ?_⟩
  obtain ⟨z, μ3, e, w3, q⟩ := h1.opt
  exact ⟨z, asB_some e rv, q H1 (Fr.refl _ _) w3⟩
theorem dt_cmp {op : CmpOp} {r : R2} {dop : D → D → Option D} (ho : OpR X (compareOp op) r) (hd : OpD X.K S r dop) (ha : DE X S W a f) (hb : DE X S W b g) (hm : behindInMarks op b = false := by rfl) : DT X S W (.Compare a [op] [b] pos) (bOf (eOp dop f g)) :=
  ptI (pt_cmpR ho ha hb hm) fun σ H Q h => tOp_of hd (bOf_run (t := tOp r (tD X.K S W f) (tD X.K S W g)) h)
theorem dt_val (h : DE X S W a f) (he : ∀ whole, isTrue a X.env whole = (do let v ← whole; standAt a.pos; holding [v] (truthy v)) := by intro _; rfl) : DT X S W a (bOf f) :=
  ptI (pt_val h he) fun σ H Q q => bOf_run (t := tD X.K S W f) q
/-- two comparisons in a chain -/
def eChain (dop dop' : D → D → Option D) (f g k : E) : E := fun Γ => M.bind (f Γ) fun x => M.bind (g Γ) fun y => M.bind (M.opt (dop x y)) fun z => M.bind (M.opt (asB z)) fun b =>
  if b = true then M.bind (k Γ) fun w => M.opt (dop' y w) else M.pure (.bl false)
theorem tChain_of {K : PySem.W.Frag} {r r' : R2} {dop dop' : D → D → Option D} (hd : OpD K S r dop) (hd' : OpD K S r' dop') {σ : St} {H : Hp} {Q : VK} (h : tD K S W (eChain dop dop' f g k) σ H Q) :
    tChain r r' (tD K S W f) (tD K S W g) (tD K S W k) σ H Q := by
  obtain ⟨O, h⟩ := h
  refine ⟨O, (Run.bind h).mono fun x H1 μ μ1 w0 f1 w1 h1 v rv => ⟨O, (Run.bind h1).mono fun y H2 _ μ2 _ f2 w2 h2 u ru => ?_⟩⟩
  obtain ⟨Γ, μ3, w3, s3, h3⟩ := h2
  cases e : dop x y with
  | none => rw [e] at h3; exact False.elim h3
  | some z =>
    rw [e] at h3
    simp only [M.opt_some, M.pure_bind] at h3
    refine hd O H2 μ3 x y v u z _ w3 (w1.rep f2 rv) ru e fun u' H' f' w' r' => ?_
    cases e2 : asB z with
    | none => rw [e2] at h3; exact False.elim h3
    | some b =>
      rw [e2] at h3
      simp only [M.opt_some, M.pure_bind] at h3
      refine ⟨b, asB_some e2 r', ?_⟩
      cases b with
      | false => exact h3 H' f' w' _ (.bl false)
      | true =>
        have h4 : Run K S W O σ H' (fun Γ => M.bind (k Γ) fun w => M.opt (dop' y w)) fun d H' => ∀ v, Rep K S (del H' O) v d → Q v H' := ⟨Γ, μ3, w', s3.fr w3 f', Good.imp h3 (fun a μ5 q H5 f5 w5 => q H5 (f'.trans f5) w5) (fun a μ5 q H5 f5 w5 => q H5 (f'.trans f5) w5)⟩
        refine ⟨O, (Run.bind h4).mono fun q H5 _ μ5 _ f5 w5 h5 u5 r5 => ?_⟩
        obtain ⟨z5, μ6, e6, w6, q6⟩ := h5.opt
        exact hd' O H5 μ6 y q u u5 z5 Q w6 (w'.rep f5 (w3.rep f' ru)) r5 e6 fun u H' f' w' r => q6 H' f' w' u r
end
end Dd
namespace HT
open PySem PySem.Calls PyProof.Rows
section
variable {prog : Program} {w : World} {A : Around} {E : Value → Shared → Prop} {s : Shared}
/-- where a sequence of n begins and ends, when it is walked from behind -/
theorem bounds_rev (n : Nat) : Builtin.Slice.sliceAdjust none none (-1) (n : Int) = ((n : Int) - 1, -1) ∧ Builtin.Slice.slicePlaces ((n : Int) - 1) (-1) (-1) = n := by
  constructor
  · simp [Builtin.Slice.sliceAdjust]
  · have : ∀ b : Bool, (if b = true then n else n) = n := fun b => by cases b <;> rfl
    simp [Builtin.Slice.slicePlaces]
    try omega
theorem applied_rev {sl : Addr} {t : Tok} {n : Nat} {Q : Int × Int × Nat → Shared → Prop} (S : s.heap.IsSliceOf sl .none .none (.int (-1) t)) (q : Q ((n : Int) - 1, -1, n) s) : wpAny (model prog w) A (Builtin.Slice.sliceApplied (.ref sl) (pure (n : Int))) Q E s := by
  have ⟨o, g, _, d⟩ := S
  have part : ∀ {k : Nat} {x : Value} {R : Value → Shared → Prop}, #[Value.none, .none, .int (-1) t][k]? = some x → R x s → wpAny (model prog w) A (field (.ref sl) k) R E s := fun e h => wpAny_field g d e h
  simp only [Builtin.Slice.sliceApplied, Builtin.Slice.sliceFields]
  refine wpAny_bind (wpAny_bind (part rfl (wpAny_bind (part rfl (wpAny_bind (part rfl (wpAny_pure (wpAny_bind (slicePart_int ?_)))))))))
  have no0 : ((some (-1 : Int)).getD 1 == 0) = false := rfl
  simp only [no0, Bool.false_eq_true, if_false]
  refine wpAny_bind (slicePart_none (wpAny_bind (slicePart_none (wpAny_bind (wpAny_pure ?_)))))
  simp only [Option.getD_some, (bounds_rev n).1, (bounds_rev n).2]
  exact wpAny_pure q
theorem fm_congr {α β : Type} {f g : α → Option β} : ∀ l : List α, (∀ a ∈ l, f a = g a) → l.filterMap f = l.filterMap g
  | [], _ => rfl
  | a :: r, h => by
    rw [List.filterMap_cons, List.filterMap_cons, h a List.mem_cons_self, fm_congr r fun b hb => h b (List.mem_cons_of_mem _ hb)]
theorem pick_rev (xs : Array Value) : ((List.range xs.size).filterMap fun (m : Nat) => xs[(((xs.size : Nat) : Int) - 1 + (m : Int) * (-1)).toNat]?).toArray = xs.toList.reverse.toArray := by
  congr 1
  have h := PySem.W.krv_all xs
  have h2 : ((List.range xs.size).map fun k => xs.size - 1 - k).filterMap (xs[·]?) = xs.toList.reverse := by
    rw [PySem.W.krv_range, List.filterMap_reverse, h]
  rw [← h2, List.filterMap_map]
  refine fm_congr _ fun m hm => ?_
  have hm := List.mem_range.mp hm
  have e : (((xs.size : Nat) : Int) - 1 + (m : Int) * (-1)).toNat = xs.size - 1 - m := by omega
  rw [e]
  rfl
theorem tuple_rev {a sl : Addr} {items : Array Value} {tk : Tok} {Q : Value → Shared → Prop} (T : IsTup s.heap a items) (S : s.heap.IsSliceOf sl .none .none (.int (-1) tk)) (short : items.size ≤ sizeLine)
    (q : Q (.ref s.heap.objs.size) { s with heap := s.heap.push { cls := .type "tuple", data := .seq items.toList.reverse.toArray } }) : wpAny (model prog w) A (getItem (.ref a) (.ref sl)) Q E s := by
  have fits : sizeOk (.seq items.toList.reverse.toArray) := by
    show items.toList.reverse.toArray.size ≤ sizeLine
    simpa using short
  have tS : s.TypeIs (.ref sl) "slice" := let ⟨o, g, c, _⟩ := S; ⟨o, g, c⟩
  have part : ((((items.size : Nat) : Int) - 1 == 0) && ((-1 : Int) == 1) && (items.size == items.size)) = false := by
    rw [show ((-1 : Int) == 1) = false from rfl, Bool.and_false, Bool.false_and]
  unfold getItem
  apply wpAny_holding
  refine wpAny_bind (wpAny_sequenceKey T.typeIs (by decide) ?_)
  apply wpAny_bind
  apply wpAny_callSpecial?_slot (name := Str.ofString "__getitem__") T.typeIs PyProof.Rows.slot_tuple_getitem
  apply wpAny_call_entry PyProof.Rows.slot_tuple_getitem T.typeIs entry_tuple_getitem _ (args_tuple_getitem _ _)
  refine wpAny_bind (m := Builtin.Tuple.tupleItemsOf (.ref a)) (tupleItemsOf_ T (wpAny_bind (wpAny_typeOf tS ?_)))
  simp only [beq_self_eq_true, if_true]
  refine wpAny_bind (applied_rev S ?_)
  show wpAny _ _ (if (((items.size : Nat) : Int) - 1 == 0 && (-1 : Int) == 1 && items.size == items.size) = true then _ else _) _ _ s
  rw [part, pick_rev]
  exact wpAny_bind (m := Builtin.Tuple.tupleExact _) (wpAny_newObj_type (wpAny_pure ⟨_, rfl, wpAny_pure q⟩) fits)
end
end HT
namespace Dd
open PySem PySem.Spec L2
def revS (z : Str) : Str := ⟨z.cps.toList.reverse.toArray⟩
theorem revS_len (z : Str) : (revS z).length = z.length := by
  show (z.cps.toList.reverse.toArray).size = z.cps.size
  simp
theorem picked_revS (z : Str) : ((Builtin.Str.strSliceIndices none none (-1) z.length).filterMap (z.cps[·]?)).toArray = z.cps.toList.reverse.toArray := by
  congr 1
  rw [PyProof.Rows.picked_rev, PySem.W.krv_range, List.filterMap_reverse]
  congr 1
  have h : (List.range z.cps.size).filterMap (z.cps[·]?) = z.cps.toList := by
    apply List.ext_getElem?
    intro i
    have e : ∀ n, n ≤ z.cps.size → (List.range n).filterMap (z.cps[·]?) = z.cps.toList.take n := by
      intro n
      induction n with
      | zero => intro _; rfl
      | succ n ih =>
        intro hn
        have hn' : n < z.cps.toList.length := by rw [Array.length_toList]; omega
        rw [List.range_succ, List.filterMap_append, ih (by omega), List.take_add_one]
        congr 1
        rw [List.filterMap_cons, ← Array.getElem?_toList, List.getElem?_eq_getElem hn']
        rfl
    rw [e _ (Nat.le_refl _), List.take_of_length_le (by rw [Array.length_toList]; exact Nat.le_refl _)]
  exact h
/-- x[::-1]: a list, a tuple, a text -/
def rRev (K : PySem.W.Frag) : V → Hp → VK → Prop := fun x H1 Q => (∃ a xs, x = .ref a ∧ SqL K H1 a xs ∧ ∀ p, H1 p = none → Q (.ref p) (upd H1 p (.lst xs.reverse))) ∨
  (∃ a xs, x = .ref a ∧ SqT K H1 a xs ∧ ∀ p, H1 p = none → Q (.ref p) (upd H1 p (.tup xs.reverse))) ∨ (∃ z, x = .str z ∧ z.length ≤ sizeLine ∧ Q (.str (revS z)) H1)
def tRev (K : PySem.W.Frag) (te : TE) : TE := fun σ H Q => te σ H fun x H1 => rRev K x H1 Q
section
open PyProof.Rows
variable {X : Cx} {pins : List (Addr × Obj)} {σ : L2.St} {H : Hp} {s : Shared} {k : Nat} {p1 p2 p3 : Pos}
/-- the slice [::-1] as it is written; the object that it is -/
abbrev behind (k : Nat) (p1 p2 p3 : Pos) : Expr := .Slice none none (some (.UnaryOp .USub (.Constant (.int 1) k p1) p2)) p3
abbrev behindO (t : Tok) : Obj := { cls := .type "slice", data := .fields #[.none, .none, .int (-1) t] }
theorem behind_made {Q : Value → Shared → Prop} (I : Inv X pins σ H s) (q : ∀ t s2, Inv X pins σ H s2 → Inv X pins σ H { s2 with heap := s2.heap.push (behindO t) } → Q (.ref s2.heap.objs.size) { s2 with heap := s2.heap.push (behindO t) }) :
    wpAny (model X.prog X.w) X.A (eval (behind k p1 p2 p3) X.env) Q X.xe s := by
  have none_ : ∀ {s1 : Shared} {R : Value → Shared → Prop}, Inv X pins σ H s1 → (∀ s2, Inv X pins σ H s2 → R .none s2) → wpAny (model X.prog X.w) X.A (evalPart none X.env) R X.xe s1 := fun J r =>
    thn (po_none.run pins _ σ H (fun o Z => o = none ∧ Z = H) J ⟨rfl, rfl⟩) fun v s2 ⟨o, Z, J2, pv, eo, eZ⟩ => by
      subst eo eZ
      cases pv
      exact r s2 J2
  refine wpAny_Slice (none_ I fun s1 I1 => none_ I1 fun s2 I2 => ?_)
  refine thn ((po_some (pe_un un_neg pe_int)).run pins s2 σ H (fun o Z => o = some (-1) ∧ Z = H) I2 ⟨1, rfl, -1, rfl, rfl, rfl⟩) fun v s3 ⟨o, Z, I3, pv, eo, eZ⟩ => ?_
  subst eo eZ
  cases pv
  exact q _ s3 I3 (I3.kept (t' := s3.toks) fun _ _ => Heap.get?_push_of_some _)
theorem pe_rev {e : Expr} {te : TE} {pos : Pos} (he : PE X e te) : PE X (.Subscript e (behind k p1 p2 p3) pos) (tRev X.K te) where
  run := fun pins s σ H Q I h => Subscript_ (thn (he.run pins s σ H _ I h) fun v s1 ⟨x, H1, I1, r1, q1⟩ => behind_made I1 fun t s2 I2 I3 => by
    have at_ : (s2.heap.push (behindO t)).IsSliceOf s2.heap.objs.size .none .none (.int (-1) t) := Heap.IsSliceOf.new ..
    have keep : ∀ {o : Obj} (b : Addr) (u : Obj), (s2.heap.push (behindO t)).get? b = some u → ((s2.heap.push (behindO t)).push o).get? b = some u := fun _ _ => Heap.get?_push_of_some _
    rcases q1 with ⟨a, xs, ex, sq, q⟩ | ⟨a, xs, ex, sq, q⟩ | ⟨z, ex, short, q⟩ <;> subst ex
    · cases r1
      obtain ⟨its, r, L, short⟩ := I3.list sq
      refine tail_any (ops := [.ref a, .ref s2.heap.objs.size]) L.isList.typeIs PySem.slot_list_getitem.lookup (wpAny_getItem_list_slice L.isList at_ .none .none (.int (-1) t) (by decide) ?_ ?_) (by with_unfolding_all rfl)
      · rw [PySem.W.krv_pick]
        exact ⟨.ref _, _, I3.laid (t' := s2.toks) (o := .lst xs.reverse) keep (Nat.le_refl _) ⟨by rw [List.length_reverse]; exact short, its.reverse, 0, r.reverse, Heap.get?_push_size _ rfl⟩, rfl, q _ (I3.hok.fresh (Nat.le_refl _))⟩
      · rw [List.size_toArray, ← r.length]
        exact short
    · cases r1
      obtain ⟨its, r, T, short⟩ := I3.tuple sq
      refine tail_any (ops := [.ref a, .ref s2.heap.objs.size]) T.typeIs PyProof.Rows.slot_tuple_getitem.lookup (HT.tuple_rev T at_ (by rw [List.size_toArray, ← r.length]; exact short) ?_) (by with_unfolding_all rfl)
      exact ⟨.ref _, _, I3.laid (t' := s2.toks) (o := .tup xs.reverse) keep (Nat.le_refl _) ⟨by rw [List.length_reverse]; exact short, its.reverse, r.reverse, IsTup.new _ _⟩, rfl, q _ (I3.hok.fresh (Nat.le_refl _))⟩
    · obtain ⟨tz, rfl⟩ := r1
      refine tail_any (ops := [.str z tz, .ref s2.heap.objs.size]) (typeIs_str _ z tz) F.slot_str_getitem.lookup (wpAny_getItem_str_slice (l := none) (u := none) (st := some (-1, t)) ⟨_, Heap.get?_push_size _ rfl, rfl, rfl⟩ rfl ?_) (by with_unfolding_all rfl)
      show Made.post (if ((-1 : Int) == 1 && (Builtin.Str.strSliceIndices none none (-1) z.length).length == z.length) = true then Made.val (.str z tz)
        else Made.str ⟨((Builtin.Str.strSliceIndices none none (-1) z.length).filterMap (z.cps[·]?)).toArray⟩) (EP X pins σ Q) _
      rw [if_neg (by simp), picked_revS]
      exact ⟨by show (revS z).length ≤ sizeLine; rw [revS_len]; exact short, .str _, H1, I3.tok _, ⟨_, rfl⟩, q⟩)
end
end Dd
namespace Dd
open PySem PySem.Spec L2
open PySem.PyData (strOk)

/-! ### texts -/
theorem strOk_iff (s : Str) : strOk s = true ↔ ∀ c ∈ s.cps.toList, c < 0x110000 := by
  unfold PyData.strOk
  rw [← Array.all_toList, List.all_eq_true]
  simp only [decide_eq_true_eq]
theorem app_list (a b : Str) : (a ++ b).cps.toList = a.cps.toList ++ b.cps.toList := by
  show (a.cps ++ b.cps).toList = _
  simp
theorem strOk_app {a b : Str} (h : strOk a = true) (h' : strOk b = true) : strOk (a ++ b) = true := by
  rw [strOk_iff] at *
  intro c hc
  rw [app_list] at hc
  rcases List.mem_append.mp hc with z | z
  · exact h c z
  · exact h' c z
theorem app_len (a b : Str) : (a ++ b).length = a.length + b.length := by
  show (a.cps ++ b.cps).size = a.cps.size + b.cps.size
  simp
theorem strOk_sub {a : Str} {l : List Nat} (h : strOk a = true) (hs : ∀ c ∈ l, c ∈ a.cps.toList) : strOk ⟨l.toArray⟩ = true := by
  rw [strOk_iff] at *
  intro c hc
  have hc : c ∈ l := by simpa using hc
  exact h c (hs c hc)
theorem sizeLine_def : sizeLine = 16777216 := by decide

/-! allotted: a new list, a new tuple -/
section
variable {K : PySem.W.Frag} {S : Sg} {O : Addr → Prop} {H : Hp} {μ : List D} {vs : List V} {ds : List D} {Q : VK}
theorem alloc_lst (w : Wd K S O H μ) (r : Reps K S (del H O) vs ds) (hl : vs.length ≤ sizeLine) (q : ∀ u H', Fr S H H' → Wd K S O H' μ → Rep K S (del H' O) u (.lst ds) → Q u H') : ∀ p, H p = none → Q (.ref p) (upd H p (.lst vs)) := fun p hp =>
  q _ _ (Fr.add hp) (w.add hp) (.lst (by rw [del_out (w.fresh hp)]; exact upd_same) hl (w.reps (Fr.add hp) r))
theorem alloc_tup (w : Wd K S O H μ) (r : Reps K S (del H O) vs ds) (hl : vs.length ≤ sizeLine) (q : ∀ u H', Fr S H H' → Wd K S O H' μ → Rep K S (del H' O) u (.tup ds) → Q u H') : ∀ p, H p = none → Q (.ref p) (upd H p (.tup vs)) := fun p hp =>
  q _ _ (Fr.add hp) (w.add hp) (.tup (.inl (.inl (by rw [del_out (w.fresh hp)]; exact upd_same))) hl (w.reps (Fr.add hp) r))
theorem seen {a : Addr} {o : HO} (h : del H O a = some o) : H a = some o := (del_some h).1
theorem seenL {a : Addr} {xs : List V} (h : SqL K (del H O) a xs) : SqL K H a xs := sqL_mono (fun b o e _ => seen e) h
theorem seenT {a : Addr} {xs : List V} (h : SqT K (del H O) a xs) : SqT K H a xs := sqT_mono (fun b o e _ => seen e) h
end

/-! ### + - * // % ** -/
def dAdd : D → D → Option D
  | .int i, .int j => some (.int (i + j))
  | .str a, .str b => if a.length + b.length ≤ 16777216 then some (.str (a ++ b)) else none
  | .lst a, .lst b => if a.length + b.length ≤ 16777216 then some (.lst (a ++ b)) else none
  | .tup a, .tup b => if a.length + b.length ≤ 16777216 then some (.tup (a ++ b)) else none
  | _, _ => none
def rAddD (K : PySem.W.Frag) : R2 := fun x y H Q => (rI0 (fun i j => .int (i + j)) x y H Q ∨ (∃ i j, x = .str i ∧ y = .str j ∧ i.length + j.length ≤ sizeLine ∧ Q (.str (i ++ j)) H)) ∨ (rCat x y H Q ∨ rCatA K x y H Q)
section
variable {X : Cx} {K : PySem.W.Frag} {S : Sg}
theorem op_addD : OpR X (binaryOp .Add) (rAddD X.K) := (op_add.or op_add_str).or (op_cat.or op_catA)
theorem hd_add : OpD K S (rAddD K) dAdd := by
  intro O H μ x y v w z Q wd rx ry e q
  unfold dAdd at e
  split at e
  · rename_i i j
    cases e; cases rx; cases ry
    exact .inl (.inl ⟨i, j, rfl, rfl, q _ H (Fr.refl _ _) wd (.int _)⟩)
  · rename_i a b
    split at e
    · rename_i hl
      cases e
      cases rx with | str _ h1 h2 =>
      cases ry with | str _ h3 h4 =>
      exact .inl (.inr ⟨a, b, rfl, rfl, by rw [sizeLine_def]; exact hl, q _ H (Fr.refl _ _) wd (.str _ (by rw [app_len, sizeLine_def]; exact hl) (strOk_app h2 h4))⟩)
    · cases e
  · rename_i a b
    split at e
    · rename_i hl
      cases e
      cases rx with | lst h1 h2 h3 =>
      cases ry with | lst h4 h5 h6 =>
      have hl' := hl
      rw [← h3.length, ← h6.length] at hl'
      exact .inr (.inl ⟨_, _, _, _, rfl, rfl, seen h1, seen h4, by rw [sizeLine_def]; exact hl', alloc_lst wd (h3.append h6) (by rw [List.length_append, sizeLine_def]; exact hl') q⟩)
    · cases e
  · rename_i a b
    split at e
    · rename_i hl
      cases e
      cases rx with | tup h1 h2 h3 =>
      cases ry with | tup h4 h5 h6 =>
      have hl' := hl
      rw [← h3.length, ← h6.length] at hl'
      refine .inr (.inr ⟨_, _, _, _, rfl, rfl, seenT h1, seenT h4, by rw [sizeLine_def]; exact hl', fun e => ?_, fun e e2 => ?_, fun e e2 => alloc_tup wd (h3.append h6) (by rw [List.length_append, sizeLine_def]; exact hl') q⟩)
      · subst e
        cases h3
        exact q _ H (Fr.refl _ _) wd (.tup h4 h5 h6)
      · subst e2
        cases h6
        rw [List.append_nil] at q
        exact q _ H (Fr.refl _ _) wd (.tup h1 h2 h3)
    · cases e
  · cases e

def dSub : D → D → Option D
  | .int i, .int j => some (.int (i - j))
  | _, _ => none
theorem hd_sub : OpD K S (rI0 fun i j => .int (i - j)) dSub := by
  intro O H μ x y v w z Q wd rx ry e q
  unfold dSub at e
  split at e
  · cases e; cases rx; cases ry
    exact ⟨_, _, rfl, rfl, q _ H (Fr.refl _ _) wd (.int _)⟩
  · cases e

/-- a text times a number -/
def repS (z : Str) (n : Nat) : Str := ⟨((List.replicate n z.cps.toList).flatten).toArray⟩
theorem fold_app (l : List (Array Nat)) (acc : Array Nat) : (l.foldl (· ++ ·) acc).toList = acc.toList ++ (l.map (·.toList)).flatten := by
  induction l generalizing acc with
  | nil => simp
  | cons a r ih =>
    rw [List.foldl_cons, ih, List.map_cons, List.flatten_cons]
    simp
theorem repS_eq (z : Str) (n : Nat) : (⟨(List.replicate n z.cps).foldl (· ++ ·) #[]⟩ : Str) = repS z n := by
  unfold repS
  congr 1
  apply Array.ext'
  rw [fold_app]
  simp
theorem repS_len (z : Str) (n : Nat) : (repS z n).length = z.length * n := by
  show (((List.replicate n z.cps.toList).flatten).toArray).size = z.cps.size * n
  simp [Nat.mul_comm]
theorem strOk_rep {z : Str} {n : Nat} (h : strOk z = true) : strOk (repS z n) = true := by
  refine strOk_sub h fun c hc => ?_
  obtain ⟨l, h1, h2⟩ := List.mem_flatten.mp hc
  rw [(List.mem_replicate.mp h1).2] at h2
  exact h2
def rMulS : R2 := fun x y H Q => ∃ z n, x = .str z ∧ y = .int n ∧ z.length ≤ sizeLine ∧ n < 2 ^ 24 ∧ 0 ≤ n ∧ z.length * n.toNat ≤ sizeLine ∧ Q (.str (repS z n.toNat)) H
theorem op_mulS : OpR X (binaryOp .Mult) rMulS := by
  intro pins s σ H x y v u Q I rx ry h
  obtain ⟨z, n, rfl, rfl, hz, hn, h0, hl, q⟩ := h
  obtain ⟨t, rfl⟩ := rx
  obtain ⟨t', rfl⟩ := ry
  rw [sizeLine_def] at hl hz
  refine PySem.P.mul_str ?_ (fun h1 h2 => ?_) (fun h1 h2 => ?_) ?_
  · rw [decide_eq_false (by omega), decide_eq_false (by omega)]; rfl
  · have : ((z.length : Nat) : Int) ≤ 16777216 := by omega
    have h3 : (0 : Int) < n := by omega
    have h4 : (16777216 : Int) ≤ (2 ^ 63 - 1) / n := by
      rw [Int.le_ediv_iff_mul_le h3]
      have : 16777216 * n ≤ 16777216 * 2 ^ 24 := Int.mul_le_mul_of_nonneg_left (by omega) (by decide)
      omega
    omega
  · unfold Builtin.Str.tooLong
    simp only [decide_eq_false_iff_not, sizeLine_def]
    omega
  · by_cases h1 : n < 1
    · rw [if_pos h1]
      have e : n.toNat = 0 := by omega
      rw [e] at q
      exact ⟨by decide, .str _, H, I.tok _, ⟨_, rfl⟩, q⟩
    · rw [if_neg h1]
      by_cases h2 : (n == 1 || z.length == 0) = true
      · rw [if_pos h2]
        have e : repS z n.toNat = z := by
          rcases Bool.or_eq_true _ _ ▸ h2 with h | h
          · have : n = 1 := by simpa using h
            subst this
            unfold repS
            simp
          · have hz0 : z.cps = #[] := Array.eq_empty_of_size_eq_zero (show z.length = 0 by simpa using h)
            unfold repS
            cases z
            simp only at hz0
            subst hz0
            simp
        rw [e] at q
        exact ⟨.str z, H, I, ⟨t, rfl⟩, q⟩
      · rw [if_neg h2, repS_eq]
        exact ⟨by show (repS z n.toNat).length ≤ sizeLine; rw [repS_len, sizeLine_def]; exact hl, .str _, H, I.tok _, ⟨_, rfl⟩, q⟩
def dMul : D → D → Option D
  | .int i, .int j => if (-(2 ^ 64) < i ∧ i < 2 ^ 64) ∨ (-(2 ^ 64) < j ∧ j < 2 ^ 64) then some (.int (i * j)) else none
  | .str a, .int n => if 0 ≤ n ∧ n < 2 ^ 24 ∧ a.length * n.toNat ≤ 16777216 then some (.str (repS a n.toNat)) else none
  | .lst a, .int n => if 0 ≤ n ∧ n < 2 ^ 24 ∧ a.length * n.toNat ≤ 16777216 then some (.lst (List.replicate n.toNat a).flatten) else none
  | _, _ => none
def rMulD : R2 := fun x y H Q => (rI CMul (fun i j => .int (i * j)) x y H Q ∨ rMulS x y H Q) ∨ rRep x y H Q
theorem op_mulD : OpR X (binaryOp .Mult) rMulD := (op_mul.or op_mulS).or op_rep
theorem hd_mul : OpD K S rMulD dMul := by
  intro O H μ x y v w z Q wd rx ry e q
  unfold dMul at e
  split at e
  · split at e
    · rename_i hc
      cases e; cases rx; cases ry
      exact .inl (.inl ⟨_, _, rfl, rfl, hc, q _ H (Fr.refl _ _) wd (.int _)⟩)
    · cases e
  · rename_i a n
    split at e
    · rename_i hc
      cases e
      cases ry
      cases rx with | str _ h1 h2 =>
      exact .inl (.inr ⟨_, _, rfl, rfl, h1, hc.2.1, hc.1, by rw [sizeLine_def]; exact hc.2.2, q _ H (Fr.refl _ _) wd (.str _ (by rw [repS_len, sizeLine_def]; exact hc.2.2) (strOk_rep h2))⟩)
    · cases e
  · rename_i a n
    split at e
    · rename_i hc
      cases e
      cases ry
      cases rx with | lst h1 h2 h3 =>
      have hl := hc.2.2
      rw [← h3.length] at hl
      refine .inr ⟨_, _, _, rfl, rfl, seen h1, by omega, by omega, by rw [sizeLine_def]; exact hl, alloc_lst wd (h3.replicate _) ?_ q⟩
      rw [List.length_flatten, List.map_replicate, List.sum_replicate_nat, sizeLine_def, Nat.mul_comm]
      exact hl
    · cases e
  · cases e
def dFdiv : D → D → Option D
  | .int i, .int j => if 0 < j ∧ j < 1073741824 then some (.int (i / j)) else none
  | _, _ => none
theorem hd_fdiv : OpD K S (rI CDiv fun i j => .int (i / j)) dFdiv := by
  intro O H μ x y v w z Q wd rx ry e q
  unfold dFdiv at e
  split at e
  · split at e
    · rename_i hc
      cases e; cases rx; cases ry
      exact ⟨_, _, rfl, rfl, hc, q _ H (Fr.refl _ _) wd (.int _)⟩
    · cases e
  · cases e
def dMod : D → D → Option D
  | .int i, .int j => if 0 < j then some (.int (i % j)) else none
  | _, _ => none
theorem hd_mod : OpD K S (rI (fun _ j => 0 < j) fun i j => .int (i % j)) dMod := by
  intro O H μ x y v w z Q wd rx ry e q
  unfold dMod at e
  split at e
  · split at e
    · rename_i hc
      cases e; cases rx; cases ry
      exact ⟨_, _, rfl, rfl, hc, q _ H (Fr.refl _ _) wd (.int _)⟩
    · cases e
  · cases e
def dPow : D → D → Option D
  | .int i, .int j => if 0 ≤ j ∧ j ≤ 1000000 ∧ i.natAbs < 2 ^ 64 then some (.int (i ^ j.toNat)) else none
  | _, _ => none
theorem hd_pow : OpD K S (rI CPow fun i j => .int (i ^ j.toNat)) dPow := by
  intro O H μ x y v w z Q wd rx ry e q
  unfold dPow at e
  split at e
  · split at e
    · rename_i hc
      cases e; cases rx; cases ry
      exact ⟨_, _, rfl, rfl, hc, q _ H (Fr.refl _ _) wd (.int _)⟩
    · cases e
  · cases e

/-! ### comparisons -/
def dCmp (p : Int → Int → Bool) : D → D → Option D
  | .int i, .int j => some (.bl (p i j))
  | _, _ => none
theorem hd_cmp {p : Int → Int → Bool} : OpD K S (rI0 fun i j => .bl (p i j)) (dCmp p) := by
  intro O H μ x y v w z Q wd rx ry e q
  unfold dCmp at e
  split at e
  · cases e; cases rx; cases ry
    exact ⟨_, _, rfl, rfl, q _ H (Fr.refl _ _) wd (.bl _)⟩
  · cases e
abbrev dLt := dCmp fun i j => decide (i < j)
abbrev dLe := dCmp fun i j => decide (i ≤ j)
abbrev dGt := dCmp fun i j => decide (j < i)
abbrev dGe := dCmp fun i j => decide (j ≤ i)

mutual
def toPy : D → PyData
  | .non => .none
  | .bl b => .bool b
  | .int i => .int i
  | .str s => .str s
  | .lst xs => .list (toPys xs)
  | .tup xs => .tuple (toPys xs)
  | .dk _ _ | .dt _ _ | .obj _ _ | .cell _ | .lam _ | .rol _ => .dict []
def toPys : List D → List PyData
  | [] => []
  | x :: xs => toPy x :: toPys xs
end
mutual
/-- plain data, at most n deep -/
def isPy : Nat → D → Bool
  | _, .non | _, .bl _ | _, .int _ | _, .str _ => true
  | n, .lst xs => match n with
    | 0 => false
    | n + 1 => arePy n xs
  | n, .tup xs => match n with
    | 0 => false
    | n + 1 => arePy n xs
  | _, .dk _ _ | _, .dt _ _ | _, .obj _ _ | _, .cell _ | _, .lam _ | _, .rol _ => false
def arePy : Nat → List D → Bool
  | _, [] => true
  | n, x :: xs => isPy n x && arePy n xs
end
mutual
theorem Rep.py {H : Hp} : ∀ {d : D} {v : V} {n : Nat}, Rep K S H v d → isPy n d = true → Dp K H v (toPy d) ∧ (toPy d).canLay0 = true ∧ (toPy d).depth ≤ n
  | .non, _, n, r, h => by cases r; exact ⟨.non, by simp [toPy, PyData.canLay0], by simp [toPy, PyData.depth]⟩
  | .bl b, _, n, r, h => by cases r; exact ⟨.bl b, by simp [toPy, PyData.canLay0], by simp [toPy, PyData.depth]⟩
  | .int i, _, n, r, h => by cases r; exact ⟨.int i, by simp [toPy, PyData.canLay0], by simp [toPy, PyData.depth]⟩
  | .str s, _, n, r, h => by
    cases r with | str _ h1 h2 =>
    exact ⟨.str s, by simp [toPy, PyData.canLay0, h2], by simp [toPy, PyData.depth]⟩
  | .lst ds, _, n, r, h => by
    cases r with | lst h1 h2 h3 =>
    cases n with
    | zero => simp [isPy] at h
    | succ n =>
      rw [isPy] at h
      obtain ⟨a, b, c⟩ := Reps.py h3 h
      refine ⟨?_, ?_, ?_⟩
      · rw [toPy]; exact .lst (.inl (.inl h1)) a
      · rw [toPy, PyData.canLay0]; exact b
      · rw [toPy, PyData.depth]; omega
  | .tup ds, _, n, r, h => by
    cases r with | tup h1 h2 h3 =>
    cases n with
    | zero => simp [isPy] at h
    | succ n =>
      rw [isPy] at h
      obtain ⟨a, b, c⟩ := Reps.py h3 h
      refine ⟨?_, ?_, ?_⟩
      · rw [toPy]; exact .tup h1 a
      · rw [toPy, PyData.canLay0]; exact b
      · rw [toPy, PyData.depth]; omega
  | .dk _ _, _, n, r, h => by simp [isPy] at h
  | .dt _ _, _, n, r, h => by simp [isPy] at h
  | .obj _ _, _, n, r, h => by simp [isPy] at h
  | .cell _, _, n, r, h => by simp [isPy] at h
  | .lam _, _, n, r, h => by simp [isPy] at h
  | .rol _, _, n, r, h => by simp [isPy] at h
theorem Reps.py {H : Hp} : ∀ {ds : List D} {vs : List V} {n : Nat}, Reps K S H vs ds → arePy n ds = true → DpAll K H vs (toPys ds) ∧ PyData.canLayAll0 (toPys ds) = true ∧ PyData.depthAll (toPys ds) ≤ n
  | [], _, n, r, h => by cases r; exact ⟨.nil, by simp [toPys, PyData.canLayAll0], by simp [toPys, PyData.depthAll]⟩
  | d :: ds, _, n, r, h => by
    cases r with | cons a b =>
    rw [arePy, Bool.and_eq_true] at h
    obtain ⟨a1, a2, a3⟩ := Rep.py a h.1
    obtain ⟨b1, b2, b3⟩ := Reps.py b h.2
    refine ⟨?_, ?_, ?_⟩
    · rw [toPys]; exact .cons a1 b1
    · rw [toPys, PyData.canLayAll0, a2, b2]; rfl
    · rw [toPys, PyData.depthAll]; omega
end
def eqD (x y : D) : Bool := PyData.eqv (toPy x) (toPy y)
def dEq (x y : D) : Option D := if isPy 8 x = true ∧ isPy 8 y = true then some (.bl (eqD x y)) else none
def dNe (x y : D) : Option D := if isPy 8 x = true ∧ isPy 8 y = true then some (.bl (!eqD x y)) else none
theorem dp_seen {O : Addr → Prop} {H : Hp} {v : V} {d : D} (r : Rep K S (del H O) v d) : Rep K S H v d := r.mono fun b o e _ => seen e
theorem hd_eq : OpD K S (rEqD K) dEq := by
  intro O H μ x y v w z Q wd rx ry e q
  unfold dEq at e
  split at e
  · rename_i hc
    cases e
    obtain ⟨a1, a2, a3⟩ := (dp_seen rx).py hc.1
    obtain ⟨b1, b2, b3⟩ := (dp_seen ry).py hc.2
    refine ⟨_, _, a1, b1, ?_, ?_, q _ H (Fr.refl _ _) wd (.bl _)⟩
    · unfold SeqAt.shaped
      rw [a2, decide_eq_true (by omega)]
      rfl
    · unfold SeqAt.shaped
      rw [b2, decide_eq_true (by omega)]
      rfl
  · cases e
theorem hd_ne : OpD K S (rNeD K) dNe := by
  intro O H μ x y v w z Q wd rx ry e q
  unfold dNe at e
  split at e
  · rename_i hc
    cases e
    obtain ⟨a1, a2, a3⟩ := (dp_seen rx).py hc.1
    obtain ⟨b1, b2, b3⟩ := (dp_seen ry).py hc.2
    refine ⟨_, _, a1, b1, ?_, ?_, q _ H (Fr.refl _ _) wd (.bl _)⟩
    · unfold SeqAt.shaped
      rw [a2, decide_eq_true (by omega)]
      rfl
    · unfold SeqAt.shaped
      rw [b2, decide_eq_true (by omega)]
      rfl
  · cases e
/-- is None -/
def isNon : D → Bool
  | .non => true
  | _ => false
theorem isNon_rep {H : Hp} {v : V} {d : D} (r : Rep K S H v d) : decide (v = .non) = isNon d := by
  cases r <;> first | rfl | (exact decide_eq_false (fun z => by cases z))
def dIs (x y : D) : Option D := if isNon y = true then some (.bl (isNon x)) else none
def dIsNot (x y : D) : Option D := if isNon y = true then some (.bl (!isNon x)) else none
theorem hd_is : OpD K S (fun x y H Q => y = .non ∧ Q (.bl (decide (x = .non))) H) dIs := by
  intro O H μ x y v w z Q wd rx ry e q
  unfold dIs at e
  split at e
  · rename_i hc
    cases e
    refine ⟨?_, ?_⟩
    · have := isNon_rep ry
      rw [hc] at this
      exact of_decide_eq_true this
    · rw [isNon_rep rx]
      exact q _ H (Fr.refl _ _) wd (.bl _)
  · cases e
theorem hd_isNot : OpD K S (fun x y H Q => y = .non ∧ Q (.bl (!decide (x = .non))) H) dIsNot := by
  intro O H μ x y v w z Q wd rx ry e q
  unfold dIsNot at e
  split at e
  · rename_i hc
    cases e
    refine ⟨?_, ?_⟩
    · have := isNon_rep ry
      rw [hc] at this
      exact of_decide_eq_true this
    · rw [isNon_rep rx]
      exact q _ H (Fr.refl _ _) wd (.bl _)
  · cases e
/-- in: flat things in a list or tuple; a sign in a text -/
def flatD : D → Bool
  | .non | .bl _ | .int _ | .str _ => true
  | _ => false
def eqF : D → D → Bool
  | .non, .non => true
  | .bl a, .bl b => a == b
  | .bl a, .int b => (if a then 1 else 0) == b
  | .int a, .bl b => a == (if b then 1 else 0)
  | .int a, .int b => a == b
  | .str a, .str b => a == b
  | _, _ => false
theorem flat_rep {H : Hp} {v : V} {d : D} (r : Rep K S H v d) : flatD d = flatV v := by cases r <;> rfl
theorem eqF_rep {H : Hp} {v w : V} {d e : D} (r : Rep K S H v d) (r' : Rep K S H w e) : eqF d e = eqV v w := by
  cases r <;> cases r' <;> rfl
theorem flats_rep {H : Hp} : ∀ {vs : List V} {ds : List D}, Reps K S H vs ds → ds.all flatD = vs.all flatV
  | _, _, .nil => rfl
  | _, _, .cons a b => by rw [List.all_cons, List.all_cons, flat_rep a, flats_rep b]
theorem inF_rep {H : Hp} {v : V} {d : D} (r : Rep K S H v d) : ∀ {vs : List V} {ds : List D}, Reps K S H vs ds → (ds.any fun y => eqF y d) = vs.any fun y => eqV y v
  | _, _, .nil => rfl
  | _, _, .cons a b => by rw [List.any_cons, List.any_cons, eqF_rep a r, inF_rep r b]
def inD (x : D) : D → Option Bool
  | .lst ys => if flatD x = true ∧ ys.all flatD = true then some (ys.any fun y => eqF y x) else none
  | .tup ys => if flatD x = true ∧ ys.all flatD = true then some (ys.any fun y => eqF y x) else none
  | .str z => match x with
    | .str s => match s.cps.toList with
      | [c] => some (decide (c ∈ z.cps.toList))
      | _ => none
    | _ => none
  | _ => none
def dIn (x y : D) : Option D := (inD x y).map .bl
def dNotIn (x y : D) : Option D := (inD x y).map fun b => .bl (!b)
def rInD (K : PySem.W.Frag) : R2 := fun x y H Q => rIn K false x y H Q ∨ ∃ (c : Nat) (z : Str), x = .str ⟨#[c]⟩ ∧ y = .str z ∧ Q (.bl (decide (c ∈ z.cps.toList))) H
def rNotInD2 (K : PySem.W.Frag) : R2 := fun x y H Q => rIn K true x y H Q ∨ ∃ (c : Nat) (z : Str), x = .str ⟨#[c]⟩ ∧ y = .str z ∧ Q (.bl (!decide (c ∈ z.cps.toList))) H
theorem op_inD : OpR X (compareOp .In) (rInD X.K) := op_in_seq.or op_in_sign
theorem op_notInD2 : OpR X (compareOp .NotIn) (rNotInD2 X.K) := op_notIn_seq.or op_notIn_sign
theorem inD_cases {O : Addr → Prop} {H : Hp} {x y : D} {v w : V} {b : Bool} (rx : Rep K S (del H O) v x) (ry : Rep K S (del H O) w y) (e : inD x y = some b) :
    (∃ p xs, w = .ref p ∧ (SqL K H p xs ∨ SqT K H p xs) ∧ flatV v = true ∧ xs.all flatV = true ∧ b = inV v xs) ∨ ∃ (c : Nat) (z : Str), v = .str ⟨#[c]⟩ ∧ w = .str z ∧ b = decide (c ∈ z.cps.toList) := by
  unfold inD at e
  split at e
  · split at e
    · rename_i hc
      cases e
      cases ry with | lst h1 h2 h3 =>
      exact .inl ⟨_, _, rfl, .inl (.inl (.inl (seen h1))), by rw [← flat_rep rx]; exact hc.1, by rw [← flats_rep h3]; exact hc.2, inF_rep rx h3⟩
    · cases e
  · split at e
    · rename_i hc
      cases e
      cases ry with | tup h1 h2 h3 =>
      exact .inl ⟨_, _, rfl, .inr (seenT h1), by rw [← flat_rep rx]; exact hc.1, by rw [← flats_rep h3]; exact hc.2, inF_rep rx h3⟩
    · cases e
  · split at e
    · split at e
      · rename_i _ s l c hs
        have hs2 : s = (⟨#[c]⟩ : Str) := by
          obtain ⟨a⟩ := s
          rw [show a = #[c] from Array.ext' hs]
        subst hs2
        cases e
        cases ry
        cases rx
        exact .inr ⟨c, _, rfl, rfl, rfl⟩
      · cases e
    · cases e
  · cases e
theorem hd_in : OpD K S (rInD K) dIn := by
  intro O H μ x y v w z Q wd rx ry e q
  unfold dIn at e
  obtain ⟨b, e1, e2⟩ := Option.map_eq_some_iff.mp e
  subst e2
  have q' := q _ H (Fr.refl _ _) wd (.bl b)
  rcases inD_cases rx ry e1 with ⟨p, xs, rfl, h1, h2, h3, rfl⟩ | ⟨c, z, rfl, rfl, rfl⟩
  · exact .inl ⟨p, xs, rfl, h1, h2, h3, by simpa using q'⟩
  · exact .inr ⟨c, z, rfl, rfl, q'⟩
theorem hd_notIn : OpD K S (rNotInD2 K) dNotIn := by
  intro O H μ x y v w z Q wd rx ry e q
  unfold dNotIn at e
  obtain ⟨b, e1, e2⟩ := Option.map_eq_some_iff.mp e
  subst e2
  have q' := q _ H (Fr.refl _ _) wd (.bl (!b))
  rcases inD_cases rx ry e1 with ⟨p, xs, rfl, h1, h2, h3, rfl⟩ | ⟨c, z, rfl, rfl, rfl⟩
  · exact .inl ⟨p, xs, rfl, h1, h2, h3, by simpa using q'⟩
  · exact .inr ⟨c, z, rfl, rfl, q'⟩
end
end Dd
namespace Dd
open PySem PySem.Spec L2
open PySem.PyData (strOk)

/-! ### tests, and, or, not, if -/
section
variable {X : Cx} {S : Sg} {W : XK} {a b c : Expr} {f g k : E} {fb gb : Env → M Bool} {pos : Pos} {rest : List Expr}
theorem dt_chain {op op' : CmpOp} {r r' : R2} {dop dop' : D → D → Option D} (ho : OpR X (compareOp op) r) (hd : OpD X.K S r dop) (ho' : OpR X (compareOp op') r') (hd' : OpD X.K S r' dop') (ha : DE X S W a f) (hb : DE X S W b g) (hc : DE X S W c k)
    (hm : lastMarks [op, op'] [b, c] = false := by with_unfolding_all rfl) : DT X S W (.Compare a [op, op'] [b, c] pos) (bOf (eChain dop dop' f g k)) :=
  ptI (pt_chain ho ho' ha hb hc hm) fun σ H Q h => tChain_of hd hd' (bOf_run (t := tChain r r' (tD X.K S W f) (tD X.K S W g) (tD X.K S W k)) h)
theorem de_chain {op op' : CmpOp} {r r' : R2} {dop dop' : D → D → Option D} (ho : OpR X (compareOp op) r) (hd : OpD X.K S r dop) (ho' : OpR X (compareOp op') r') (hd' : OpD X.K S r' dop') (ha : DE X S W a f) (hb : DE X S W b g) (hc : DE X S W c k)
    (hm : lastMarks [op, op'] [b, c] = false := by with_unfolding_all rfl) : DE X S W (.Compare a [op, op'] [b, c] pos) (eChain dop dop' f g k) :=
  peI (pe_chain ho ho' ha hb hc hm) fun σ H Q h => tChain_of hd hd' h
def bAnd (f g : Env → M Bool) : Env → M Bool := fun Γ => M.bind (f Γ) fun c => if c = true then g Γ else M.pure false
def bOr (f g : Env → M Bool) : Env → M Bool := fun Γ => M.bind (f Γ) fun c => if c = true then M.pure true else g Γ
def bNot (f : Env → M Bool) : Env → M Bool := fun Γ => M.bind (f Γ) fun c => M.pure (!c)
theorem dw_and1 (ha : DT X S W a fb) : DW X S W (.BoolOp .And [a] pos) fb := pw_and1 ha
theorem dw_or1 (ha : DT X S W a fb) : DW X S W (.BoolOp .Or [a] pos) fb := pw_or1 ha
theorem dw_and (ha : DT X S W a fb) (hb : DW X S W (.BoolOp .And (b :: rest) pos) gb) : DW X S W (.BoolOp .And (a :: b :: rest) pos) (bAnd fb gb) :=
  pwI (pw_and ha hb) fun σ H Q ⟨O, h⟩ => ⟨O, (Run.bind h).mono fun c H1 μ μ1 w0 f1 w1 h1 => by
    cases c with
    | true => exact ⟨O, h1⟩
    | false =>
      obtain ⟨μ2, w2, q⟩ := Run.pure h1
      exact q H1 (Fr.refl _ _) w2⟩
theorem dw_or (ha : DT X S W a fb) (hb : DW X S W (.BoolOp .Or (b :: rest) pos) gb) : DW X S W (.BoolOp .Or (a :: b :: rest) pos) (bOr fb gb) :=
  pwI (pw_or ha hb) fun σ H Q ⟨O, h⟩ => ⟨O, (Run.bind h).mono fun c H1 μ μ1 w0 f1 w1 h1 => by
    cases c with
    | false => exact ⟨O, h1⟩
    | true =>
      obtain ⟨μ2, w2, q⟩ := Run.pure h1
      exact q H1 (Fr.refl _ _) w2⟩
theorem dt_w (h : DW X S W a fb) : DT X S W a fb := h.pt
theorem dt_not (ha : DT X S W a fb) : DT X S W (.UnaryOp .Not a pos) (bNot fb) :=
  ptI (pt_not ha) fun σ H Q ⟨O, h⟩ => ⟨O, (Run.bind h).mono fun c H1 μ μ1 w0 f1 w1 h1 => by
    obtain ⟨μ2, w2, q⟩ := Run.pure h1
    exact q H1 (Fr.refl _ _) w2⟩
/-- as values -/
def eAnd (f g : E) : E := fun Γ => M.bind (f Γ) fun x => M.bind (M.opt (asB x)) fun c => if c = true then g Γ else M.pure (.bl false)
def eOr (f g : E) : E := fun Γ => M.bind (f Γ) fun x => M.bind (M.opt (asB x)) fun c => if c = true then M.pure (.bl true) else g Γ
def eNot (f : E) : E := fun Γ => M.bind (f Γ) fun x => M.bind (M.opt (asB x)) fun c => M.pure (.bl (!c))
theorem run_opt_bind {K : PySem.W.Frag} {O : Addr → Prop} {σ : St} {H : Hp} {α β : Type} {z : Option α} {q : α → Env → M β} {Q : β → Hp → Prop} (h : Run K S W O σ H (fun Γ => M.bind (M.opt z) fun a => q a Γ) Q) : ∃ a, z = some a ∧ Run K S W O σ H (q a) Q := by
  cases z with
  | none =>
    obtain ⟨Γ, μ, w, s, g⟩ := h
    exact False.elim g
  | some a => exact ⟨a, rfl, h⟩
theorem de_one {op : BoolOp} (ha : DE X S W a f) : DE X S W (.BoolOp op [a] pos) f := pe_one ha
theorem de_and (ha : DE X S W a f) (hb : DE X S W (.BoolOp .And (b :: rest) pos) g) : DE X S W (.BoolOp .And (a :: b :: rest) pos) (eAnd f g) :=
  peI (pe_and ha hb) fun σ H Q ⟨O, h⟩ => ⟨O, (Run.bind h).mono fun x H1 μ μ1 w0 f1 w1 h1 v rv => by
    obtain ⟨c, e, h2⟩ := run_opt_bind h1
    refine ⟨c, asB_some e rv, ?_⟩
    cases c with
    | true => exact ⟨O, h2⟩
    | false =>
      obtain ⟨μ2, w2, q⟩ := Run.pure h2
      exact q H1 (Fr.refl _ _) w2 _ (.bl false)⟩
theorem de_or (ha : DE X S W a f) (hb : DE X S W (.BoolOp .Or (b :: rest) pos) g) : DE X S W (.BoolOp .Or (a :: b :: rest) pos) (eOr f g) :=
  peI (pe_or ha hb) fun σ H Q ⟨O, h⟩ => ⟨O, (Run.bind h).mono fun x H1 μ μ1 w0 f1 w1 h1 v rv => by
    obtain ⟨c, e, h2⟩ := run_opt_bind h1
    refine ⟨c, asB_some e rv, ?_⟩
    cases c with
    | false => exact ⟨O, h2⟩
    | true =>
      obtain ⟨μ2, w2, q⟩ := Run.pure h2
      exact q H1 (Fr.refl _ _) w2 _ (.bl true)⟩
theorem de_not (ha : DE X S W a f) : DE X S W (.UnaryOp .Not a pos) (eNot f) :=
  peI (pe_not ha) fun σ H Q ⟨O, h⟩ => ⟨O, (Run.bind h).mono fun x H1 μ μ1 w0 f1 w1 h1 v rv => by
    obtain ⟨c, e, h2⟩ := run_opt_bind h1
    refine ⟨c, asB_some e rv, ?_⟩
    obtain ⟨μ2, w2, q⟩ := Run.pure h2
    exact q H1 (Fr.refl _ _) w2 _ (.bl _)⟩
def eIf (t : Env → M Bool) (f g : E) : E := fun Γ => M.bind (t Γ) fun c => if c = true then f Γ else g Γ
theorem de_if (ht : DT X S W c fb) (ha : DE X S W a f) (hb : DE X S W b g) : DE X S W (.IfExp c a b pos) (eIf fb f g) :=
  peI (pe_ifExp ht ha hb) fun σ H Q ⟨O, h⟩ => ⟨O, (Run.bind h).mono fun c H1 μ μ1 w0 f1 w1 h1 => by
    cases c with
    | true => exact ⟨O, h1⟩
    | false => exact ⟨O, h1⟩⟩
def eNeg (f : E) : E := fun Γ => M.bind (f Γ) fun x => M.opt (match x with | .int i => some (.int (-i)) | _ => none)
theorem de_neg (ha : DE X S W a f) : DE X S W (.UnaryOp .USub a pos) (eNeg f) :=
  peI (pe_un un_neg ha) fun σ H Q ⟨O, h⟩ => ⟨O, (Run.bind h).mono fun x H1 μ μ1 w0 f1 w1 h1 v rv => by
    obtain ⟨z, μ3, e, w3, q⟩ := Run.opt h1
    cases x <;> first | (cases e; done) | skip
    cases e
    cases rv
    exact ⟨_, rfl, q H1 (Fr.refl _ _) w3 _ (.int _)⟩⟩

/-! ### arguments, displays -/
def aNil : Env → M (List D) := fun _ => M.pure []
def aCons (f : E) (g : Env → M (List D)) : Env → M (List D) := fun Γ => M.bind (f Γ) fun x => M.bind (g Γ) fun xs => M.pure (x :: xs)
variable {es : List Expr} {fs : Env → M (List D)}
theorem da_nil : DA X S W [] aNil := paI pa_nil fun σ H Q ⟨O, Γ, μ, w, s, g⟩ => g H (Fr.refl _ _) w [] .nil
theorem da_cons (ha : DE X S W a f) (hr : DA X S W es fs) (hs : starEach (a :: es) X.env = (false, eval a X.env) :: starEach es X.env := by rfl) : DA X S W (a :: es) (aCons f fs) :=
  paI (pa_cons ha hr hs) fun σ H Q ⟨O, h⟩ => ⟨O, (Run.bind h).mono fun x H1 μ μ1 w0 f1 w1 h1 v rv => ⟨O, (Run.bind h1).mono fun xs H2 _ μ2 _ f2 w2 h2 vs rvs => by
    obtain ⟨μ3, w3, q⟩ := Run.pure h2
    exact q H2 (Fr.refl _ _) w3 _ (.cons (w1.rep f2 rv) rvs)⟩⟩
def eTup (fs : Env → M (List D)) : E := fun Γ => M.bind (fs Γ) fun xs => if xs.length ≤ 16777216 then M.pure (.tup xs) else M.bad
def eLst (fs : Env → M (List D)) : E := fun Γ => M.bind (fs Γ) fun xs => if xs.length ≤ 16777216 then M.pure (.lst xs) else M.bad
theorem run_if {K : PySem.W.Frag} {O : Addr → Prop} {σ : St} {H : Hp} {α : Type} {p : Prop} [Decidable p] {q : Env → M α} {Q : α → Hp → Prop} (h : Run K S W O σ H (fun Γ => if p then q Γ else M.bad) Q) : p ∧ Run K S W O σ H q Q := by
  by_cases c : p
  · refine ⟨c, ?_⟩
    obtain ⟨Γ, μ, w, s, g⟩ := h
    simp only [if_pos c] at g
    exact ⟨Γ, μ, w, s, g⟩
  · obtain ⟨Γ, μ, w, s, g⟩ := h
    simp only [if_neg c] at g
    exact False.elim g
theorem de_tup {x1 : Nat} (h : DA X S W es fs) : DE X S W (.Tuple es x1 pos) (eTup fs) :=
  peI (pe_tup h) fun σ H Q ⟨O, h⟩ => ⟨O, (Run.bind h).mono fun xs H1 μ μ1 w0 f1 w1 h1 vs rvs => by
    obtain ⟨hl, h2⟩ := run_if h1
    obtain ⟨μ2, w2, q⟩ := Run.pure h2
    rw [← rvs.length, ← sizeLine_def] at hl
    exact ⟨hl, alloc_tup w2 rvs hl fun u H' f w r => q H' f w u r⟩⟩
theorem de_lst (h : DA X S W es fs) : DE X S W (.List es pos) (eLst fs) :=
  peI (pe_lst h) fun σ H Q ⟨O, h⟩ => ⟨O, (Run.bind h).mono fun xs H1 μ μ1 w0 f1 w1 h1 vs rvs => by
    obtain ⟨hl, h2⟩ := run_if h1
    obtain ⟨μ2, w2, q⟩ := Run.pure h2
    rw [← rvs.length, ← sizeLine_def] at hl
    exact ⟨hl, alloc_lst w2 rvs hl fun u H' f w r => q H' f w u r⟩⟩

/-! ### subscripts -/
def signD (c : Nat) : D := .str ⟨#[c]⟩
def dIx : D → D → Option D
  | .lst xs, .int i => atI xs i
  | .tup xs, .int i => atI xs i
  | .str z, .int i => (atI z.cps.toList i).map signD
  | _, _ => none
theorem atI_rep {K : PySem.W.Frag} {H : Hp} {vs : List V} {ds : List D} {i : Int} {d : D} (r : Reps K S H vs ds) (h : atI ds i = some d) : ∃ v, atI vs i = some v ∧ Rep K S H v d := by
  unfold atI at h ⊢
  rw [r.length]
  cases e : ixN ds.length i with
  | none => rw [e] at h; cases h
  | some j =>
    rw [e] at h
    exact r.get h
def eIx (f g : E) : E := eOp dIx f g
theorem atI_mem {α : Type} {xs : List α} {i : Int} {v : α} (h : atI xs i = some v) : v ∈ xs := by
  obtain ⟨j, _, e, _⟩ := atI_get h
  exact List.mem_of_getElem? e
theorem hd_ix {K : PySem.W.Frag} : OpD K S (rIx K) dIx := by
  intro O H μ x y v w z Q wd rx ry e q
  unfold dIx at e
  split at e
  · cases ry
    cases rx with | lst h1 h2 h3 =>
    obtain ⟨u, hu, ru⟩ := atI_rep h3 e
    exact .inl ⟨_, _, _, u, rfl, rfl, .inl (.inl (seen h1)), hu, q _ H (Fr.refl _ _) wd ru⟩
  · cases ry
    cases rx with | tup h1 h2 h3 =>
    obtain ⟨u, hu, ru⟩ := atI_rep h3 e
    exact .inr (.inl ⟨_, _, _, u, rfl, rfl, seenT h1, hu, q _ H (Fr.refl _ _) wd ru⟩)
  · cases ry
    cases rx with | str _ h1 h2 =>
    obtain ⟨c, e1, e2⟩ := Option.map_eq_some_iff.mp e
    subst e2
    refine .inr (.inr ⟨_, _, c, rfl, rfl, h1, e1, q _ H (Fr.refl _ _) wd (.str _ (by rw [sizeLine_def]; exact (show 1 ≤ 16777216 by decide)) ?_)⟩)
    exact strOk_sub h2 (l := [c]) fun d hd => by
      rw [List.mem_singleton.mp hd]
      exact atI_mem e1
  · cases e
theorem de_ix (ha : DE X S W a f) (hb : DE X S W b g) (hs : PlainIx b := by exact fun _ _ => rfl) : DE X S W (.Subscript a b pos) (eIx f g) :=
  peI (pe_ix ix_seq ha hb hs) fun σ H Q h => tOp_of hd_ix h

/-! ### slices -/
def cutG {α : Type} (xs : List α) (lo hi : Option Int) : List α := (xs.drop (HT.sIx xs.length 0 lo)).take (HT.sIx xs.length xs.length hi - HT.sIx xs.length 0 lo)
theorem cutG_rep {K : PySem.W.Frag} {H : Hp} {vs : List V} {ds : List D} (r : Reps K S H vs ds) (lo hi : Option Int) : Reps K S H (cutV vs lo hi) (cutG ds lo hi) := by
  unfold cutV cutG
  rw [r.length]
  exact (r.drop _).take _
def tO (K : PySem.W.Frag) (S : Sg) (W : XK) (f : Env → M (Option Int)) : TO := fun σ H Q => ∃ O, Run K S W O σ H f fun o H' => Q o H'
abbrev DO (X : Cx) (S : Sg) (W : XK) (e : Option Expr) (f : Env → M (Option Int)) : Prop := PO X e (tO X.K S W f)
theorem poI {e : Option Expr} {t t' : TO} (h : PO X e t) (i : ∀ σ H Q, t' σ H Q → t σ H Q) : PO X e t' := ⟨fun pins s σ H Q I q => h.run pins s σ H Q I (i σ H Q q)⟩
def oNone : Env → M (Option Int) := fun _ => M.pure none
def asI : D → Option Int
  | .int i => some i
  | _ => none
def oSome (f : E) : Env → M (Option Int) := fun Γ => M.bind (f Γ) fun x => M.bind (M.opt (asI x)) fun i => M.pure (some i)
theorem asI_some {K : PySem.W.Frag} {H : Hp} {v : V} {d : D} {b : Int} (h : asI d = some b) (r : Rep K S H v d) : v = .int b := by
  cases d <;> first | (cases h; done) | (cases h; cases r; rfl)
theorem do_none : DO X S W none oNone := poI po_none fun σ H Q ⟨O, Γ, μ, w, s, g⟩ => g H (Fr.refl _ _) w
theorem do_some (h : DE X S W a f) : DO X S W (some a) (oSome f) := poI (po_some h) fun σ H Q ⟨O, h⟩ => ⟨O, (Run.bind h).mono fun x H1 μ μ1 w0 f1 w1 h1 v rv => by
    obtain ⟨c, e, h2⟩ := run_opt_bind h1
    obtain ⟨μ2, w2, q⟩ := Run.pure h2
    exact ⟨c, asI_some e rv, q H1 (Fr.refl _ _) w2⟩⟩
def dSl (x : D) (lo hi : Option Int) : Option D := match x with
  | .lst xs => some (.lst (cutG xs lo hi))
  | .tup xs => some (.tup (cutG xs lo hi))
  | .str z => some (.str (cutS z lo hi))
  | .rol xs => some (.lst (cutG xs lo hi))
  | _ => none
def eSl (f : E) (l h : Env → M (Option Int)) : E := fun Γ => M.bind (f Γ) fun x => M.bind (l Γ) fun lo => M.bind (h Γ) fun hi => M.opt (dSl x lo hi)
theorem cutS_ok {z : Str} {lo hi : Option Int} (h : strOk z = true) : strOk (cutS z lo hi) = true := strOk_sub h fun c hc => List.mem_of_mem_drop (List.mem_of_mem_take hc)
def rSlD (K : PySem.W.Frag) : V → Option Int → Option Int → Hp → VK → Prop := fun x lo hi H Q => (rSlL K x lo hi H Q ∨ rSlA K x lo hi H Q) ∨ rSlS x lo hi H Q
theorem sl_D : SlR X (rSlD X.K) := (sl_list.or sl_tupA).or sl_str
theorem cut_whole {α : Type} {xs : List α} {lo hi : Option Int} (h : HT.sIx xs.length 0 lo = 0 ∧ HT.sIx xs.length xs.length hi = xs.length) : cutG xs lo hi = xs := by
  unfold cutG
  rw [h.1, h.2]
  simp
theorem de_sl {lo hi : Option Expr} {fl fh : Env → M (Option Int)} {p2 : Pos} (he : DE X S W a f) (hl : DO X S W lo fl) (hh : DO X S W hi fh) : DE X S W (.Subscript a (.Slice lo hi none p2) pos) (eSl f fl fh) :=
  peI (pe_slice sl_D he hl hh) fun σ H Q ⟨O, h⟩ => ⟨O, (Run.bind h).mono fun x H1 μ μ1 w0 f1 w1 h1 v rv => ⟨O, (Run.bind h1).mono fun l H2 _ μ2 _ f2 w2 h2 => ⟨O, (Run.bind h2).mono fun u H3 _ μ3 _ f3 w3 h3 => by
    obtain ⟨z, μ4, e, w4, q⟩ := Run.opt h3
    have r3 := w2.rep f3 (w1.rep f2 rv)
    cases x <;> first | (cases e; done) | skip
    · cases e
      cases r3 with | str _ h1 h2 =>
      exact .inr ⟨_, rfl, h1, q H3 (Fr.refl _ _) w4 _ (.str _ (Nat.le_trans (cutS_length _ _ _) h1) (cutS_ok h2))⟩
    · cases e
      cases r3 with | lst h1 h2 h3 =>
      exact .inl (.inl ⟨_, _, rfl, .inl (.inl (seen h1)), alloc_lst w4 (cutG_rep h3 _ _) (Nat.le_trans (cutV_length _ _ _) h2) fun u H' f w r => q H' f w u r⟩)
    · cases e
      cases r3 with | tup h1 h2 h3 =>
      refine .inl (.inr ⟨_, _, rfl, seenT h1, fun hw => ?_, fun hw => alloc_tup w4 (cutG_rep h3 _ _) (Nat.le_trans (cutV_length _ _ _) h2) fun u H' f w r => q H' f w u r⟩)
      rw [h3.length] at hw
      have e := cut_whole hw
      exact q H3 (Fr.refl _ _) w4 _ (by rw [e]; exact .tup h1 h2 h3)
    · cases e
      cases r3 with | rol h1 h2 h3 =>
      exact .inl (.inl ⟨_, _, rfl, seenL h1, alloc_lst w4 (cutG_rep h3 _ _) (Nat.le_trans (cutV_length _ _ _) h2) fun u H' f w r => q H' f w u r⟩)⟩⟩⟩
def dRev : D → Option D
  | .lst xs => some (.lst xs.reverse)
  | .tup xs => some (.tup xs.reverse)
  | .str z => some (.str (revS z))
  | _ => none
def eRev (f : E) : E := fun Γ => M.bind (f Γ) fun x => M.opt (dRev x)
theorem de_rev {k : Nat} {p1 p2 p3 : Pos} (he : DE X S W a f) : DE X S W (.Subscript a (.Slice none none (some (.UnaryOp .USub (.Constant (.int 1) k p1) p2)) p3) pos) (eRev f) :=
  peI (pe_rev he) fun σ H Q ⟨O, h⟩ => ⟨O, (Run.bind h).mono fun x H1 μ μ1 w0 f1 w1 h1 v rv => by
    obtain ⟨z, μ4, e, w4, q⟩ := Run.opt h1
    cases x <;> first | (cases e; done) | skip
    · cases e
      cases rv with | str _ h1 h2 =>
      exact .inr (.inr ⟨_, rfl, h1, q H1 (Fr.refl _ _) w4 _ (.str _ (by rw [revS_len]; exact h1) (strOk_sub h2 fun c hc => List.mem_reverse.mp hc))⟩)
    · cases e
      cases rv with | lst h1 h2 h3 =>
      exact .inl ⟨_, _, rfl, .inl (.inl (seen h1)), alloc_lst w4 h3.reverse (by rw [List.length_reverse]; exact h2) fun u H' f w r => q H' f w u r⟩
    · cases e
      cases rv with | tup h1 h2 h3 =>
      exact .inr (.inl ⟨_, _, rfl, seenT h1, alloc_tup w4 h3.reverse (by rw [List.length_reverse]; exact h2) fun u H' f w r => q H' f w u r⟩)⟩

/-! ### calls of built-ins -/
def CallD (K : PySem.W.Frag) (S : Sg) (r : List V → Hp → VK → Prop) (dop : List D → Option D) : Prop := ∀ O H μ xs vs z Q, Wd K S O H μ → Reps K S (del H O) vs xs → dop xs = some z →
  (∀ u H', Fr S H H' → Wd K S O H' μ → Rep K S (del H' O) u z → Q u H') → r vs H Q
def eCall (dop : List D → Option D) (fs : Env → M (List D)) : E := fun Γ => M.bind (fs Γ) fun xs => M.opt (dop xs)
theorem tCB_of {K : PySem.W.Frag} {r : List V → Hp → VK → Prop} {dop : List D → Option D} (hd : CallD K S r dop) {σ : St} {H : Hp} {Q : VK} (h : tD K S W (eCall dop fs) σ H Q) : tCB r (tAs K S W fs) σ H Q := by
  obtain ⟨O, h⟩ := h
  refine ⟨O, (Run.bind h).mono fun xs H1 μ μ1 w0 f1 w1 h1 vs rvs => ?_⟩
  obtain ⟨z, μ3, e, w3, q⟩ := Run.opt h1
  exact hd O H1 μ3 xs vs z Q w3 rvs e fun u H' f' w' r => q H' f' w' u r
theorem de_callB {r : List V → Hp → VK → Prop} {dop : List D → Option D} {id : String} {x : Str} {p : Pos} (hc : CallR X (.builtin id) r) (hd : CallD X.K S r dop) (hm : X.mg x = none) (hv : bootBuiltins x = some (.builtin id)) (ha : DA X S W (a :: es) fs) (hg : Gl X x := by rfl) (hn : x ≠ "__name__" := by decide)
    (hdb : (x == ("__debug__" : Str)) = false := by decide) (he : starEach (a :: es) X.env = (false, eval a X.env) :: starEach es X.env := by rfl) (hpl : (backTo pos (starEach es X.env)).any (·.1) = false := by rfl) : DE X S W (.Call (.Name x p) (a :: es) [] pos) (eCall dop fs) :=
  peI (pe_callB hc hg hm hv ha hn hdb he hpl) fun σ H Q h => tCB_of hd h
theorem de_callTy {r : List V → Hp → VK → Prop} {dop : List D → Option D} {T : String} {x : Str} {p : Pos} (hc : CallR X (.type T) r) (hd : CallD X.K S r dop) (hm : X.mg x = none) (hv : bootBuiltins x = some (.type T)) (ha : DA X S W (a :: es) fs) (hg : Gl X x := by rfl) (hn : x ≠ "__name__" := by decide)
    (hdb : (x == ("__debug__" : Str)) = false := by decide) (he : starEach (a :: es) X.env = (false, eval a X.env) :: starEach es X.env := by rfl) (hpl : (backTo pos (starEach es X.env)).any (·.1) = false := by rfl) : DE X S W (.Call (.Name x p) (a :: es) [] pos) (eCall dop fs) :=
  peI (pe_callTy hc hg hm hv ha hn hdb he hpl) fun σ H Q h => tCB_of hd h
def dLen : List D → Option D
  | [.lst xs] => some (.int xs.length)
  | [.tup xs] => some (.int xs.length)
  | [.str z] => some (.int z.length)
  | _ => none
theorem hd_len {K : PySem.W.Frag} : CallD K S (fun xs H Q => ∃ x n, xs = [x] ∧ LenV K x H n ∧ Q (.int n) H) dLen := by
  intro O H μ xs vs z Q wd r e q
  unfold dLen at e
  split at e
  · cases e
    cases r with | cons r1 r2 =>
    cases r2
    cases r1 with | lst h1 h2 h3 =>
    refine ⟨_, _, rfl, .inl ⟨_, .inl (.inl (seen h1)), rfl⟩, ?_⟩
    rw [h3.length]
    exact q _ H (Fr.refl _ _) wd (.int _)
  · cases e
    cases r with | cons r1 r2 =>
    cases r2
    cases r1 with | tup h1 h2 h3 =>
    refine ⟨_, _, rfl, .inr ⟨_, seenT h1, rfl⟩, ?_⟩
    rw [h3.length]
    exact q _ H (Fr.refl _ _) wd (.int _)
  · cases e
    cases r with | cons r1 r2 =>
    cases r2
    cases r1 with | str _ h1 h2 =>
    exact ⟨_, _, rfl, ⟨h1, rfl⟩, q _ H (Fr.refl _ _) wd (.int _)⟩
  · cases e
def dList : List D → Option D
  | [.lst xs] => some (.lst xs)
  | [.tup xs] => some (.lst xs)
  | _ => none
theorem hd_list {K : PySem.W.Frag} : CallD K S (fun xs H Q => ∃ p ys, xs = [.ref p] ∧ (SqL K H p ys ∨ SqT K H p ys) ∧ ∀ l, H l = none → Q (.ref l) (upd H l (.lst ys))) dList := by
  intro O H μ xs vs z Q wd r e q
  unfold dList at e
  split at e
  · cases e
    cases r with | cons r1 r2 =>
    cases r2
    cases r1 with | lst h1 h2 h3 =>
    exact ⟨_, _, rfl, .inl (.inl (.inl (seen h1))), alloc_lst wd h3 h2 q⟩
  · cases e
    cases r with | cons r1 r2 =>
    cases r2
    cases r1 with | tup h1 h2 h3 =>
    exact ⟨_, _, rfl, .inr (seenT h1), alloc_lst wd h3 h2 q⟩
  · cases e
def dTuple : List D → Option D
  | [.lst xs] => some (.tup xs)
  | [.tup xs] => some (.tup xs)
  | _ => none
theorem hd_tuple {K : PySem.W.Frag} : CallD K S (fun xs H Q => ∃ p ys, xs = [.ref p] ∧ ((SqL K H p ys ∧ ∀ l, H l = none → Q (.ref l) (upd H l (.tup ys))) ∨ (SqT K H p ys ∧ Q (.ref p) H))) dTuple := by
  intro O H μ xs vs z Q wd r e q
  unfold dTuple at e
  split at e
  · cases e
    cases r with | cons r1 r2 =>
    cases r2
    cases r1 with | lst h1 h2 h3 =>
    exact ⟨_, _, rfl, .inl ⟨.inl (.inl (seen h1)), alloc_tup wd h3 h2 q⟩⟩
  · cases e
    cases r with | cons r1 r2 =>
    cases r2
    cases r1 with | tup h1 h2 h3 =>
    exact ⟨_, _, rfl, .inr ⟨seenT h1, q _ H (Fr.refl _ _) wd (.tup h1 h2 h3)⟩⟩
  · cases e
def dInt : List D → Option D
  | [.int i] => some (.int i)
  | [.bl b] => some (.int (if b then 1 else 0))
  | _ => none
theorem hd_int {K : PySem.W.Frag} : CallD K S (fun xs H Q => (∃ i, xs = [.int i] ∧ Q (.int i) H) ∨ ∃ k, xs = [.bl k] ∧ Q (.int (if k then 1 else 0)) H) dInt := by
  intro O H μ xs vs z Q wd r e q
  unfold dInt at e
  split at e
  · cases e
    cases r with | cons r1 r2 =>
    cases r2
    cases r1
    exact .inl ⟨_, rfl, q _ H (Fr.refl _ _) wd (.int _)⟩
  · cases e
    cases r with | cons r1 r2 =>
    cases r2
    cases r1
    exact .inr ⟨_, rfl, q _ H (Fr.refl _ _) wd (.int _)⟩
  · cases e
def dAbs : List D → Option D
  | [.int i] => some (.int (if i < 0 then -i else i))
  | _ => none
theorem hd_abs {K : PySem.W.Frag} : CallD K S (fun xs H Q => ∃ i, xs = [.int i] ∧ Q (.int (if i < 0 then -i else i)) H) dAbs := by
  intro O H μ xs vs z Q wd r e q
  unfold dAbs at e
  split at e
  · cases e
    cases r with | cons r1 r2 =>
    cases r2
    cases r1
    exact ⟨_, rfl, q _ H (Fr.refl _ _) wd (.int _)⟩
  · cases e

/-! ### join, split -/
def strsOf : List D → Option (List Str)
  | [] => some []
  | .str s :: r => (strsOf r).map (s :: ·)
  | _ :: _ => none
theorem strsOf_rep {K : PySem.W.Frag} {H : Hp} : ∀ {ds : List D} {vs : List V} {ss : List Str}, strsOf ds = some ss → Reps K S H vs ds → vs = ss.map V.str ∧ ∀ s ∈ ss, s.length ≤ sizeLine ∧ strOk s = true
  | [], _, ss, e, r => by
    cases e
    cases r
    exact ⟨rfl, fun s h => by cases h⟩
  | d :: ds, _, ss, e, r => by
    cases r with | cons r1 r2 =>
    cases d <;> first | (cases e; done) | skip
    rename_i s
    obtain ⟨ss', e1, e2⟩ := Option.map_eq_some_iff.mp (show (strsOf ds).map (s :: ·) = some ss from e)
    subst e2
    obtain ⟨h1, h2⟩ := strsOf_rep e1 r2
    cases r1 with | str _ h3 h4 =>
    refine ⟨by rw [h1]; rfl, fun s' hs => ?_⟩
    rcases List.mem_cons.mp hs with rfl | hs
    · exact ⟨h3, h4⟩
    · exact h2 s' hs
@[simp] theorem strsOf_map (ss : List Str) : strsOf (ss.map D.str) = some ss := by
  induction ss with
  | nil => rfl
  | cons s r ih => show (strsOf (r.map D.str)).map (s :: ·) = _; rw [ih]; rfl
def dJoin (a : Str) : D → Option D
  | .lst xs => (strsOf xs).bind fun ss => if (ss.map (·.length)).sum + ss.length * a.length ≤ 16777216 then some (.str (Txt.join a ss)) else none
  | .tup xs => (strsOf xs).bind fun ss => if (ss.map (·.length)).sum + ss.length * a.length ≤ 16777216 then some (.str (Txt.join a ss)) else none
  | _ => none
def asS : D → Option Str
  | .str s => some s
  | _ => none
theorem asS_some {K : PySem.W.Frag} {H : Hp} {v : V} {d : D} {b : Str} (h : asS d = some b) (r : Rep K S H v d) : v = .str b ∧ b.length ≤ sizeLine ∧ strOk b = true := by
  cases d <;> first | (cases h; done) | skip
  cases h
  cases r with | str _ h1 h2 => exact ⟨rfl, h1, h2⟩
def eM1S (dop : Str → D → Option D) (f g : E) : E := fun Γ => M.bind (f Γ) fun x => M.bind (M.opt (asS x)) fun s => M.bind (g Γ) fun y => M.opt (dop s y)
def MtS (K : PySem.W.Frag) (S : Sg) (r : V → List V → Hp → VK → Prop) (dop : Str → D → Option D) : Prop := ∀ O H μ s y u z Q, Wd K S O H μ → s.length ≤ sizeLine → strOk s = true → Rep K S (del H O) u y → dop s y = some z →
  (∀ u H', Fr S H H' → Wd K S O H' μ → Rep K S (del H' O) u z → Q u H') → r (.str s) [u] H Q
theorem tM1_of {K : PySem.W.Frag} {r : V → List V → Hp → VK → Prop} {dop : Str → D → Option D} (hd : MtS K S r dop) {σ : St} {H : Hp} {Q : VK} (h : tD K S W (eM1S dop f g) σ H Q) : tM1 r (tD K S W f) (tD K S W g) σ H Q := by
  obtain ⟨O, h⟩ := h
  refine ⟨O, (Run.bind h).mono fun x H1 μ μ1 w0 f1 w1 h1 v rv => ?_⟩
  obtain ⟨s, e, h2⟩ := run_opt_bind h1
  obtain ⟨e1, e2, e3⟩ := asS_some e rv
  subst e1
  refine ⟨⟨_, rfl⟩, O, (Run.bind h2).mono fun y H2 _ μ2 _ f2 w2 h2 u ru => ?_⟩
  obtain ⟨z, μ3, e4, w3, q⟩ := Run.opt h2
  exact hd O H2 μ3 s y u z Q w3 e2 e3 ru e4 fun u H' f' w' r => q H' f' w' u r
theorem join_mem (a : Str) : ∀ (ss : List Str) (c : Nat), c ∈ (Str.join a ss).cps.toList → c ∈ a.cps.toList ∨ ∃ s ∈ ss, c ∈ s.cps.toList
  | [], c, h => by
    have h : c ∈ ([] : List Nat) := h
    cases h
  | [s], c, h => .inr ⟨s, List.mem_cons_self, h⟩
  | s :: t :: r, c, h => by
    have e : Str.join a (s :: t :: r) = s ++ a ++ Str.join a (t :: r) := rfl
    rw [e, app_list, app_list] at h
    rcases List.mem_append.mp h with h | h
    · rcases List.mem_append.mp h with h | h
      · exact .inr ⟨s, List.mem_cons_self, h⟩
      · exact .inl h
    · rcases join_mem a (t :: r) c h with h | ⟨s', h1, h2⟩
      · exact .inl h
      · exact .inr ⟨s', List.mem_cons_of_mem _ h1, h2⟩
theorem mem_join (a : Str) : ∀ (ss : List Str) (s : Str) (c : Nat), s ∈ ss → c ∈ s.cps.toList → c ∈ (Str.join a ss).cps.toList
  | [], _, _, h, _ => by cases h
  | [s], s', c, h, hc => by
    rw [List.mem_singleton.mp h] at hc
    exact hc
  | s :: t :: r, s', c, h, hc => by
    have e : Str.join a (s :: t :: r) = s ++ a ++ Str.join a (t :: r) := rfl
    rw [e, app_list, app_list]
    rcases List.mem_cons.mp h with rfl | h
    · exact List.mem_append_left _ (List.mem_append_left _ hc)
    · exact List.mem_append_right _ (mem_join a (t :: r) s' c h hc)
theorem join_ok {a : Str} {ss : List Str} (h : strOk a = true) (hs : ∀ s ∈ ss, strOk s = true) : strOk (Str.join a ss) = true := by
  rw [strOk_iff]
  intro c hc
  rcases join_mem a ss c hc with h1 | ⟨s, h1, h2⟩
  · exact (strOk_iff a).mp h c h1
  · exact (strOk_iff s).mp (hs s h1) c h2
theorem txt_join (a : Str) (ss : List Str) : Txt.join a ss = Str.join a ss := by
  simpa using PyProof.Rows.join_plain_closes a ss
def eJoin (f g : E) : E := eM1S dJoin f g
theorem hd_join {K : PySem.W.Frag} : MtS K S (fun x xs H Q => ∃ a p, ∃ ys : List Str, x = .str a ∧ xs = [.ref p] ∧ (SqL K H p (ys.map V.str) ∨ SqT K H p (ys.map V.str)) ∧
      (ys.map (·.length)).sum + ys.length * a.length ≤ 16777216 ∧ Q (.str (Txt.join a ys)) H) dJoin := by
  intro O H μ s y u z Q wd h1 h2 ry e q
  have fin : ∀ ss : List Str, (ss.map (·.length)).sum + ss.length * s.length ≤ 16777216 → (∀ t ∈ ss, t.length ≤ sizeLine ∧ strOk t = true) → z = .str (Txt.join s ss) → Q (.str (Txt.join s ss)) H := fun ss hl hs e => by
    subst e
    refine q _ H (Fr.refl _ _) wd (.str _ ?_ ?_)
    · rw [sizeLine_def]
      rw [txt_join]
      exact Nat.le_trans (StrLaws.join_length_le s ss) hl
    · rw [txt_join]
      exact join_ok h2 fun t ht => (hs t ht).2
  unfold dJoin at e
  split at e
  · cases ry with | lst h3 h4 h5 =>
    obtain ⟨ss, e1, e2⟩ := Option.bind_eq_some_iff.mp e
    split at e2
    · rename_i hl
      obtain ⟨e3, e4⟩ := strsOf_rep e1 h5
      subst e3
      exact ⟨_, _, ss, rfl, rfl, .inl (.inl (.inl (seen h3))), hl, fin ss hl e4 (Option.some.inj e2).symm⟩
    · cases e2
  · cases ry with | tup h3 h4 h5 =>
    obtain ⟨ss, e1, e2⟩ := Option.bind_eq_some_iff.mp e
    split at e2
    · rename_i hl
      obtain ⟨e3, e4⟩ := strsOf_rep e1 h5
      subst e3
      exact ⟨_, _, ss, rfl, rfl, .inr (seenT h3), hl, fin ss hl e4 (Option.some.inj e2).symm⟩
    · cases e2
  · cases e
theorem de_join {apos : Pos} (ho : DE X S W a f) (he : DE X S W b g) (hs : starEach [b] X.env = [(false, eval b X.env)] := by rfl) (hbase : attributeBase a "join" X.env (eval a X.env) = eval a X.env := by rfl) (hline : (apos.endLine == pos.line) = true := by rfl) :
    DE X S W (.Call (.Attribute a "join" apos) [b] [] pos) (eJoin f g) :=
  peI (pe_join ho he hs hbase hline) fun σ H Q h => tM1_of hd_join h
def dSplit (a : Str) : D → Option D
  | .str b => if (b.length == 0) = false ∧ a.length + 2 ≤ 16777216 then some (.lst ((Txt.split a b).map .str)) else none
  | _ => none
theorem reps_strs {K : PySem.W.Frag} {H : Hp} : ∀ {ss : List Str}, (∀ s ∈ ss, s.length ≤ sizeLine ∧ strOk s = true) → Reps K S H (ss.map V.str) (ss.map D.str)
  | [], _ => .nil
  | s :: r, h => .cons (.str s (h s List.mem_cons_self).1 (h s List.mem_cons_self).2) (reps_strs fun t ht => h t (List.mem_cons_of_mem _ ht))
theorem hd_split {K : PySem.W.Frag} : MtS K S (fun x xs H Q => ∃ a b, x = .str a ∧ xs = [.str b] ∧ (b.length == 0) = false ∧ a.length + 2 ≤ sizeLine ∧ rNewStrs (Txt.split a b) H Q) dSplit := by
  intro O H μ s y u z Q wd h1 h2 ry e q
  unfold dSplit at e
  split at e
  · rename_i b
    split at e
    · rename_i hl
      cases e
      cases ry
      have hm : ∀ t ∈ Txt.split s b, t.length ≤ sizeLine ∧ strOk t = true := fun t ht => by
        refine ⟨Nat.le_trans (PyProof.Rows.part_short ht) h1, ?_⟩
        rw [strOk_iff]
        intro c hc
        have m := mem_join b _ t c ht hc
        rw [StrLaws.join_split] at m
        exact (strOk_iff s).mp h2 c m
      refine ⟨s, b, rfl, rfl, hl.1, by rw [sizeLine_def]; exact hl.2, fun p hp => ?_⟩
      refine alloc_lst wd (reps_strs hm) ?_ q p hp
      rw [List.length_map, sizeLine_def]
      exact Nat.le_trans (PyProof.Rows.split_le s b) hl.2
    · cases e
  · cases e
theorem de_split {apos : Pos} (ho : DE X S W a f) (he : DE X S W b g) (hs : starEach [b] X.env = [(false, eval b X.env)] := by rfl) (hbase : attributeBase a "split" X.env (eval a X.env) = eval a X.env := by rfl) (hline : (apos.endLine == pos.line) = true := by rfl) :
    DE X S W (.Call (.Attribute a "split" apos) [b] [] pos) (eM1S dSplit f g) :=
  peI (pe_split ho he hs hbase hline) fun σ H Q h => tM1_of hd_split h
end
end Dd
namespace Dd
open PySem PySem.Spec L2

/-! ### defs, methods, classes: what they compute -/
abbrev Fn := List D → M D
def spD (K : PySem.W.Frag) (S : Sg) (n : Nat) (F : Fn) : Sp := fun vs H Q E => ∃ O ds μ, ds.length = n ∧ Wd K S O H μ ∧ Reps K S (del H O) vs ds ∧
  Good (F ds μ) (fun d μ' => ∀ H', Fr S H H' → Wd K S O H' μ' → ∀ v, Rep K S (del H' O) v d → Q v H') (fun c μ' => ∀ H', Fr S H H' → Wd K S O H' μ' → E (.ref (S.EX c)) none H')
theorem spD_len {K : PySem.W.Frag} {S : Sg} {n : Nat} {F : Fn} : ∀ vs H Q E, spD K S n F vs H Q E → vs.length = n := fun vs H Q E ⟨O, ds, μ, h, w, r, g⟩ => r.length.trans h
structure GF (P : Program) (w : World) (K : PySem.W.Frag) (mg : Str → Option Value) (base : Heap) (S : Sg) (x : Str) (ps : List Str) (k : Nat) (F : Fn) : Prop where
  ex : ∃ f fd, mg x = some (.ref f) ∧ PySem.W.keepIn K (.ref f) = true ∧ Binds K fd ps [] ∧ FnOk P w K mg base (L2.CX P w) k f fd ps (spD K S ps.length F)
structure GM (P : Program) (w : World) (K : PySem.W.Frag) (mg : Str → Option Value) (base : Heap) (S : Sg) (c : Nat) (m : Str) (ps : List Str) (k : Nat) (F : Fn) : Prop where
  ex : ∃ f fd, Cls K (S.CA c) ∧ Meth K (S.CA c) m f ∧ m ∉ S.FN c ∧ Binds K fd ps [] ∧ FnOk P w K mg base (L2.CX P w) k f fd ps (spD K S ps.length F)
structure GK (P : Program) (w : World) (K : PySem.W.Frag) (mg : Str → Option Value) (base : Heap) (S : Sg) (x : Str) (n : Nat) (k : Nat) (F : Fn) : Prop where
  ex : ∃ C f fd ps sp, mg x = some (.ref C) ∧ Mk K C f ∧ Binds K fd ps [] ∧ FnOk P w K mg base (L2.CX P w) k f fd ps sp ∧
    ∀ (H : Hp) (vs : List V) (O : Addr → Prop) (ds μ : List D) (Q : VK) (E : XK), ds.length = n → Wd K S O H μ → Reps K S (del H O) vs ds →
      Good (F ds μ) (fun d μ' => ∀ H', Fr S H H' → Wd K S O H' μ' → ∀ v, Rep K S (del H' O) v d → Q v H') (fun c μ' => ∀ H', Fr S H H' → Wd K S O H' μ' → E (.ref (S.EX c)) none H') →
      ∀ x dx, H x = none → H dx = none → dx ≠ x → sp (.ref x :: vs) (upd (upd H dx (.own x)) x (.ins C dx [])) (fun v H2 => v = .non ∧ Q (.ref x) H2) E
section
variable {X : Cx} {S : Sg} {W : XK} {a : Expr} {es : List Expr} {f : E} {fs : Env → M (List D)} {pos : Pos}
theorem run_fn {K : PySem.W.Frag} {O : Addr → Prop} {σ : St} {H : Hp} {ds : List D} {vs : List V} {n : Nat} {F : Fn} {Q : VK} (hn : ds.length = n) (r : Reps K S (del H O) vs ds) (h : Run K S W O σ H (fun _ => F ds) fun d H' => ∀ v, Rep K S (del H' O) v d → Q v H') :
    spD K S n F vs H Q W := by
  obtain ⟨Γ, μ, w, s, g⟩ := h
  exact ⟨O, ds, μ, hn, w, r, g⟩
def eFun (n : Nat) (F : Fn) (fs : Env → M (List D)) : E := fun Γ => M.bind (fs Γ) fun ds => if ds.length = n then F ds else M.bad
theorem de_call {n : Nat} {x : Str} {ps : List Str} {k : Nat} {F : Fn} {p : Pos} (G : GF X.prog X.w X.K X.mg X.base S x ps k F) (hr : Room k X.A) (hx : Passes (L2.CX X.prog X.w) X W) (ha : DA X S W (a :: es) fs) (hg : Gl X x := by rfl)
    (hdb : (x == ("__debug__" : Str)) = false := by decide) (he : starEach (a :: es) X.env = (false, eval a X.env) :: starEach es X.env := by rfl) (hpl : (backTo pos (starEach es X.env)).any (·.1) = false := by rfl) (hn : ps.length = n := by rfl) :
    DE X S W (.Call (.Name x p) (a :: es) [] pos) (eFun n F fs) := by
  subst hn
  obtain ⟨fa, fd, g1, g2, g3, g4⟩ := G.ex
  refine peI (pe_call g4 hr hg g1 g2 g3 .nil hx ha hdb he hpl) fun σ H Q ⟨O, h⟩ => ⟨O, (Run.bind h).mono fun ds H1 μ μ1 w0 f1 w1 h1 vs rvs => ?_⟩
  obtain ⟨hl, h2⟩ := run_if h1
  rw [List.append_nil]
  exact run_fn hl rvs h2
theorem de_call0 {x : Str} {k : Nat} {F : Fn} {p : Pos} (G : GF X.prog X.w X.K X.mg X.base S x [] k F) (hr : Room k X.A) (hx : Passes (L2.CX X.prog X.w) X W) (hg : Gl X x := by rfl)
    (hdb : (x == ("__debug__" : Str)) = false := by decide) : DE X S W (.Call (.Name x p) [] [] pos) (fun _ => F []) := by
  obtain ⟨fa, fd, g1, g2, g3, g4⟩ := G.ex
  refine peI (pe_call0 g4 hr hg g1 g2 g3 .nil hx hdb) fun σ H Q ⟨O, h⟩ => ?_
  exact run_fn (O := O) (σ := σ) rfl .nil h
def isObj? (c : Nat) : D → Option Unit
  | .obj c' _ => if c' = c then some () else none
  | _ => none
def eMeth (c n : Nat) (F : Fn) (f : E) (fs : Env → M (List D)) : E := fun Γ => M.bind (f Γ) fun o => M.bind (M.opt (isObj? c o)) fun _ => M.bind (fs Γ) fun ds => if ds.length + 1 = n then F (o :: ds) else M.bad
theorem isObj_rep {K : PySem.W.Frag} {H : Hp} {c : Nat} {o : D} {u : Unit} {v : V} (h : isObj? c o = some u) (r : Rep K S H v o) : ∃ a dx vs ds, v = .ref a ∧ o = .obj c ds ∧ H a = some (.ins (S.CA c) dx ((S.FN c).zip vs)) ∧ vs.length = (S.FN c).length ∧ Reps K S H vs ds := by
  unfold isObj? at h
  split at h
  · split at h
    · rename_i e
      subst e
      cases r with | obj h1 h2 h3 => exact ⟨_, _, _, _, rfl, rfl, h1, h2, h3⟩
    · cases h
  · cases h
theorem lookup_zip_none : ∀ {l : List Str} {vs : List V} {m : Str}, m ∉ l → (l.zip vs).lookup m = none
  | [], _, _, _ => rfl
  | _ :: _, [], _, _ => rfl
  | x :: l, v :: vs, m, h => by
    have n : (m == x) = false := by
      rw [beq_eq_false_iff_ne]
      intro e
      exact h (e ▸ List.mem_cons_self)
    rw [List.zip_cons_cons, List.lookup_cons, n]
    exact lookup_zip_none fun z => h (List.mem_cons_of_mem _ z)
theorem lookup_zip : ∀ {l : List Str} {vs : List V} {m : Str} {i : Nat} {v : V}, l.Nodup → l[i]? = some m → vs[i]? = some v → (l.zip vs).lookup m = some v
  | [], _, _, _, _, _, h, _ => by simp at h
  | _ :: _, [], _, _, _, _, _, h => by simp at h
  | x :: l, w :: vs, m, 0, v, nd, h, h' => by
    simp at h h'
    subst h h'
    simp [List.lookup_cons]
  | x :: l, w :: vs, m, i + 1, v, nd, h, h' => by
    have h : l[i]? = some m := h
    have n : (m == x) = false := by
      rw [beq_eq_false_iff_ne]
      intro e
      exact (List.nodup_cons.mp nd).1 (e ▸ List.mem_of_getElem? h)
    rw [List.zip_cons_cons, List.lookup_cons, n]
    exact lookup_zip (List.nodup_cons.mp nd).2 h h'
theorem de_meth {n : Nat} {c : Nat} {m : Str} {ps : List Str} {k : Nat} {F : Fn} {apos : Pos} {pl : Sem Bool} (ho : DE X S W a f) (G : GM X.prog X.w X.K X.mg X.base S c m ps k F) (hr : Room k X.A) (hx : Passes (L2.CX X.prog X.w) X W) {e : Expr} (ha : DA X S W (e :: es) fs)
    (hst : starEach (e :: es) X.env = (false, eval e X.env) :: starEach es X.env := by rfl) (hpl : (backTo pos (starEach es X.env)).any (·.1) = false := by rfl)
    (ht : eval (.Call (.Attribute a m apos) (e :: es) [] pos) X.env = (do
      let ov ← eval a X.env
      standAt apos.atName
      let (f, first) ← holding [ov] (getMethod ov m pl)
      callWith pos f first (backTo pos (starEach (e :: es) X.env)) (backToKw pos (keywordEach [] X.env))) := by rfl) (hn : ps.length = n := by rfl) :
    DE X S W (.Call (.Attribute a m apos) (e :: es) [] pos) (eMeth c n F f fs) := by
  subst hn
  obtain ⟨fa, fd, g1, g2, g3, g4, g5⟩ := G.ex
  refine peI (pe_meth ho g1 g2 g5 hr g4 .nil hx ha hst hpl ht) fun σ H Q ⟨O, h⟩ => ⟨O, (Run.bind h).mono fun o H1 μ μ1 w0 f1 w1 h1 v rv => ?_⟩
  obtain ⟨u, e1, h2⟩ := run_opt_bind h1
  obtain ⟨ad, dx, vs, ds, ev, eo, hi, hl, hrs⟩ := isObj_rep e1 rv
  refine ⟨ad, dx, _, ev, seen hi, lookup_zip_none g3, O, (Run.bind h2).mono fun es H2 _ μ2 _ f2 w2 h3 us rus => ?_⟩
  obtain ⟨hl3, h4⟩ := run_if h3
  rw [List.append_nil]
  exact run_fn (ds := o :: es) (by rw [List.length_cons]; exact hl3) (.cons (w1.rep f2 rv) rus) h4
theorem de_meth0 {n : Nat} {c : Nat} {m : Str} {ps : List Str} {k : Nat} {F : Fn} {apos : Pos} {pl : Sem Bool} (ho : DE X S W a f) (G : GM X.prog X.w X.K X.mg X.base S c m ps k F) (hr : Room k X.A) (hx : Passes (L2.CX X.prog X.w) X W)
    (ht : eval (.Call (.Attribute a m apos) [] [] pos) X.env = (do
      let ov ← eval a X.env
      standAt apos.atName
      let (f, first) ← holding [ov] (getMethod ov m pl)
      callWith pos f first (backTo pos (starEach [] X.env)) (backToKw pos (keywordEach [] X.env))) := by rfl) (hn : ps.length = n := by rfl) :
    DE X S W (.Call (.Attribute a m apos) [] [] pos) (eMeth c n F f aNil) := by
  subst hn
  obtain ⟨fa, fd, g1, g2, g3, g4, g5⟩ := G.ex
  refine peI (pe_meth0 ho g1 g2 g5 hr g4 .nil hx ht) fun σ H Q ⟨O, h⟩ => ⟨O, (Run.bind h).mono fun o H1 μ μ1 w0 f1 w1 h1 v rv => ?_⟩
  obtain ⟨u, e1, h2⟩ := run_opt_bind h1
  obtain ⟨ad, dx, vs, ds, ev, eo, hi, hl, hrs⟩ := isObj_rep e1 rv
  refine ⟨ad, dx, _, ev, seen hi, lookup_zip_none g3, ?_⟩
  obtain ⟨hl3, h4⟩ := run_if (p := ([] : List D).length + 1 = ps.length) h2
  exact run_fn (ds := [o]) hl3 (.cons rv .nil) h4
theorem de_make {x : Str} {n : Nat} {k : Nat} {F : Fn} {p : Pos} (G : GK X.prog X.w X.K X.mg X.base S x n k F) (hr : Room (k + 1) X.A) (hx : Passes (L2.CX X.prog X.w) X W) (ha : DA X S W (a :: es) fs) (hg : Gl X x := by rfl)
    (hdb : (x == ("__debug__" : Str)) = false := by decide) (he : starEach (a :: es) X.env = (false, eval a X.env) :: starEach es X.env := by rfl) (hpl : (backTo pos (starEach es X.env)).any (·.1) = false := by rfl) :
    DE X S W (.Call (.Name x p) (a :: es) [] pos) (eFun n F fs) := by
  obtain ⟨C, fa, fd, ps, sp, g1, g2, g3, g4, g5⟩ := G.ex
  refine peI (pe_make g2 g4 hr hg g1 g3 .nil hx ha hdb he hpl) fun σ H Q ⟨O, h⟩ => ⟨O, (Run.bind h).mono fun ds H1 μ μ1 w0 f1 w1 h1 vs rvs => ?_⟩
  obtain ⟨hl, h2⟩ := run_if h1
  intro x dx nx nd ne
  rw [List.append_nil]
  obtain ⟨Γ, μ2, w2, s2, gd⟩ := h2
  exact g5 H1 vs O ds μ2 Q W hl w2 rvs gd x dx nx nd ne

/-! ### fields -/
structure GFl (K : PySem.W.Frag) (S : Sg) (c i : Nat) (f : Str) : Prop where
  cl : Cls K (S.CA c)
  na : NoAttr K (S.CA c) f
  ix : (S.FN c)[i]? = some f
  nd : (S.FN c).Nodup
def fldD (c i : Nat) : D → Option D
  | .obj c' ds => if c' = c then ds[i]? else none
  | _ => none
def eFld (c i : Nat) (f : E) : E := fun Γ => M.bind (f Γ) fun o => M.opt (fldD c i o)
theorem de_fld {c i : Nat} {x : Str} (G : GFl X.K S c i x) (he : DE X S W a f) (hb : attributeBase a x X.env (eval a X.env) = eval a X.env := by rfl) : DE X S W (.Attribute a x pos) (eFld c i f) :=
  peI (pe_fld he hb) fun σ H Q ⟨O, h⟩ => ⟨O, (Run.bind h).mono fun o H1 μ μ1 w0 f1 w1 h1 v rv => by
    obtain ⟨z, μ4, e, w4, q⟩ := Run.opt h1
    unfold fldD at e
    split at e
    · split at e
      · rename_i ec
        subst ec
        cases rv with | obj h1 h2 h3 =>
        obtain ⟨u, hu, ru⟩ := h3.get e
        exact ⟨_, _, _, _, u, rfl, seen h1, G.cl, G.na, lookup_zip G.nd G.ix hu, q H1 (Fr.refl _ _) w4 u ru⟩
      · cases e
    · cases e⟩
end
end Dd
namespace Dd
open PySem PySem.Spec L2

/-! ### steps: what is not hidden stays -/
structure Stp (O : Addr → Prop) (H : Hp) (O' : Addr → Prop) (H' : Hp) : Prop where
  keep : ∀ b o, H b = some o → ¬ O b → NT o → H' b = some o
  dom : ∀ b, H b ≠ none → H' b ≠ none
  up : ∀ a, O a → O' a
  nw : ∀ a, O' a → O a ∨ H a = none
theorem Stp.refl (O : Addr → Prop) (H : Hp) : Stp O H O H := ⟨fun _ _ h _ _ => h, fun _ h => h, fun _ h => h, fun _ h => .inl h⟩
theorem Stp.trans {O O1 O2 : Addr → Prop} {H H1 H2 : Hp} (a : Stp O H O1 H1) (b : Stp O1 H1 O2 H2) : Stp O H O2 H2 where
  keep := fun c o h n t => b.keep c o (a.keep c o h n t) (fun z => (a.nw c z).elim n fun q => by rw [h] at q; cases q) t
  dom := fun c h => b.dom c (a.dom c h)
  up := fun c h => b.up c (a.up c h)
  nw := fun c h => (b.nw c h).elim (fun z => a.nw c z) fun z => .inr (by
    cases q : H c with
    | none => rfl
    | some o => exact absurd z (a.dom c (by rw [q]; intro e; cases e)))
section
variable {K : PySem.W.Frag} {S : Sg} {O O' : Addr → Prop} {H H' : Hp} {μ μ' : List D} {σ : St} {Γ : Env}
theorem Stp.of (f : Fr S H H') (w : Wd K S O H μ) : Stp O H O H' := ⟨fun b o h n t => f.keep b o h (fun z => n (w.rho b z)) t, f.dom, fun _ h => h, fun _ h => .inl h⟩
theorem Stp.lift (s : Stp O H O' H') : ∀ b o, del H O b = some o → NT o → del H' O' b = some o := fun b o h t => by
  obtain ⟨h1, h2⟩ := del_some h
  rw [del_out (fun z => (s.nw b z).elim h2 fun q => by rw [h1] at q; cases q)]
  exact s.keep b o h1 h2 t
end

/-! ### what is walked -/
structure ItOk (K : PySem.W.Frag) (S : Sg) (O : Addr → Prop) (H1 : Hp) (J : It) (ds : List D) : Prop where
  lim : ds.length ≤ 16777216
  go : ∀ (i : Nat) (H2 : Hp) (O2 : Addr → Prop) (μ : List D), Stp O H1 O2 H2 → Wd K S O2 H2 μ → i < ds.length → J.go i H2 ∧ ∀ x H3, J.yld i H2 x H3 → Fr S H2 H3 ∧ Wd K S O2 H3 μ ∧ ∃ d, ds[i]? = some d ∧ Rep K S (del H3 O2) x d
  stop : ∀ (i : Nat) (H2 : Hp) (O2 : Addr → Prop) (μ : List D), Stp O H1 O2 H2 → Wd K S O2 H2 μ → ds.length ≤ i → J.stop i H2
def tI (K : PySem.W.Frag) (S : Sg) (W : XK) (f : Env → M (List D)) : TI := fun σ H R => ∃ O, Run K S W O σ H f fun ds H1 => ∀ J, ItOk K S O H1 J ds → R J H1
abbrev DI (X : Cx) (S : Sg) (W : XK) (tg e : Expr) (f : Env → M (List D)) : Prop := PI X tg e (tI X.K S W f)
theorem piI {X : Cx} {tg e : Expr} {t t' : TI} (h : PI X tg e t) (i : ∀ σ H R, t' σ H R → t σ H R) : PI X tg e t' := ⟨fun pins s σ H R I q => h.run pins s σ H R I (i σ H R q)⟩
theorem piOr {X : Cx} {tg e : Expr} {t t' : TI} (h : PI X tg e t) (h' : PI X tg e t') : PI X tg e (fun σ H R => t σ H R ∨ t' σ H R) := ⟨fun pins s σ H R I q => q.elim (h.run pins s σ H R I) (h'.run pins s σ H R I)⟩
section
variable {X : Cx} {S : Sg} {W : XK} {tg a : Expr} {es : List Expr} {f : E} {fs : Env → M (List D)} {pos : Pos}
theorem it_list {K : PySem.W.Frag} {O : Addr → Prop} {H1 : Hp} {a : Addr} {ds : List D} (r : Rep K S (del H1 O) (.ref a) (.lst ds)) : ItOk K S O H1 (Itl K a) ds := by
  cases r with | lst h1 h2 h3 =>
  refine ⟨by rw [← h3.length, ← sizeLine_def]; exact h2, fun i H2 O2 μ st w hi => ?_, fun i H2 O2 μ st w hi => ?_⟩
  · have e := seen (st.lift _ _ h1 nt_lst)
    rw [← h3.length] at hi
    refine ⟨⟨_, _, .inl (.inl e), List.getElem?_eq_getElem hi⟩, fun x H3 y => ?_⟩
    obtain ⟨e1, y⟩ := y
    subst e1
    obtain ⟨d, e2, rd⟩ := h3.getV (y _ (.inl (.inl e)))
    exact ⟨Fr.refl _ _, w, d, e2, rd.mono st.lift⟩
  · have e := seen (st.lift _ _ h1 nt_lst)
    exact ⟨_, .inl (.inl e), by rw [h3.length]; exact hi⟩
theorem it_tup {K : PySem.W.Frag} {O : Addr → Prop} {H1 : Hp} {a : Addr} {ds : List D} (r : Rep K S (del H1 O) (.ref a) (.tup ds)) : ItOk K S O H1 (Itt K a) ds := by
  cases r with | tup h1 h2 h3 =>
  refine ⟨by rw [← h3.length, ← sizeLine_def]; exact h2, fun i H2 O2 μ st w hi => ?_, fun i H2 O2 μ st w hi => ?_⟩
  · have e := seenT (sqT_mono st.lift h1)
    rw [← h3.length] at hi
    refine ⟨⟨_, _, e, List.getElem?_eq_getElem hi⟩, fun x H3 y => ?_⟩
    obtain ⟨e1, y⟩ := y
    subst e1
    obtain ⟨d, e2, rd⟩ := h3.getV (y _ e)
    exact ⟨Fr.refl _ _, w, d, e2, rd.mono st.lift⟩
  · have e := seenT (sqT_mono st.lift h1)
    exact ⟨_, e, by rw [h3.length]; exact hi⟩
theorem it_str {K : PySem.W.Frag} {O : Addr → Prop} {H1 : Hp} {z : Str} (h1 : z.length ≤ sizeLine) (h2 : PyData.strOk z = true) : ItOk K S O H1 (Its z) (z.cps.toList.map signD) := by
  refine ⟨?_, fun i H2 O2 μ st w hi => ?_, fun i H2 O2 μ st w hi => ?_⟩
  · rw [List.length_map, Array.length_toList]
    rw [sizeLine_def] at h1
    exact h1
  · rw [List.length_map, Array.length_toList] at hi
    refine ⟨hi, fun x H3 y => ?_⟩
    obtain ⟨e1, c, e2, e3⟩ := y
    subst e1 e3
    refine ⟨Fr.refl _ _, w, signD c, ?_, .str _ (by rw [sizeLine_def]; exact (show 1 ≤ 16777216 by decide)) ?_⟩
    · rw [List.getElem?_map, Array.getElem?_toList, e2]
      rfl
    · refine strOk_sub h2 (l := [c]) fun d hd => ?_
      rw [List.mem_singleton.mp hd]
      exact Array.mem_toList_iff.mpr (Array.mem_of_getElem? e2)
  · rw [List.length_map, Array.length_toList] at hi
    exact hi
def seqOf : D → Option (List D)
  | .lst xs => some xs
  | .tup xs => some xs
  | .str z => some (z.cps.toList.map signD)
  | _ => none
def iSeq (f : E) : Env → M (List D) := fun Γ => M.bind (f Γ) fun x => M.opt (seqOf x)
theorem di_seq (h : DE X S W a f) : DI X S W tg a (iSeq f) :=
  piI (piOr (pi_list h) (piOr (pi_tup h) (pi_str h))) fun σ H R ⟨O, Γ, μ, w, s, g⟩ => by
    have g1 := good_bind g
    cases e : f Γ μ with
    | bad => rw [e] at g1; exact False.elim g1
    | exc c μ1 => 
      rw [e] at g1
      exact .inl ⟨O, Γ, μ, w, s, by rw [e]; exact g1⟩
    | ok d μ1 =>
      rw [e] at g1
      have g2 : Good (M.opt (seqOf d) μ1) _ _ := g1
      cases d <;> first | (exact False.elim g2) | skip
      · rename_i z
        refine .inr (.inr ⟨O, Γ, μ, w, s, ?_⟩)
        rw [e]
        intro H1 f1 w1 v rv
        cases rv with | str _ h1 h2 =>
        exact ⟨z, rfl, g2 H1 f1 w1 _ (it_str h1 h2)⟩
      · rename_i xs
        refine .inl ⟨O, Γ, μ, w, s, ?_⟩
        rw [e]
        intro H1 f1 w1 v rv
        have rv' := rv
        cases rv with | lst h1 h2 h3 =>
        exact ⟨_, rfl, ⟨_, .inl (.inl (seen h1))⟩, g2 H1 f1 w1 _ (it_list rv')⟩
      · rename_i xs
        refine .inr (.inl ⟨O, Γ, μ, w, s, ?_⟩)
        rw [e]
        intro H1 f1 w1 v rv
        have rv' := rv
        cases rv with | tup h1 h2 h3 =>
        exact ⟨_, rfl, ⟨_, seenT h1⟩, g2 H1 f1 w1 _ (it_tup rv')⟩
def intsD (lo : Int) (n : Nat) : List D := (List.range n).map fun i => .int (lo + (i : Nat))
theorem intsD_len (lo : Int) (n : Nat) : (intsD lo n).length = n := by unfold intsD; rw [List.length_map, List.length_range]
theorem it_range {K : PySem.W.Frag} {O : Addr → Prop} {H1 : Hp} {lo : Int} {n : Nat} (hn : n ≤ 16777216) : ItOk K S O H1 (Itr lo n) (intsD lo n) := by
  refine ⟨by rw [intsD_len]; exact hn, fun i H2 O2 μ st w hi => ?_, fun i H2 O2 μ st w hi => ?_⟩
  · rw [intsD_len] at hi
    refine ⟨hi, fun x H3 y => ?_⟩
    obtain ⟨e1, e2⟩ := y
    subst e1 e2
    refine ⟨Fr.refl _ _, w, .int (lo + i), ?_, .int _⟩
    unfold intsD
    rw [List.getElem?_map, List.getElem?_range hi]
    rfl
  · rw [intsD_len] at hi
    exact hi
def rangeD : List D → Option (List D)
  | [.int j] => if j ≤ 16777216 ∧ -(2 ^ 62) ≤ j then some (intsD 0 j.toNat) else none
  | [.int i, .int j] => if (-(2 ^ 62) ≤ i ∧ i < 2 ^ 62 ∧ -(2 ^ 62) ≤ j ∧ j < 2 ^ 62) ∧ j - i ≤ 16777216 then some (intsD i (j - i).toNat) else none
  | _ => none
def iRange (fs : Env → M (List D)) : Env → M (List D) := fun Γ => M.bind (fs Γ) fun xs => M.opt (rangeD xs)
theorem di_range1 {p : Pos} {fs : Env → M (List D)} (hm : X.mg "range" = none) (ha : DA X S W [a] fs) (hg : Gl X "range" := by rfl) (hs : starEach [a] X.env = [(false, eval a X.env)] := by rfl) : DI X S W tg (.Call (.Name "range" p) [a] [] pos) (fun Γ => M.bind (fs Γ) fun xs => if xs.length = 1 then M.opt (rangeD xs) else M.bad) :=
  piI (pi_range1 hg hm ha hs) fun σ H R ⟨O, h⟩ => ⟨O, (Run.bind h).mono fun xs H1 μ μ1 w0 f1 w1 h1 vs rv => by
    obtain ⟨hl, h2⟩ := run_if h1
    obtain ⟨z, μ4, e, w4, q⟩ := Run.opt h2
    unfold rangeD at e
    split at e
    · split at e
      · rename_i j hc
        cases e
        cases rv with | cons r1 r2 =>
        cases r2
        cases r1
        exact ⟨j, rfl, hc.2, by omega, q H1 (Fr.refl _ _) w4 _ (it_range (by omega))⟩
      · cases e
    · cases hl
    · cases e⟩
theorem di_range2 {b : Expr} {p : Pos} {fs : Env → M (List D)} (hm : X.mg "range" = none) (ha : DA X S W [a, b] fs) (hg : Gl X "range" := by rfl) (hs : starEach [a, b] X.env = [(false, eval a X.env), (false, eval b X.env)] := by rfl) (hs2 : starEach [b] X.env = [(false, eval b X.env)] := by rfl) :
    DI X S W tg (.Call (.Name "range" p) [a, b] [] pos) (fun Γ => M.bind (fs Γ) fun xs => if xs.length = 2 then M.opt (rangeD xs) else M.bad) :=
  piI (pi_range2 hg hm ha hs hs2) fun σ H R ⟨O, h⟩ => ⟨O, (Run.bind h).mono fun xs H1 μ μ1 w0 f1 w1 h1 vs rv => by
    obtain ⟨hl, h2⟩ := run_if h1
    obtain ⟨z, μ4, e, w4, q⟩ := Run.opt h2
    unfold rangeD at e
    split at e
    · cases hl
    · split at e
      · rename_i i j hc
        cases e
        cases rv with | cons r1 r2 =>
        cases r2 with | cons r2 r3 =>
        cases r3
        cases r1
        cases r2
        exact ⟨i, j, rfl, hc.1, q H1 (Fr.refl _ _) w4 _ (it_range (by omega))⟩
      · cases e
    · cases e⟩
/-- zip of two lists -/
def zipD : List D → Option (List D)
  | [.lst xs, .lst ys] => some ((xs.zip ys).map fun p => .tup [p.1, p.2])
  | _ => none
theorem it_zip {K : PySem.W.Frag} {O : Addr → Prop} {H1 : Hp} {a b : Addr} {ds es : List D} (r : Rep K S (del H1 O) (.ref a) (.lst ds)) (r' : Rep K S (del H1 O) (.ref b) (.lst es)) : ItOk K S O H1 (Itz K a b) ((ds.zip es).map fun p => .tup [p.1, p.2]) := by
  cases r with | lst h1 h2 h3 =>
  cases r' with | lst h4 h5 h6 =>
  have hl : ((ds.zip es).map fun p => D.tup [p.1, p.2]).length = min ds.length es.length := by rw [List.length_map, List.length_zip]
  have hlim := h2
  rw [h3.length, sizeLine_def] at hlim
  refine ⟨by rw [hl]; omega, fun i H2 O2 μ st w hi => ?_, fun i H2 O2 μ st w hi => ?_⟩
  · have e := seen (st.lift _ _ h1 nt_lst)
    have e' := seen (st.lift _ _ h4 nt_lst)
    rw [hl] at hi
    have i1 : i < ds.length := by omega
    have i2 : i < es.length := by omega
    obtain ⟨x, hx, rx⟩ := h3.get (List.getElem?_eq_getElem i1)
    obtain ⟨y, hy, ry⟩ := h6.get (List.getElem?_eq_getElem i2)
    refine ⟨⟨_, _, x, y, .inl (.inl e), .inl (.inl e'), hx, hy⟩, fun v H3 yl => ?_⟩
    obtain ⟨T, x', y', ev, hT, eH, q1, q2⟩ := yl
    subst ev eH
    have ex : x' = x := Option.some.inj ((q1 _ (.inl (.inl e))).symm.trans hx)
    have ey : y' = y := Option.some.inj ((q2 _ (.inl (.inl e'))).symm.trans hy)
    subst ex ey
    refine ⟨Fr.add hT, w.add hT, .tup [ds[i], es[i]], ?_, ?_⟩
    · rw [List.getElem?_map, show (ds.zip es)[i]? = some (ds[i], es[i]) from List.getElem?_zip_eq_some.mpr ⟨List.getElem?_eq_getElem i1, List.getElem?_eq_getElem i2⟩]
      rfl
    · exact .tup (.inl (.inl (by rw [del_out (w.fresh hT)]; exact upd_same))) (by rw [sizeLine_def]; exact (show 2 ≤ 16777216 by decide)) (w.reps (Fr.add hT) (.cons (rx.mono st.lift) (.cons (ry.mono st.lift) .nil)))
  · have e := seen (st.lift _ _ h1 nt_lst)
    have e' := seen (st.lift _ _ h4 nt_lst)
    rw [hl] at hi
    refine ⟨_, _, .inl (.inl e), .inl (.inl e'), ?_⟩
    rw [h3.length, h6.length]
    omega
theorem di_zip {b : Expr} {p tpos : Pos} {elts : List Expr} {kk : Nat} {fs : Env → M (List D)} (hm : X.mg "zip" = none) (ha : DA X S W [a, b] fs) (hg : Gl X "zip" := by rfl)
    (hs : starEach [a, b] X.env = (false, eval a X.env) :: starEach [b] X.env := by rfl) (hpl : (backTo pos (starEach [b] X.env)).any (·.1) = false := by rfl) :
    DI X S W (.Tuple elts kk tpos) (.Call (.Name "zip" p) [a, b] [] pos) (fun Γ => M.bind (fs Γ) fun xs => M.opt (zipD xs)) :=
  piI (pi_zip hg hm ha hs hpl) fun σ H R ⟨O, h⟩ => ⟨O, (Run.bind h).mono fun xs H1 μ μ1 w0 f1 w1 h1 vs rv => by
    obtain ⟨z, μ4, e, w4, q⟩ := Run.opt h1
    unfold zipD at e
    split at e
    · cases e
      cases rv with | cons r1 r2 =>
      cases r2 with | cons r2 r3 =>
      cases r3
      have r1' := r1
      have r2' := r2
      cases r1 with | lst h1 h2 h3 =>
      cases r2 with | lst h4 h5 h6 =>
      exact ⟨_, _, _, _, rfl, .inl (.inl (seen h1)), .inl (.inl (seen h4)), q H1 (Fr.refl _ _) w4 _ (it_zip r1' r2')⟩
    · cases e⟩

/-! ### targets -/
abbrev Tgt := D → Env → Option Env
def tG (K : PySem.W.Frag) (S : Sg) (T : Tgt) (is : List Nat) : TG := fun v σ H Q => ∃ Ob O Γ μ d Γ', Wd K S O H μ ∧ SlsB K S Ob O H σ Γ ∧ Rep K S (del H O) v d ∧ T d Γ = some Γ' ∧
  ∀ H' σ', Fr S H H' → Wd K S O H' μ → SlsB K S Ob O H' σ' Γ' → (∀ vs, (∀ i ∈ is, i ∈ vs) → wipe σ' vs = wipe σ vs) → Q σ' H'
def tGs (K : PySem.W.Frag) (S : Sg) (T : List D → Env → Option Env) (is : List Nat) : TGs := fun vs σ H Q => ∃ Ob O Γ μ ds Γ', Wd K S O H μ ∧ SlsB K S Ob O H σ Γ ∧ Reps K S (del H O) vs ds ∧ T ds Γ = some Γ' ∧
  ∀ H' σ', Fr S H H' → Wd K S O H' μ → SlsB K S Ob O H' σ' Γ' → (∀ vs, (∀ i ∈ is, i ∈ vs) → wipe σ' vs = wipe σ vs) → Q σ' H'
abbrev DG (X : Cx) (S : Sg) (tg : Expr) (T : Tgt) (is : List Nat) : Prop := PG X tg (tG X.K S T is)
abbrev DGs (X : Cx) (S : Sg) (tgs : List Expr) (T : List D → Env → Option Env) (is : List Nat) : Prop := PGs X tgs (tGs X.K S T is)
theorem pgI {e : Expr} {t t' : TG} (h : PG X e t) (i : ∀ v σ H Q, t' v σ H Q → t v σ H Q) : PG X e t' := ⟨fun pins s σ H v u Q I r q => h.run pins s σ H v u Q I r (i v σ H Q q)⟩
theorem pgsI {e : List Expr} {t t' : TGs} (h : PGs X e t) (i : ∀ v σ H Q, t' v σ H Q → t v σ H Q) : PGs X e t' := ⟨fun pins s σ H v u Q I r q => h.run pins s σ H v u Q I r (i v σ H Q q)⟩
theorem pgOr {e : Expr} {t t' : TG} (h : PG X e t) (h' : PG X e t') : PG X e (fun v σ H Q => t v σ H Q ∨ t' v σ H Q) := ⟨fun pins s σ H v u Q I r q => q.elim (h.run pins s σ H v u Q I r) (h'.run pins s σ H v u Q I r)⟩
def tName (i : Nat) : Tgt := fun d Γ => some (Γ.set i (.v d))
theorem wipe_get {σ : St} {i : Nat} : ∀ {vs : List Nat}, (wipe σ vs)[i]? = if i ∈ vs ∧ i < σ.length then some none else σ[i]?
  | [] => by simp [wipe]
  | v :: vs => by
    unfold wipe
    by_cases h : v = i
    · subst h
      by_cases hl : v < σ.length
      · rw [List.getElem?_set_self (by rw [wipe_length]; exact hl), if_pos ⟨List.mem_cons_self, hl⟩]
      · rw [List.getElem?_eq_none (by rw [List.length_set, wipe_length]; omega), if_neg (fun z => hl z.2), List.getElem?_eq_none (by omega)]
    · rw [List.getElem?_set_ne h, wipe_get]
      have e : (i ∈ v :: vs ∧ i < σ.length) ↔ (i ∈ vs ∧ i < σ.length) := by
        constructor
        · rintro ⟨h1, h2⟩
          rcases List.mem_cons.mp h1 with z | z
          · exact absurd z.symm h
          · exact ⟨z, h2⟩
        · rintro ⟨h1, h2⟩
          exact ⟨List.mem_cons_of_mem _ h1, h2⟩
      by_cases c : i ∈ vs ∧ i < σ.length
      · rw [if_pos c, if_pos (e.mpr c)]
      · rw [if_neg c, if_neg (fun z => c (e.mp z))]
theorem wipe_set {σ : St} {i : Nat} {x : Option V} {vs : List Nat} (h : i ∈ vs) : wipe (σ.set i x) vs = wipe σ vs := by
  apply List.ext_getElem?
  intro j
  rw [wipe_get, wipe_get, List.length_set]
  by_cases c : j ∈ vs ∧ j < σ.length
  · rw [if_pos c, if_pos c]
  · rw [if_neg c, if_neg c]
    by_cases e : i = j
    · subst e
      have hl : ¬ i < σ.length := fun z => c ⟨h, z⟩
      rw [List.getElem?_eq_none (by rw [List.length_set]; omega), List.getElem?_eq_none (by omega)]
    · rw [List.getElem?_set_ne e]
theorem wipe_wipe {σ : St} {vs : List Nat} : wipe (wipe σ vs) vs = wipe σ vs := by
  apply List.ext_getElem?
  intro j
  rw [wipe_get, wipe_get, wipe_length]
  by_cases c : j ∈ vs ∧ j < σ.length
  · rw [if_pos c, if_pos c]
  · rw [if_neg c, if_neg c]
theorem dg_name (i : Nat) {x : Str} (hN : X.N.Nodup) (hi : X.N[i]? = some x := by rfl) (hx : Loc X.env.scope x := by first | exact Or.inl rfl | exact Or.inr rfl) (hf : X.fn x = true ∨ X.env.scope.names.lookup x = some .local := by first | exact .inl rfl | exact .inr rfl) : DG X S (.Name x pos) (tName i) [i] :=
  pgI (pg_name hN hi hx hf) fun v σ H Q ⟨Ob, O, Γ, μ, d, Γ', w, s, r, e, q⟩ => by
    cases e
    exact q H _ (Fr.refl _ _) w (s.setV r) fun vs h => wipe_set (h i (List.mem_singleton.mpr rfl))
def tsNil : List D → Env → Option Env
  | [], Γ => some Γ
  | _ :: _, _ => none
def tsCons (T : Tgt) (Ts : List D → Env → Option Env) : List D → Env → Option Env
  | [], _ => none
  | d :: ds, Γ => (T d Γ).bind (Ts ds)
theorem dgs_nil : DGs X S [] tsNil [] := pgsI pgs_nil fun v σ H Q ⟨Ob, O, Γ, μ, ds, Γ', w, s, r, e, q⟩ => by
  cases ds with
  | nil =>
    cases r
    cases e
    exact ⟨rfl, q H σ (Fr.refl _ _) w s fun _ _ => rfl⟩
  | cons _ _ => cases e
theorem dgs_cons {T : Tgt} {Ts : List D → Env → Option Env} {is js : List Nat} (h : DG X S a T is) (h2 : DGs X S es Ts js) (hs : (assignEach (a :: es) X.env).map (·.2) = assign a X.env :: (assignEach es X.env).map (·.2) := by rfl) : DGs X S (a :: es) (tsCons T Ts) (is ++ js) :=
  pgsI (pgs_cons h h2 hs) fun v σ H Q ⟨Ob, O, Γ, μ, ds, Γ', w, s, r, e, q⟩ => by
    cases ds with
    | nil => cases e
    | cons d ds =>
      cases r with | cons r1 r2 =>
      obtain ⟨Γ1, e1, e2⟩ := Option.bind_eq_some_iff.mp (show (T d Γ).bind (Ts ds) = some Γ' from e)
      refine ⟨_, _, rfl, Ob, O, Γ, μ, d, Γ1, w, s, r1, e1, fun H' σ' f' w' s' hw => ⟨Ob, O, Γ1, μ, ds, Γ', w', s', w.reps f' r2, e2, fun H2 σ2 f2 w2 s2 hw2 => ?_⟩⟩
      exact q H2 σ2 (f'.trans f2) w2 s2 fun vs h => (hw2 vs fun i hi => h i (List.mem_append_right _ hi)).trans (hw vs fun i hi => h i (List.mem_append_left _ hi))
def tTup (n : Nat) (Ts : List D → Env → Option Env) : Tgt
  | .tup ds, Γ => if ds.length = n then Ts ds Γ else none
  | .lst ds, Γ => if ds.length = n then Ts ds Γ else none
  | _, _ => none
theorem dg_tup {Ts : List D → Env → Option Env} {is : List Nat} {k n : Nat} (hc : X.calm = true) (h : DGs X S es Ts is) (hn : (assignEach es X.env).length = n := by rfl) (hst : (assignEach es X.env).findIdx? (·.1) = none := by rfl) : DG X S (.Tuple es k pos) (tTup n Ts) is :=
  pgI (pgOr (pg_tup hc h hn hst) (pg_lst hc h hn hst)) fun v σ H Q ⟨Ob, O, Γ, μ, d, Γ', w, s, r, e, q⟩ => by
    unfold tTup at e
    split at e
    · split at e
      · rename_i hl
        cases r with | tup h1 h2 h3 =>
        exact .inl ⟨_, _, rfl, seenT h1, by rw [h3.length]; exact hl, Ob, O, Γ, μ, _, Γ', w, s, h3, e, q⟩
      · cases e
    · split at e
      · rename_i hl
        cases r with | lst h1 h2 h3 =>
        exact .inr ⟨_, _, rfl, .inl (.inl (seen h1)), by rw [h3.length]; exact hl, Ob, O, Γ, μ, _, Γ', w, s, h3, e, q⟩
      · cases e
    · cases e

/-! ### comprehensions -/
def lcF (T : Tgt) (fb : Env → M Bool) (fe : E) (Γ : Env) : List D → M (List D)
  | [] => M.pure []
  | d :: ds => M.bind (M.opt (T d Γ)) fun Γ1 => M.bind (fb Γ1) fun c => if c = true then M.bind (fe Γ1) fun y => M.bind (lcF T fb fe Γ ds) fun ys => M.pure (y :: ys) else lcF T fb fe Γ ds
def nox {α : Type} (m : M α) : M α := fun μ => match m μ with
  | .exc _ _ => .bad
  | r => r
@[simp] theorem nox_pure {α : Type} (a : α) : nox (M.pure a) = M.pure a := rfl
@[simp] theorem nox_opt {α : Type} (a : Option α) : nox (M.opt a) = M.opt a := by cases a <;> rfl
def eLc (fi : Env → M (List D)) (T : Tgt) (fb : Env → M Bool) (fe : E) (vs : List Nat) : E := fun Γ => M.bind (fi Γ) fun ds => M.bind (nox (lcF T fb fe (wipeG Γ vs) ds)) fun ys => M.pure (.lst ys)
abbrev E0' : XK := fun _ _ _ => False
abbrev DTs (X : Cx) (S : Sg) (W : XK) (ifs : List Expr) (f : Env → M Bool) : Prop := PTs X ifs (tB X.K S W f)
theorem ptsI {ifs : List Expr} {t t' : TT} (h : PTs X ifs t) (i : ∀ σ H Q, t' σ H Q → t σ H Q) : PTs X ifs t' := ⟨fun pins s σ H Q I q => h.run pins s σ H Q I (i σ H Q q)⟩
def bYes : Env → M Bool := fun _ => M.pure true
theorem dts_nil : DTs X S W [] bYes := ptsI pts_nil fun σ H Q ⟨O, Γ, μ, w, s, g⟩ => g H (Fr.refl _ _) w
theorem dts_one {fb : Env → M Bool} (h : DT X S W a fb) : DTs X S W [a] fb := pts_one h
theorem lcF_length {T : Tgt} {fb : Env → M Bool} {fe : E} {Γ : Env} : ∀ {ds : List D} {μ : List D} {A : List D → List D → Prop} {B : Nat → List D → Prop}, Good (lcF T fb fe Γ ds μ) A B → Good (lcF T fb fe Γ ds μ) (fun ys μ' => ys.length ≤ ds.length ∧ A ys μ') B
  | [], μ, A, B, h => ⟨Nat.le_refl _, h⟩
  | d :: ds, μ, A, B, h => by
    unfold lcF at h ⊢
    cases e : T d Γ with
    | none => rw [e] at h; exact h
    | some Γ1 =>
      rw [e] at h
      simp only [M.opt_some, M.pure_bind] at h ⊢
      unfold M.bind at h ⊢
      cases e2 : fb Γ1 μ with
      | bad => rw [e2] at h; exact h
      | exc c μ1 => rw [e2] at h; exact h
      | ok c μ1 =>
        rw [e2] at h
        cases c with
        | false =>
          simp only [Bool.false_eq_true, if_false] at h ⊢
          exact (lcF_length h).imp (fun ys μ' q => ⟨Nat.le_succ_of_le q.1, q.2⟩) fun _ _ q => q
        | true =>
          simp only [if_true] at h ⊢
          cases e3 : fe Γ1 μ1 with
          | bad => rw [e3] at h; exact h
          | exc c μ2 => rw [e3] at h; exact h
          | ok y μ2 =>
            rw [e3] at h
            simp only at h ⊢
            cases e4 : lcF T fb fe Γ ds μ2 with
            | bad => rw [e4] at h; exact h
            | exc c μ3 => rw [e4] at h; exact h
            | ok ys μ3 =>
              rw [e4] at h
              have q : Good (lcF T fb fe Γ ds μ2) (fun zs _ => zs.length ≤ ds.length ∧ True) B := lcF_length (by rw [e4]; trivial)
              rw [e4] at q
              exact ⟨Nat.succ_le_succ q.1, h⟩
theorem good_nox {α : Type} {m : M α} {μ : List D} {A : α → List D → Prop} {B B' : Nat → List D → Prop} (h : Good (nox m μ) A B) : Good (m μ) A B' := by
  unfold nox at h
  cases e : m μ with
  | ok a μ1 => rw [e] at h; exact h
  | exc c μ1 => rw [e] at h; exact False.elim h
  | bad => rw [e] at h; exact False.elim h
/-- the turns of a comprehension -/
theorem lc_turns {K : PySem.W.Frag} {O : Addr → Prop} {σ : St} {Γ : Env} {H1 : Hp} {μ : List D} {J : It} {ds : List D} {T : Tgt} {is vs : List Nat} {fb : Env → M Bool} {fe : E} {Dn : Addr} {Q : VK} (hD : H1 Dn = none) (w : Wd K S O H1 μ) (s : Sls K S O H1 σ Γ) (it : ItOk K S O H1 J ds) (hiv : ∀ i ∈ is, i ∈ vs)
    (g : Good (lcF T fb fe (wipeG Γ vs) ds μ) (fun ys μ' => ∀ H', Fr S H1 H' → Wd K S O H' μ' → ∀ v, Rep K S (del H' O) v (.lst ys) → Q v H') (fun _ _ => False)) :
    ∃ W : Nat → Nat → Hp → Prop, (∃ m, W 0 m (upd H1 Dn (.lst []))) ∧ ∀ i m H, W i m H →
      (J.stop i H ∧ Q (.ref Dn) H) ∨ (J.go i H ∧ ∃ Nx : Hp → Prop, (∀ H', Nx H' → ∃ m', m' < m ∧ W (i + 1) m' H') ∧ ∀ x H', J.yld i H x H' → tG K S T is x (wipe σ vs) H' fun σ2 H2 => wipe σ2 vs = wipe σ vs ∧ tB K S E0' fb σ2 H2 fun b H3 =>
        if b = true then tD K S E0' fe σ2 H3 fun y H4 => ∃ acc, H4 Dn = some (.lst acc) ∧ acc.length < sizeLine ∧ Nx (upd H4 Dn (.lst (acc ++ [y]))) else Nx H3) := by
  obtain ⟨Ob, s⟩ := s
  have hOD : ¬ O Dn := w.fresh hD
  have hlim := it.lim
  refine ⟨fun i m H => m = ds.length - i ∧ i ≤ ds.length ∧ ∃ acc ysd μi, Stp O H1 (With O Dn) H ∧ Fr S H1 H ∧ Wd K S (With O Dn) H μi ∧ SlsB K S Ob (With O Dn) H (wipe σ vs) (wipeG Γ vs) ∧ H Dn = some (.lst acc) ∧ acc.length ≤ i ∧ Reps K S (del H (With O Dn)) acc ysd ∧
      Good (lcF T fb fe (wipeG Γ vs) (ds.drop i) μi) (fun ys μ' => ∀ H', Fr S H1 H' → Wd K S O H' μ' → ∀ v, Rep K S (del H' O) v (.lst (ysd ++ ys)) → Q v H') (fun _ _ => False), ⟨ds.length, by simp, Nat.zero_le _, [], [], μ, ⟨fun b o h n t => by rw [upd_ne (ne_of_none h hD)]; exact h, upd_dom, fun a h => .inl h, fun a h => h.elim .inl fun z => .inr (z ▸ hD)⟩, Fr.add hD, w.more hD, (s.wipe vs).more hD, upd_same, Nat.le_refl _, .nil, g⟩, ?_⟩
  rintro i m H ⟨rfl, hi, acc, ysd, μi, st, fr, wi, si, ea, hacc, ra, gi⟩
  by_cases hlt : i < ds.length
  · obtain ⟨go, yl⟩ := it.go i H (With O Dn) μi st wi hlt
    refine .inr ⟨go, _, fun H' h => ⟨ds.length - (i + 1), by omega, h⟩, fun x H' hy => ?_⟩
    obtain ⟨f3, w3, d, ed, rd⟩ := yl x H' hy
    have edr : ds.drop i = d :: ds.drop (i + 1) := by
      obtain ⟨h1, h2⟩ := List.getElem?_eq_some_iff.mp ed
      rw [← h2]
      exact List.drop_eq_getElem_cons h1
    rw [edr] at gi
    unfold lcF at gi
    cases eT : T d (wipeG Γ vs) with
    | none => rw [eT] at gi; exact False.elim gi
    | some Γ1 =>
      rw [eT] at gi
      simp only [M.opt_some, M.pure_bind] at gi
      refine ⟨Ob, With O Dn, wipeG Γ vs, μi, d, Γ1, w3, si.fr wi f3, rd, eT, fun H4 σ4 f4 w4 s4 hw => ⟨(hw vs hiv).trans wipe_wipe, ?_⟩⟩
      refine ⟨With O Dn, Γ1, μi, w4, ⟨Ob, s4⟩, (good_bind gi).imp (fun c μ5 g5 H5 f5 w5 => ?_) (fun _ _ z => z.elim)⟩
      have keepD : ∀ {H5 : Hp}, Fr S H4 H5 → H5 Dn = some (.lst acc) := fun {H5} f5 => by
        have nr : Dn ∉ S.ρ := fun z => hOD (w.rho _ z)
        exact f5.keep _ _ (f4.keep _ _ (f3.keep _ _ ea nr nt_lst) nr nt_lst) nr nt_lst
      have st5 : ∀ {H5 : Hp}, Fr S H4 H5 → Stp O H1 (With O Dn) H5 := fun {H5} f5 => st.trans (Stp.of ((f3.trans f4).trans f5) wi)
      cases c with
      | false =>
        simp only [Bool.false_eq_true, if_false] at g5 ⊢
        exact ⟨by first | rfl | trivial, hlt, acc, ysd, μ5, st5 f5, fr.trans ((f3.trans f4).trans f5), w5, si.fr wi ((f3.trans f4).trans f5), keepD f5, Nat.le_succ_of_le hacc, wi.reps ((f3.trans f4).trans f5) ra, g5⟩
      | true =>
        simp only [if_true] at g5 ⊢
        refine ⟨With O Dn, Γ1, μ5, w5, ⟨Ob, s4.fr w4 f5⟩, (good_bind g5).imp (fun y μ6 g6 H6 f6 w6 v rv => ?_) (fun _ _ z => z.elim)⟩
        have f46 := f5.trans f6
        have f06 := (f3.trans f4).trans f46
        have ea6 := keepD f46
        have nr : Dn ∉ S.ρ := fun z => hOD (w.rho _ z)
        have hD' : With O Dn Dn := .inr rfl
        refine ⟨acc, ea6, by rw [sizeLine_def]; omega, by first | rfl | trivial, hlt, acc ++ [v], ysd ++ [y], μ6, ?_, ?_, w6.write hD' nr ea6 rfl, ?_, upd_same, by rw [List.length_append, List.length_singleton]; omega, ?_, ?_⟩
        · refine (st5 f46).trans ⟨fun b o h n t => ?_, upd_dom, fun _ h => h, fun _ h => .inl h⟩
          rw [upd_ne (fun z => n (by rw [z]; exact hD'))]
          exact h
        · refine ⟨fun b o h n t => ?_, fun b h => upd_dom b ((fr.trans f06).dom b h)⟩
          rw [upd_ne (ne_of_none h hD)]
          exact (fr.trans f06).keep b o h n t
        · have s6 := si.fr wi f06
          refine ⟨s6.len, s6.hb, fun j z e => ?_, s6.dis⟩
          have q := s6.at_ j z e
          cases z with
          | no => trivial
          | v dd => obtain ⟨x, e, r⟩ := q; exact ⟨x, e, r.mono (keep_write hD')⟩
          | o dd =>
            obtain ⟨a, e, h1, h2, c⟩ := q
            refine ⟨a, e, h1, h2, c.mono (keep_write hD') ?_⟩
            rw [upd_ne]
            rintro rfl
            have e0 := (s.wipe vs).at_ j _ (by assumption)
            obtain ⟨a', e', h1', _, c'⟩ := e0
            rw [e'] at e
            cases e
            exact hOD h1'
        · exact (Reps.append (wi.reps f06 ra) (.cons rv .nil)).mono (keep_write hD')
        · have g7 := good_bind g6
          refine g7.imp (fun ys μ7 g8 H' f' w' u ru => ?_) (fun _ _ z => z)
          refine g8 H' f' w' u ?_
          rw [List.append_assoc] at ru
          exact ru
  · have ei : i = ds.length := by omega
    subst ei
    refine .inl ⟨it.stop _ H (With O Dn) μi st wi (Nat.le_refl _), ?_⟩
    rw [List.drop_length] at gi
    have q : ∀ H', Fr S H1 H' → Wd K S O H' μi → ∀ v, Rep K S (del H' O) v (.lst (ysd ++ [])) → Q v H' := gi
    refine q H fr (wi.less (fun a h => .inl h) w.rho) _ ?_
    rw [List.append_nil]
    refine .lst (by rw [del_out hOD]; exact ea) (by rw [sizeLine_def]; omega) (reps_less (fun a h => .inl h) ra)
theorem tLc_of {K : PySem.W.Frag} {fi : Env → M (List D)} {T : Tgt} {is vs : List Nat} {fb : Env → M Bool} {fe : E} (hiv : ∀ i ∈ is, i ∈ vs) {σ : St} {H : Hp} {Q : VK} (h : tD K S W (eLc fi T fb fe vs) σ H Q) : tLc (tI K S W fi) (tG K S T is) (tB K S E0' fb) (tD K S E0' fe) vs σ H Q := by
  obtain ⟨O, h⟩ := h
  refine ⟨O, (Run.bind h).mono fun ds H1 μ μ1 w0 f1 w1 h1 J it Dn hD => ?_⟩
  obtain ⟨Γ, μ2, w2, s2, g2⟩ := h1
  refine lc_turns hD w2 s2 it hiv ?_
  refine (good_nox (good_bind g2)).imp (fun ys μ3 g3 H' f' w' v rv => ?_) (fun _ _ z => z)
  exact g3 H' f' w' v rv
theorem de_lc {elt iter : Expr} {ifs : List Expr} {scope : Scope} {own : List (Str × Nat)} {fi : Env → M (List D)} {T : Tgt} {is : List Nat} {fb : Env → M Bool} {fe : E} (hc : X.calm = true) (hN : X.N.Nodup) (hi : DI X S W tg iter fi) (ok : BlkOk X.N X.env.scope scope own) (hiv : ∀ i ∈ is, i ∈ own.map (·.2))
    (hg : ∀ (s : Shared) (H : Hp) (C : Addr) (cl : List (Str × Addr)) (fp : List Addr), DG (X.blk s H scope (compEnvC scope cl C X.env) fp) S tg T is) (ht : ∀ (s : Shared) (H : Hp) (C : Addr) (cl : List (Str × Addr)) (fp : List Addr), DTs (X.blk s H scope (compEnvC scope cl C X.env) fp) S E0' ifs fb)
    (he : ∀ (s : Shared) (H : Hp) (C : Addr) (cl : List (Str × Addr)) (fp : List Addr), DE (X.blk s H scope (compEnvC scope cl C X.env) fp) S E0' elt fe) (hs : ∀ x, foldedSetIterable iter X.env x = pure x := by intro _; rfl) :
    DE X S W (.ListComp elt [⟨tg, iter, ifs, 0⟩] scope pos) (eLc fi T fb fe (own.map (·.2))) :=
  peI (pe_lc hc hN hi ok hg ht he hs) fun σ H Q h => tLc_of hiv h
end
end Dd
namespace Dd
open PySem PySem.Spec L2

/-! ### statements -/
structure Fm (K : PySem.W.Frag) (S : Sg) (H0 : Hp) (O0 O : Addr → Prop) (σ : St) (H : Hp) (Γ : Env) (μ : List D) : Prop where
  wd : Wd K S O H μ
  sl : SlsB K S O0 O H σ Γ
  fr : Fr S H0 H
  up : ∀ a, O0 a → O a
  nw : ∀ a, O a → O0 a ∨ H0 a = none
inductive SO where
  | nx (Γ : Env) | ret (d : D) | bk (Γ : Env) | ct (Γ : Env)
abbrev SF := Env → M SO
def Post (K : PySem.W.Frag) (S : Sg) (H0 : Hp) (O0 O : Addr → Prop) (H : Hp) (Z : Ends) : SO → List D → Prop
  | .nx Γ', μ' => ∀ σ' H' O', Fm K S H0 O0 O' σ' H' Γ' μ' → Stp O H O' H' → Z.nx σ' H'
  | .bk Γ', μ' => ∀ σ' H' O', Fm K S H0 O0 O' σ' H' Γ' μ' → Stp O H O' H' → Z.bk σ' H'
  | .ct Γ', μ' => ∀ σ' H' O', Fm K S H0 O0 O' σ' H' Γ' μ' → Stp O H O' H' → Z.ct σ' H'
  | .ret d, μ' => ∀ v H', Fr S H0 H' → Wd K S O0 H' μ' → Rep K S (del H' O0) v d → Z.rt v H'
def Exc (K : PySem.W.Frag) (S : Sg) (W : XK) (H0 : Hp) (O0 : Addr → Prop) (c : Nat) (μ' : List D) : Prop := ∀ H', Fr S H0 H' → Wd K S O0 H' μ' → W (.ref (S.EX c)) none H'
def tS (K : PySem.W.Frag) (S : Sg) (W : XK) (F : SF) : TS := fun D σ H => ∃ H0 O0 O Γ μ, Fm K S H0 O0 O σ H Γ μ ∧ Good (F Γ μ) (Post K S H0 O0 O H D) (Exc K S W H0 O0)
abbrev DS (X : Cx) (S : Sg) (W : XK) (st : Stmt) (F : SF) : Prop := PS X st (tS X.K S W F)
abbrev DSs (X : Cx) (S : Sg) (W : XK) (st : List Stmt) (F : SF) : Prop := PSs X st (tS X.K S W F)
section
variable {K : PySem.W.Frag} {S : Sg} {W : XK} {H0 : Hp} {O0 O O' : Addr → Prop} {σ : St} {H H' : Hp} {Γ Γ' : Env} {μ μ' : List D} {α : Type}
theorem Fm.less (m : Fm K S H0 O0 O σ H Γ μ) (w : Wd K S O H' μ') : Wd K S O0 H' μ' := w.less m.up m.sl.hb
theorem Fm.go (m : Fm K S H0 O0 O σ H Γ μ) (f : Fr S H H') (w : Wd K S O H' μ') : Fm K S H0 O0 O σ H' Γ μ' := ⟨w, m.sl.fr m.wd f, m.fr.trans f, m.up, m.nw⟩
theorem Fm.set (m : Fm K S H0 O0 O σ H Γ μ) {i : Nat} {x : V} {d : D} (r : Rep K S (del H O) x d) : Fm K S H0 O0 O (σ.set i (some x)) H (Γ.set i (.v d)) μ := ⟨m.wd, m.sl.setV r, m.fr, m.up, m.nw⟩
theorem Fm.sls {σ' : St} (m : Fm K S H0 O0 O σ H Γ μ) (s : SlsB K S O0 O H σ' Γ') : Fm K S H0 O0 O σ' H Γ' μ := ⟨m.wd, s, m.fr, m.up, m.nw⟩
/-- an expression, a test, arguments ahead of what follows in a statement -/
theorem st_run {f : Env → M α} {k : α → M SO} {A : SO → List D → Prop} (m : Fm K S H0 O0 O σ H Γ μ) (g : Good (M.bind (f Γ) k μ) A (Exc K S W H0 O0)) :
    Run K S W O σ H f fun a H1 => ∃ μ1, Fr S H H1 ∧ Fm K S H0 O0 O σ H1 Γ μ1 ∧ Good (k a μ1) A (Exc K S W H0 O0) :=
  ⟨Γ, μ, m.wd, ⟨O0, m.sl⟩, (good_bind g).imp (fun a μ1 g1 H1 f1 w1 => ⟨μ1, f1, m.go f1 w1, g1⟩) fun c μ1 q H1 f1 w1 => q H1 (m.fr.trans f1) (m.less w1)⟩
end
def sSeq (F G : SF) : SF := fun Γ => M.bind (F Γ) fun r => match r with
  | .nx Γ' => G Γ'
  | r => M.pure r
section
variable {X : Cx} {S : Sg} {W : XK} {st : Stmt} {rest : List Stmt} {F G : SF} {a b c : Expr} {f g : E} {fb : Env → M Bool} {fs : Env → M (List D)} {pos : Pos}
def sNil : SF := fun Γ => M.pure (.nx Γ)
theorem dss_nil : DSs X S W [] sNil := pssI pss_nil fun Z σ H ⟨H0, O0, O, Γ, μ, m, g⟩ => g σ H O m (Stp.refl _ _)
theorem dss_one (h : DS X S W st F) : DSs X S W [st] F := pss_one h
theorem dss_cons (h : DS X S W st F) (h2 : DSs X S W rest G) : DSs X S W (st :: rest) (sSeq F G) :=
  pssI (pss_cons h h2) fun Z σ H ⟨H0, O0, O, Γ, μ, m, g⟩ => ⟨H0, O0, O, Γ, μ, m, (good_bind g).imp (fun r μ1 g1 => by
    cases r with
    | nx Γ1 =>
      intro σ1 H1 O1 m1 s1
      refine ⟨H0, O0, O1, Γ1, μ1, m1, Good.imp g1 (fun r2 μ2 p2 => ?_) fun _ _ q => q⟩
      cases r2 with
      | nx Γ2 => exact fun σ2 H2 O2 m2 s2 => p2 σ2 H2 O2 m2 (s1.trans s2)
      | bk Γ2 => exact fun σ2 H2 O2 m2 s2 => p2 σ2 H2 O2 m2 (s1.trans s2)
      | ct Γ2 => exact fun σ2 H2 O2 m2 s2 => p2 σ2 H2 O2 m2 (s1.trans s2)
      | ret d => exact p2
    | bk Γ1 => exact g1
    | ct Γ1 => exact g1
    | ret d => exact g1) fun _ _ q => q⟩
def sBad : SF := fun _ => M.bad
theorem ds_bad : DS X S W st sBad := psI ps_never fun Z σ H ⟨H0, O0, O, Γ, μ, m, g⟩ => g
theorem dss_bad : DSs X S W rest sBad := pssI pss_never fun Z σ H ⟨H0, O0, O, Γ, μ, m, g⟩ => g
theorem ds_pass : DS X S W (.Pass pos) sNil := psI ps_pass fun Z σ H ⟨H0, O0, O, Γ, μ, m, g⟩ => g σ H O m (Stp.refl _ _)
def sSet (i : Nat) (f : E) : SF := fun Γ => M.bind (f Γ) fun d => M.pure (.nx (Γ.set i (.v d)))
theorem ds_set (i : Nat) {x : Str} {pos' : Pos} (hN : X.N.Nodup) (he : DE X S W a f) (hi : X.N[i]? = some x := by rfl) (hx : Loc X.env.scope x := by first | exact Or.inl rfl | exact Or.inr rfl) (hs : swapsWith a (some (.Name x pos')) pos.line X.env = pure false := by rfl)
    (hf : X.fn x = true ∨ X.env.scope.names.lookup x = some .local := by first | exact .inl rfl | exact .inr rfl) : DS X S W (.Assign [.Name x pos'] a pos) (sSet i f) :=
  psI (ps_set hN hi hx he hs hf) fun Z σ H ⟨H0, O0, O, Γ, μ, m, g⟩ => ⟨O, (st_run m g).mono fun d H1 _ _ w f' w' ⟨μ1, f1, m1, g1⟩ v rv => g1 _ _ O (m1.set rv) (Stp.of f1 w)⟩
theorem ds_setLc (i : Nat) {y : Str} {py : Pos} {elt tg iter : Expr} {ifs : List Expr} {scope : Scope} {own : List (Str × Nat)} {lpos : Pos} {fi : Env → M (List D)} {T : Tgt} {is : List Nat} {fe : E} (hc : X.calm = true) (hN : X.N.Nodup)
    (hsw : swapsWith (.ListComp elt [⟨tg, iter, ifs, 0⟩] scope lpos) (some (.Name y py)) pos.line X.env = pure true) (hi : DI X S W tg iter fi) (ok : BlkOk X.N X.env.scope scope own) (hiv : ∀ i ∈ is, i ∈ own.map (·.2))
    (hg : ∀ (s : Shared) (H : Hp) (C : Addr) (cl : List (Str × Addr)) (fp : List Addr), DG (X.blk s H scope (compEnvC scope cl C X.env) fp) S tg T is) (ht : ∀ (s : Shared) (H : Hp) (C : Addr) (cl : List (Str × Addr)) (fp : List Addr), DTs (X.blk s H scope (compEnvC scope cl C X.env) fp) S E0' ifs fb)
    (he : ∀ (s : Shared) (H : Hp) (C : Addr) (cl : List (Str × Addr)) (fp : List Addr), DE (X.blk s H scope (compEnvC scope cl C X.env) fp) S E0' elt fe) (hy : X.N[i]? = some y := by rfl) (hyl : X.env.scope.names.lookup y = some .local := by rfl) (hs : ∀ x, foldedSetIterable iter X.env x = pure x := by intro _; rfl) :
    DS X S W (.Assign [.Name y py] (.ListComp elt [⟨tg, iter, ifs, 0⟩] scope lpos) pos) (sSet i (eLc fi T fb fe (own.map (·.2)))) :=
  psI (ps_setLc hc hN hy hyl hsw hi ok hg ht he hs) fun Z σ H ⟨H0, O0, O, Γ, μ, m, g⟩ => by
    refine tLc_of (Q := fun x H1 => gName i x σ H1 Z.nx) hiv ⟨O, (st_run m g).mono fun d H1 _ _ w f' w' ⟨μ1, f1, m1, g1⟩ v rv => g1 _ _ O (m1.set rv) (Stp.of f1 w)⟩
def sRet (f : E) : SF := fun Γ => M.bind (f Γ) fun d => M.pure (.ret d)
theorem ds_ret (he : DE X S W a f) : DS X S W (.Return (some a) pos) (sRet f) :=
  psI (ps_ret he) fun Z σ H ⟨H0, O0, O, Γ, μ, m, g⟩ => ⟨O, (st_run m g).mono fun d H1 _ _ w f' w' ⟨μ1, f1, m1, g1⟩ v rv => g1 v H1 m1.fr (m1.less m1.wd) (rep_less m1.up rv)⟩
def sRetN : SF := fun _ => M.pure (.ret .non)
theorem ds_retN : DS X S W (.Return none pos) sRetN := psI ps_retN fun Z σ H ⟨H0, O0, O, Γ, μ, m, g⟩ => g .non H m.fr (m.less m.wd) .non
def sExpr (f : E) : SF := fun Γ => M.bind (f Γ) fun _ => M.pure (.nx Γ)
theorem ds_expr (he : DE X S W a f) (hs : swapsWith a none pos.line X.env = pure false := by rfl) : DS X S W (.Expr a pos) (sExpr f) :=
  psI (ps_expr he hs) fun Z σ H ⟨H0, O0, O, Γ, μ, m, g⟩ => ⟨O, (st_run m g).mono fun d H1 _ _ w f' w' ⟨μ1, f1, m1, g1⟩ v rv => g1 _ _ O m1 (Stp.of f1 w)⟩
def sIf (t : Env → M Bool) (F G : SF) : SF := fun Γ => M.bind (t Γ) fun c => if c = true then F Γ else G Γ
theorem Post.of {K : PySem.W.Frag} {H0 : Hp} {O0 O O1 : Addr → Prop} {H H1 : Hp} {Z : Ends} (s : Stp O H O1 H1) : ∀ r μ, Post K S H0 O0 O H Z r μ → Post K S H0 O0 O1 H1 Z r μ := fun r μ p => by
  cases r with
  | nx Γ2 => exact fun σ2 H2 O2 m2 s2 => p σ2 H2 O2 m2 (s.trans s2)
  | bk Γ2 => exact fun σ2 H2 O2 m2 s2 => p σ2 H2 O2 m2 (s.trans s2)
  | ct Γ2 => exact fun σ2 H2 O2 m2 s2 => p σ2 H2 O2 m2 (s.trans s2)
  | ret d => exact p
theorem ds_if {as bs : List Stmt} (hc : DT X S W c fb) (ha : DSs X S W as F) (hb : DSs X S W bs G) : DS X S W (.If c as bs pos) (sIf fb F G) :=
  psI (ps_if hc ha hb) fun Z σ H ⟨H0, O0, O, Γ, μ, m, g⟩ => ⟨O, (st_run m g).mono fun k H1 _ _ w f' w' ⟨μ1, f1, m1, g1⟩ => by
    cases k with
    | true => exact ⟨H0, O0, O, Γ, μ1, m1, Good.imp g1 (Post.of (Stp.of f1 w)) fun _ _ q => q⟩
    | false => exact ⟨H0, O0, O, Γ, μ1, m1, Good.imp g1 (Post.of (Stp.of f1 w)) fun _ _ q => q⟩⟩

/-! ### for -/
def loopF (T : Tgt) (F : SF) : List D → SF
  | [], Γ => M.pure (.nx Γ)
  | d :: ds, Γ => M.bind (M.opt (T d Γ)) fun Γ1 => M.bind (F Γ1) fun r => match r with
    | .nx Γ2 => loopF T F ds Γ2
    | .ct Γ2 => loopF T F ds Γ2
    | .bk Γ2 => M.pure (.nx Γ2)
    | .ret d => M.pure (.ret d)
def sFor (fi : Env → M (List D)) (T : Tgt) (F : SF) : SF := fun Γ => M.bind (fi Γ) fun ds => loopF T F ds Γ
theorem ds_for {tg iter : Expr} {body : List Stmt} {fi : Env → M (List D)} {T : Tgt} {is : List Nat} (hp : PassesOwn (model X.prog X.w) X.A X.env X.xe) (hc : X.calm = true) (hi : DI X S W tg iter fi) (hg : DG X S tg T is) (hb : DSs X S W body F)
    (hs : ∀ x, foldedSetIterable iter X.env x = pure x := by intro _; rfl) : DS X S W (.For tg iter body [] pos) (sFor fi T F) :=
  psI (ps_for hp hc hi hg hb hs) fun Z σ H ⟨H0, O0, O, Γ, μ, m, g⟩ => ⟨O, (st_run m g).mono fun ds H1 _ _ w f' w' ⟨μ1, f1, m1, g1⟩ J it => by
    have s1 := Stp.of f1 w
    refine ⟨fun i n σ' H' => ∃ O' Γ' μ', n = ds.length - i ∧ i ≤ ds.length ∧ Fm X.K S H0 O0 O' σ' H' Γ' μ' ∧ Stp O H1 O' H' ∧ Good (loopF T F (ds.drop i) Γ' μ') (Post X.K S H0 O0 O H1 Z) (Exc X.K S W H0 O0),
      ⟨ds.length, O, Γ, μ1, by simp, Nat.zero_le _, m1, Stp.refl _ _, Good.imp g1 (Post.of s1) fun _ _ q => q⟩, ?_⟩
    rintro i n σ' H' ⟨O', Γ', μ', rfl, hi, m', st, g'⟩
    by_cases hlt : i < ds.length
    · obtain ⟨go, yl⟩ := it.go i H' O' μ' st m'.wd hlt
      refine .inr ⟨go, _, fun σ2 H2 h => ⟨ds.length - (i + 1), by omega, h⟩, fun x H2 hy => ?_⟩
      obtain ⟨f3, w3, d, ed, rd⟩ := yl x H2 hy
      have edr : ds.drop i = d :: ds.drop (i + 1) := by
        obtain ⟨h1, h2⟩ := List.getElem?_eq_some_iff.mp ed
        rw [← h2]
        exact List.drop_eq_getElem_cons h1
      rw [edr] at g'
      unfold loopF at g'
      cases eT : T d Γ' with
      | none => rw [eT] at g'; exact False.elim g'
      | some Γ1 =>
        rw [eT] at g'
        simp only [M.opt_some, M.pure_bind] at g'
        refine ⟨O0, O', Γ', μ', d, Γ1, w3, m'.sl.fr m'.wd f3, rd, eT, fun H4 σ4 f4 w4 s4 _ => ?_⟩
        have m4 : Fm X.K S H0 O0 O' σ4 H4 Γ1 μ' := ⟨w4, s4, (m'.fr.trans f3).trans f4, m'.up, m'.nw⟩
        have st4 : Stp O H1 O' H4 := st.trans (Stp.of (f3.trans f4) m'.wd)
        refine ⟨H0, O0, O', Γ1, μ', m4, (good_bind g').imp (fun r μ5 g5 => ?_) fun _ _ q => q⟩
        cases r with
        | nx Γ2 => exact fun σ5 H5 O5 m5 s5 => ⟨O5, Γ2, μ5, rfl, hlt, m5, st4.trans s5, g5⟩
        | ct Γ2 => exact fun σ5 H5 O5 m5 s5 => ⟨O5, Γ2, μ5, rfl, hlt, m5, st4.trans s5, g5⟩
        | bk Γ2 => exact fun σ5 H5 O5 m5 s5 => g5 σ5 H5 O5 m5 (st4.trans s5)
        | ret d => exact g5
    · have ei : i = ds.length := by omega
      subst ei
      rw [List.drop_length] at g'
      exact .inl ⟨it.stop _ H' O' μ' st m'.wd (Nat.le_refl _), g' σ' H' O' m' st⟩⟩

/-! ### raise -/
structure GX (K : PySem.W.Frag) (mg : Str → Option Value) (S : Sg) (x : Str) (c : Nat) : Prop where
  g : mg x = some (.ref (S.EX c))
  q : PySem.W.excIn K (S.EX c) [.type "ValueError", .type "Exception", .type "BaseException", .type "object"] "ValueError.__new__" = true
  k : PySem.W.keepIn K (.ref (S.EX c)) = true
  b : PySem.W.subIn K (.ref (S.EX c)) (.type "BaseException") = some true
  t : PySem.W.typeIn K (.ref (S.EX c)) = some (.type "type")
def sRaise (c : Nat) : SF := fun _ => M.exc c
theorem ds_raise {x t : Str} {ci j : Nat} {p p2 pos2 : Pos} (hc : X.calm = true) (tk : Takes X (fun c d _ H => W c d H)) (G : GX X.K X.mg S x ci) (hg : Gl X x := by rfl) (hdb : (x == ("__debug__" : Str)) = false := by decide) : DS X S W (.Raise (some (.Call (.Name x p) [.Constant (.str t) j p2] [] pos2)) none pos) (sRaise ci) :=
  psI (ps_raise hc tk (pmk_own PySem.F.excBase_ValueError G.q G.g G.k (raises_own G.b G.t) hg hdb)) fun Z σ H ⟨H0, O0, O, Γ, μ, m, g⟩ => g H m.fr (m.less m.wd)

/-! ### several targets -/
def sAsg (f : E) (T : Tgt) : SF := fun Γ => M.bind (f Γ) fun d => M.bind (M.opt (T d Γ)) fun Γ' => M.pure (.nx Γ')
theorem ds_asg {tg : Expr} {T : Tgt} {is : List Nat} (he : DE X S W a f) (hg : DG X S tg T is) (hs : swapsWithSole [tg] a pos.line X.env = pure false := by rfl) (hw : swappedStores [tg] a X.env = pure none := by rfl)
    (h1 : (assignEach [tg] X.env).map (·.2) = [assign tg X.env] := by rfl) : DS X S W (.Assign [tg] a pos) (sAsg f T) :=
  psI (ps_asg he hg hs hw h1) fun Z σ H ⟨H0, O0, O, Γ, μ, m, g⟩ => ⟨O, (st_run m g).mono fun d H1 _ _ w f' w' ⟨μ1, f1, m1, g1⟩ v rv => by
    cases eT : T d Γ with
    | none => rw [eT] at g1; exact False.elim g1
    | some Γ' =>
      rw [eT] at g1
      exact ⟨O0, O, Γ, μ1, d, Γ', m1.wd, m1.sl, rv, eT, fun H2 σ2 f2 w2 s2 _ => g1 σ2 H2 O ((m1.go f2 w2).sls s2) (Stp.of (f1.trans f2) w)⟩⟩
def sPar (i j : Nat) (fs : Env → M (List D)) : SF := fun Γ => M.bind (fs Γ) fun ds => match ds with
  | [x, y] => M.pure (.nx ((Γ.set i (.v x)).set j (.v y)))
  | _ => M.bad
theorem ds_par (i j : Nat) {x y : Str} {px py pt pt2 : Pos} {kt k2 : Nat} (hc : X.calm = true) (hN : X.N.Nodup) (ha : DA X S W [a, b] fs) (hij : i ≠ j := by decide) (hi : X.N[i]? = some x := by rfl) (hj : X.N[j]? = some y := by rfl)
    (hx : X.env.scope.names.lookup x = some .local := by rfl) (hy : X.env.scope.names.lookup y = some .local := by rfl) (hw : swappedStores [.Tuple [.Name x px, .Name y py] kt pt] (.Tuple [a, b] k2 pt2) X.env = pure (some [x, y]) := by rfl)
    (hs : swapsWithSole [.Tuple [.Name x px, .Name y py] kt pt] (.Tuple [a, b] k2 pt2) pos.line X.env = pure false := by rfl) :
    DS X S W (.Assign [.Tuple [.Name x px, .Name y py] kt pt] (.Tuple [a, b] k2 pt2) pos) (sPar i j fs) :=
  psI (ps_par hc hN hi hj hij hx hy ha hw hs) fun Z σ H ⟨H0, O0, O, Γ, μ, m, g⟩ => ⟨O, (st_run m g).mono fun ds H1 _ _ w f' w' ⟨μ1, f1, m1, g1⟩ vs rv => by
    match ds, rv, g1 with
    | [x, y], .cons r1 (.cons r2 .nil), g1 => exact ⟨_, _, rfl, g1 _ _ O ((m1.set r1).set r2) (Stp.of f1 w)⟩
    | [], _, g1 => exact False.elim g1
    | [_], _, g1 => exact False.elim g1
    | _ :: _ :: _ :: _, _, g1 => exact False.elim g1⟩
def sPar3 (i j l : Nat) (fs : Env → M (List D)) : SF := fun Γ => M.bind (fs Γ) fun ds => match ds with
  | [x, y, z] => M.pure (.nx (((Γ.set i (.v x)).set j (.v y)).set l (.v z)))
  | _ => M.bad
theorem ds_par3 (i j l : Nat) {x y z : Str} {px py pz pt pt2 : Pos} {kt k2 : Nat} (hc : X.calm = true) (hN : X.N.Nodup) (ha : DA X S W [a, b, c] fs) (hij : i ≠ j := by decide) (hil : i ≠ l := by decide) (hjl : j ≠ l := by decide) (hi : X.N[i]? = some x := by rfl) (hj : X.N[j]? = some y := by rfl) (hl : X.N[l]? = some z := by rfl)
    (hx : X.env.scope.names.lookup x = some .local := by rfl) (hy : X.env.scope.names.lookup y = some .local := by rfl) (hz : X.env.scope.names.lookup z = some .local := by rfl) (hw : swappedStores [.Tuple [.Name x px, .Name y py, .Name z pz] kt pt] (.Tuple [a, b, c] k2 pt2) X.env = pure (some [x, y, z]) := by rfl)
    (hs : swapsWithSole [.Tuple [.Name x px, .Name y py, .Name z pz] kt pt] (.Tuple [a, b, c] k2 pt2) pos.line X.env = pure false := by rfl) :
    DS X S W (.Assign [.Tuple [.Name x px, .Name y py, .Name z pz] kt pt] (.Tuple [a, b, c] k2 pt2) pos) (sPar3 i j l fs) :=
  psI (ps_par3 hc hN hi hj hl hij hil hjl hx hy hz ha hw hs) fun Z σ H ⟨H0, O0, O, Γ, μ, m, g⟩ => ⟨O, (st_run m g).mono fun ds H1 _ _ w f' w' ⟨μ1, f1, m1, g1⟩ vs rv => by
    match ds, rv, g1 with
    | [x, y, z], .cons r1 (.cons r2 (.cons r3 .nil)), g1 => exact ⟨_, _, _, rfl, g1 _ _ O (((m1.set r1).set r2).set r3) (Stp.of f1 w)⟩
    | [], _, g1 => exact False.elim g1
    | [_], _, g1 => exact False.elim g1
    | [_, _], _, g1 => exact False.elim g1
    | _ :: _ :: _ :: _ :: _, _, g1 => exact False.elim g1⟩

/-! ### a list of one's own -/
theorem SlsB.setO {K : PySem.W.Frag} {Ob O : Addr → Prop} {H : Hp} {σ : St} {Γ : Env} (s : SlsB K S Ob O H σ Γ) {i : Nat} {p : Addr} {o : HO} {d : D} (hp : H p = none) (hr : ¬ Ob p) (c : CellIs K S (del (upd H p o) (With O p)) (upd H p o) p d) : SlsB K S Ob (With O p) (upd H p o) (σ.set i (some (.ref p))) (Γ.set i (.o d)) where
  len := by rw [List.length_set, List.length_set, s.len]
  hb := s.hb
  at_ := fun j z e => by
    by_cases h : i = j
    · subst h
      by_cases hi : i < Γ.length
      · rw [List.getElem?_set_self hi] at e
        cases e
        exact ⟨p, by rw [List.getElem?_set_self (by rw [s.len]; exact hi)], .inr rfl, hr, c⟩
      · rw [List.getElem?_eq_none (by rw [List.length_set]; omega)] at e
        cases e
    · rw [List.getElem?_set_ne h] at e ⊢
      exact (s.at_ j z e).more hp
  dis := by
    have old : ∀ (j : Nat) (d' : D), Γ[j]? = some (.o d') → σ[j]? ≠ some (some (.ref p)) := fun j d' e1 e2 => by
      obtain ⟨a, e3, _, _, c'⟩ := s.at_ j _ e1
      rw [e3] at e2
      cases e2
      obtain ⟨o, e4, _⟩ := c'.there
      rw [hp] at e4
      cases e4
    intro j k a q r e1 e2 e3 e4
    by_cases h : i = j
    · subst h
      by_cases h' : i = k
      · exact h'
      · exfalso
        rw [List.getElem?_set_ne h'] at e2 e4
        by_cases hi : i < σ.length
        · rw [List.getElem?_set_self hi] at e3
          cases e3
          exact old k r e2 e4
        · rw [List.getElem?_eq_none (by rw [List.length_set]; omega)] at e3
          cases e3
    · rw [List.getElem?_set_ne h] at e1 e3
      by_cases h' : i = k
      · subst h'
        exfalso
        by_cases hi : i < σ.length
        · rw [List.getElem?_set_self hi] at e4
          cases e4
          exact old j q e1 e3
        · rw [List.getElem?_eq_none (by rw [List.length_set]; omega)] at e4
          cases e4
      · rw [List.getElem?_set_ne h'] at e2 e4
        exact s.dis j k a q r e1 e2 e3 e4
theorem stp_more {O : Addr → Prop} {H : Hp} {p : Addr} {o : HO} (hp : H p = none) : Stp O H (With O p) (upd H p o) := ⟨fun b x e _ _ => by rw [upd_ne (ne_of_none e hp)]; exact e, upd_dom, fun _ h => .inl h, fun a h => h.elim .inl fun z => .inr (by rw [z]; exact hp)⟩
theorem Fm.own {K : PySem.W.Frag} {H0 : Hp} {O0 O : Addr → Prop} {σ : St} {H : Hp} {Γ : Env} {μ : List D} (m : Fm K S H0 O0 O σ H Γ μ) {i : Nat} {p : Addr} {o : HO} {d : D} (hp : H p = none) (c : CellIs K S (del (upd H p o) (With O p)) (upd H p o) p d) :
    Fm K S H0 O0 (With O p) (σ.set i (some (.ref p))) (upd H p o) (Γ.set i (.o d)) μ :=
  ⟨m.wd.more hp (c.mut_at upd_same), m.sl.setO hp (fun z => m.wd.fresh hp (m.up _ z)) c, m.fr.trans (Fr.add hp), fun a h => .inl (m.up a h), fun a h => h.elim (m.nw a) fun z => .inr (by
    cases q : H0 p with
    | none => rw [z]; exact q
    | some u => exact absurd hp (m.fr.dom p (by rw [q]; intro e; cases e)))⟩
def sOwnL (i : Nat) : SF := fun Γ => M.pure (.nx (Γ.set i (.o (.lst []))))
theorem ds_ownL (i : Nat) {x : Str} {pos' lp : Pos} (hN : X.N.Nodup) (hi : X.N[i]? = some x := by rfl) (hx : Loc X.env.scope x := by first | exact Or.inl rfl | exact Or.inr rfl) (hs : swapsWith (.List [] lp) (some (.Name x pos')) pos.line X.env = pure false := by rfl)
    (hf : X.fn x = true ∨ X.env.scope.names.lookup x = some .local := by first | exact .inl rfl | exact .inr rfl) : DS X S W (.Assign [.Name x pos'] (.List [] lp) pos) (sOwnL i) :=
  psI (ps_set hN hi hx (pe_lst pa_nil) hs hf) fun Z σ H ⟨H0, O0, O, Γ, μ, m, g⟩ => ⟨Nat.zero_le _, fun p hp => g _ _ _ (m.own hp ⟨[], upd_same, Nat.zero_le _, .nil⟩) (stp_more hp)⟩
/-- found, x = [], e -/
def sOwnL1 (i j : Nat) (f : E) : SF := fun Γ => M.bind (f Γ) fun d => M.pure (.nx ((Γ.set i (.o (.lst []))).set j (.v d)))
theorem list_app_nil {Γ : Env} : Γ = Γ := rfl
theorem ds_ownL1 (i j : Nat) {x y : Str} {px py pt pt2 lp : Pos} {kt k2 : Nat} (hc : X.calm = true) (hN : X.N.Nodup) (hb : DE X S W b f) (hij : i ≠ j := by decide) (hi : X.N[i]? = some x := by rfl) (hj : X.N[j]? = some y := by rfl)
    (hx : X.env.scope.names.lookup x = some .local := by rfl) (hy : X.env.scope.names.lookup y = some .local := by rfl) (hw : swappedStores [.Tuple [.Name x px, .Name y py] kt pt] (.Tuple [.List [] lp, b] k2 pt2) X.env = pure (some [x, y]) := by rfl)
    (hs : swapsWithSole [.Tuple [.Name x px, .Name y py] kt pt] (.Tuple [.List [] lp, b] k2 pt2) pos.line X.env = pure false := by rfl) (hs1 : starEach [.List [] lp, b] X.env = (false, eval (.List [] lp) X.env) :: starEach [b] X.env := by rfl) (hs2 : starEach [b] X.env = (false, eval b X.env) :: starEach [] X.env := by rfl) :
    DS X S W (.Assign [.Tuple [.Name x px, .Name y py] kt pt] (.Tuple [.List [] lp, b] k2 pt2) pos) (sOwnL1 i j f) :=
  psI (ps_par hc hN hi hj hij hx hy (pa_cons (pe_lst pa_nil) (pa_cons hb pa_nil hs2) hs1) hw hs) fun Z σ H ⟨H0, O0, O, Γ, μ, m, g⟩ => ⟨Nat.zero_le _, fun p hp => by
    have hpr : p ∉ S.ρ := fun z => m.wd.fresh hp (m.wd.rho _ z)
    have m1 : Fm X.K S H0 O0 (With O p) σ (upd H p (.lst [])) Γ μ := ⟨m.wd.more hp, m.sl.more hp, m.fr.trans (Fr.add hp), fun a h => .inl (m.up a h), (m.own (i := i) (d := .lst []) hp ⟨[], upd_same, Nat.zero_le _, .nil⟩).nw⟩
    refine ⟨With O p, (st_run m1 g).mono fun d H1 _ _ w f' w' ⟨μ1, f1, m2, g1⟩ v rv => ⟨_, _, rfl, g1 _ _ _ (Fm.set (Fm.sls m2 ?_) rv) ((stp_more hp).trans (Stp.of f1 w))⟩⟩
    have s0 := ((m.own (i := i) (o := .lst []) (d := .lst []) hp ⟨[], upd_same, Nat.zero_le _, .nil⟩).sl).fr w f1
    exact s0⟩
/-- x, found = e, [] -/
def sOwnL2 (i j : Nat) (f : E) : SF := fun Γ => M.bind (f Γ) fun d => M.pure (.nx ((Γ.set i (.v d)).set j (.o (.lst []))))
theorem ds_ownL2 (i j : Nat) {x y : Str} {px py pt pt2 lp : Pos} {kt k2 : Nat} (hc : X.calm = true) (hN : X.N.Nodup) (hb : DE X S W b f) (hij : i ≠ j := by decide) (hi : X.N[i]? = some x := by rfl) (hj : X.N[j]? = some y := by rfl)
    (hx : X.env.scope.names.lookup x = some .local := by rfl) (hy : X.env.scope.names.lookup y = some .local := by rfl) (hw : swappedStores [.Tuple [.Name x px, .Name y py] kt pt] (.Tuple [b, .List [] lp] k2 pt2) X.env = pure (some [x, y]) := by rfl)
    (hs : swapsWithSole [.Tuple [.Name x px, .Name y py] kt pt] (.Tuple [b, .List [] lp] k2 pt2) pos.line X.env = pure false := by rfl) (hs1 : starEach [b, .List [] lp] X.env = (false, eval b X.env) :: starEach [.List [] lp] X.env := by rfl) (hs2 : starEach [.List [] lp] X.env = (false, eval (.List [] lp) X.env) :: starEach [] X.env := by rfl) :
    DS X S W (.Assign [.Tuple [.Name x px, .Name y py] kt pt] (.Tuple [b, .List [] lp] k2 pt2) pos) (sOwnL2 i j f) :=
  psI (ps_par hc hN hi hj hij hx hy (pa_cons hb (pa_cons (pe_lst pa_nil) pa_nil hs2) hs1) hw hs) fun Z σ H ⟨H0, O0, O, Γ, μ, m, g⟩ =>
    ⟨O, (st_run m g).mono fun d H1 _ _ w f' w' ⟨μ1, f1, m2, g1⟩ v rv => ⟨Nat.zero_le _, fun p hp => ⟨_, _, rfl, g1 _ _ _ ((m2.set rv).own hp ⟨[], upd_same, Nat.zero_le _, .nil⟩) ((Stp.of f1 w).trans (stp_more hp))⟩⟩⟩
/-- an own list is written -/
theorem SlsB.write {K : PySem.W.Frag} {Ob O : Addr → Prop} {H : Hp} {σ : St} {Γ : Env} (s : SlsB K S Ob O H σ Γ) {i : Nat} {p : Addr} {o : HO} {d d' : D} (e : Γ[i]? = some (.o d)) (es : σ[i]? = some (some (.ref p))) (ho : O p) (hr : ¬ Ob p) (c : CellIs K S (del (upd H p o) O) (upd H p o) p d') : SlsB K S Ob O (upd H p o) σ (Γ.set i (.o d')) where
  len := by rw [List.length_set, s.len]
  hb := s.hb
  at_ := fun j z e2 => by
    have hi : i < Γ.length := (List.getElem?_eq_some_iff.mp e).1
    by_cases h : i = j
    · subst h
      rw [List.getElem?_set_self hi] at e2
      cases e2
      exact ⟨p, es, ho, hr, c⟩
    · rw [List.getElem?_set_ne h] at e2
      have q := s.at_ j z e2
      cases z with
      | no => trivial
      | v dd => obtain ⟨x, e, r⟩ := q; exact ⟨x, e, r.mono (keep_write ho)⟩
      | o dd =>
        obtain ⟨a, e3, h1, h2, c'⟩ := q
        refine ⟨a, e3, h1, h2, c'.mono (keep_write ho) (upd_ne ?_)⟩
        rintro rfl
        exact h (s.dis i j a d dd e e2 es e3)
  dis := fun j k a q r e1 e2 e3 e4 => by
    have hi : i < Γ.length := (List.getElem?_eq_some_iff.mp e).1
    have get : ∀ (j : Nat) (q : D), (Γ.set i (.o d'))[j]? = some (.o q) → ∃ q', Γ[j]? = some (.o q') := fun j q e1 => by
      by_cases h : i = j
      · subst h; exact ⟨d, e⟩
      · rw [List.getElem?_set_ne h] at e1; exact ⟨q, e1⟩
    obtain ⟨q', e1'⟩ := get j q e1
    obtain ⟨r', e2'⟩ := get k r e2
    exact s.dis j k a q' r' e1' e2' e3 e4
def ownL (i : Nat) (Γ : Env) : Option (List D) := match Γ[i]? with
  | some (.o (.lst xs)) => some xs
  | _ => none
theorem ownL_some {K : PySem.W.Frag} {Ob O : Addr → Prop} {H : Hp} {σ : St} {Γ : Env} (s : SlsB K S Ob O H σ Γ) {i : Nat} {xs : List D} (h : ownL i Γ = some xs) : Γ[i]? = some (.o (.lst xs)) ∧ ∃ p vs, σ[i]? = some (some (.ref p)) ∧ O p ∧ ¬ Ob p ∧ H p = some (.lst vs) ∧ vs.length ≤ sizeLine ∧ Reps K S (del H O) vs xs := by
  unfold ownL at h
  split at h
  · rename_i e
    cases h
    obtain ⟨a, e3, h1, h2, vs, h3, h4, h5⟩ := s.at_ i _ e
    exact ⟨e, a, vs, e3, h1, h2, h3, h4, h5⟩
  · cases h
def sAppend (i : Nat) (f : E) : SF := fun Γ => M.bind (M.opt (ownL i Γ)) fun xs => M.bind (f Γ) fun d => if xs.length < 16777216 then M.pure (.nx (Γ.set i (.o (.lst (xs ++ [d]))))) else M.bad
theorem good_opt {α β : Type} {z : Option α} {k : α → M β} {μ : List D} {A : β → List D → Prop} {B : Nat → List D → Prop} (h : Good (M.bind (M.opt z) k μ) A B) : ∃ a, z = some a ∧ Good (k a μ) A B := by
  cases z with
  | none => exact False.elim h
  | some a => exact ⟨a, rfl, h⟩
theorem good_if {α : Type} {p : Prop} [Decidable p] {m : M α} {μ : List D} {A : α → List D → Prop} {B : Nat → List D → Prop} (h : Good ((if p then m else M.bad) μ) A B) : p ∧ Good (m μ) A B := by
  by_cases c : p
  · rw [if_pos c] at h; exact ⟨c, h⟩
  · rw [if_neg c] at h; exact False.elim h
theorem Fm.write {K : PySem.W.Frag} {H0 : Hp} {O0 O : Addr → Prop} {σ : St} {H : Hp} {Γ : Env} {μ : List D} (m : Fm K S H0 O0 O σ H Γ μ) {i : Nat} {p : Addr} {o o' : HO} {d d' : D} (e : Γ[i]? = some (.o d)) (es : σ[i]? = some (some (.ref p))) (ho : O p) (h0 : ¬ O0 p) (hp : H p = some o') (hm : mutK o' = true)
    (c : CellIs K S (del (upd H p o) O) (upd H p o) p d') : Fm K S H0 O0 O σ (upd H p o) (Γ.set i (.o d')) μ ∧ Stp O H O (upd H p o) :=
  ⟨⟨m.wd.write ho (fun z => h0 (m.sl.hb _ z)) hp hm (c.mut_at upd_same), m.sl.write e es ho h0 c, ⟨fun b x e n t => (by
    have q := m.fr.keep b x e n t
    rw [upd_ne]
    · exact q
    · intro z
      subst z
      exact (m.nw b ho).elim h0 fun z => (by rw [z] at e; cases e)), fun b h => upd_dom b (m.fr.dom b h)⟩, m.up, m.nw⟩, ⟨fun b x e n _ => by rw [upd_ne (fun z => n (by rw [z]; exact ho))]; exact e, upd_dom, fun _ h => h, fun _ h => .inl h⟩⟩
theorem ds_append (i : Nat) {x : Str} {apos cpos np : Pos} (he : DE X S W a f) (hN : X.N[i]? = some x := by rfl) (hv : Vis X.env.scope x := by first | exact Or.inl rfl | exact Or.inr (Or.inl rfl) | exact Or.inr (Or.inr rfl)) (hd : (x == ("__debug__" : Str)) = false := by decide)
    (hcd : (x == ("__classdict__" : Str)) = false := by decide) (hbase : attributeBase (.Name x np) "append" X.env (eval (.Name x np) X.env) = eval (.Name x np) X.env := by rfl)
    (hfew : ((backTo cpos (starEach [a] X.env)).all (fun x => !x.1) && (backToKw cpos (keywordEach [] X.env)).all (fun x => x.1.isSome)
      && decide ([a].length + ([] : List Keyword).length + (if ([] : List Keyword).isEmpty then 0 else 1) < 30)) = true := by rfl)
    (hline : (apos.endLine == cpos.line) = true := by rfl) (hst : starEach [a] X.env = (false, eval a X.env) :: starEach [] X.env := by rfl) (hpl : (backTo cpos (starEach [] X.env)).any (·.1) = false := by rfl) (hs : swapsWith (.Call (.Attribute (.Name x np) "append" apos) [a] [] cpos) none pos.line X.env = pure false := by rfl) :
    DS X S W (.Expr (.Call (.Attribute (.Name x np) "append" apos) [a] [] cpos) pos) (sAppend i f) :=
  psI (ps_expr (pe_bm PySem.F.plainAttrs_list PySem.F.slot_list_append PySem.F.type_list_append mt_append (pe_var hN hv hd hcd) (pa_cons he pa_nil hst) hbase hfew hline hst hpl) hs) fun Z σ H ⟨H0, O0, O, Γ, μ, m, g⟩ => by
    obtain ⟨xs, e, g⟩ := good_opt g
    obtain ⟨eΓ, p, vs, eσ, hO, h0, hp, hl, hr⟩ := ownL_some m.sl e
    refine ⟨_, eσ, .inl ⟨rfl, _, .inl (.inl hp)⟩, O, (st_run m g).mono fun d H1 _ _ w f' w' ⟨μ1, f1, m1, g1⟩ v rv => ?_⟩
    obtain ⟨hlt, g2⟩ := good_if g1
    have hp1 : H1 p = some (.lst vs) := f1.keep _ _ hp (fun z => h0 (m.sl.hb _ z)) nt_lst
    have hle : vs.length < sizeLine := by rw [hr.length, sizeLine_def]; exact hlt
    obtain ⟨m2, s2⟩ := m1.write (o := .lst (vs ++ [v])) (d' := .lst (xs ++ [d])) eΓ eσ hO h0 hp1 rfl ⟨_, upd_same, by rw [List.length_append, List.length_singleton]; exact hle, (Reps.append (w.reps f1 hr) (.cons rv .nil)).mono (keep_write hO)⟩
    exact ⟨p, vs, v, rfl, rfl, hp1, hle, g2 _ _ _ m2 ((Stp.of f1 w).trans s2)⟩
end
end Dd
namespace Dd
open PySem PySem.Spec L2

/-! ### a def's context -/
structure Ctx (X : Cx) (W : XK) : Prop where
  calm : X.calm = true
  nd : X.N.Nodup
  tk : Takes X (fun c d _ H => W c d H)
  ps : Passes (L2.CX X.prog X.w) X W
  po : PassesOwn (model X.prog X.w) X.A X.env X.xe
section
variable {P : Program} {w : World} {K : PySem.W.Frag} {mg : Str → Option Value} {base : Heap} {S : Sg}
theorem ctx_of {N : List Str} {qual : Str} {scope : Scope} {f : Addr} {cd : Value} {A : Around} {outer : List PySem.Env} {s : Shared} {H : Hp} {E : XK} (nd : N.Nodup) : Ctx (cxOf (L2.CX P w) P w K mg base N qual scope f cd A outer s H E) E where
  calm := rfl
  nd := nd
  tk := takes_of rfl rfl rfl rfl
  ps := passes_call (takes_of rfl rfl rfl rfl) fun _ _ _ _ h => h
  po := passes_of rfl
theorem passB {X : Cx} : Passes (L2.CX X.prog X.w) X E0' := fun _ _ _ _ _ _ _ h => by
  obtain ⟨_, _, _, _, _, _, _, _, _, _, _, _, z⟩ := h
  exact z.elim
def nos (n : Nat) : Env := List.replicate n .no
def fnEnd : SO → M D
  | .nx _ => M.pure .non
  | .ret d => M.pure d
  | _ => M.bad
def fnF (n : Nat) (F : SF) : Fn := fun ds => M.bind (F (ds.map .v ++ nos (n - ds.length))) fnEnd
theorem sls_start {Ob O : Addr → Prop} {H : Hp} {N : List Str} {vs : List V} {ds : List D} (hb : ∀ a ∈ S.ρ, Ob a) (r : Reps K S (del H O) vs ds) (hl : vs.length ≤ N.length) : SlsB K S Ob O H (L2.start N vs) (ds.map .v ++ nos (N.length - ds.length)) where
  len := by
    unfold L2.start nos
    rw [List.length_append, List.length_append, List.length_map, List.length_map, List.length_replicate, List.length_replicate, r.length]
  hb := hb
  at_ := fun i z e => by
    by_cases h : i < ds.length
    · rw [List.getElem?_append_left (by rw [List.length_map]; exact h), List.getElem?_map, List.getElem?_eq_getElem h] at e
      cases e
      obtain ⟨v, hv, rv⟩ := r.get (List.getElem?_eq_getElem h)
      refine ⟨v, ?_, rv⟩
      unfold L2.start
      rw [List.getElem?_append_left (by rw [List.length_map, r.length]; exact h), List.getElem?_map, hv]
      rfl
    · rw [List.getElem?_append_right (by rw [List.length_map]; omega)] at e
      unfold nos at e
      rw [List.getElem?_replicate] at e
      split at e
      · cases e
        trivial
      · cases e
  dis := fun i j a d e h _ _ _ => by
    exfalso
    by_cases h' : i < ds.length
    · rw [List.getElem?_append_left (by rw [List.length_map]; exact h'), List.getElem?_map, List.getElem?_eq_getElem h'] at h
      cases h
    · rw [List.getElem?_append_right (by rw [List.length_map]; omega)] at h
      unfold nos at h
      rw [List.getElem?_replicate] at h
      split at h <;> cases h
theorem fn_ok {x qual : Str} {st : Stmt} {f : Addr} {fd : FuncData} {N ps : List Str} {k : Nat} {F : SF} (Fu : Fun K x qual st f fd) (sc : FnScope N ps (defScope st))
    (hb : ∀ (cdv : Value) (A : Around) (outer : List PySem.Env) (s : Shared) (H : Hp) (E : XK), Room k (A.deeper (PyProof.Rows.envOfC qual (defScope st) s.heap.objs.size f cdv)) → DSs (cxOf (L2.CX P w) P w K mg base N qual (defScope st) f cdv A outer s H E) S E (defBody st) F) :
    FnOk P w K mg base (L2.CX P w) (k + 1) f fd ps (spD K S ps.length (fnF N.length F)) := by
  refine Fu.okX sc spD_len fun cdv A outer s H vs Q E hr h => ?_
  obtain ⟨O, ds, μ, hl, wd, r, g⟩ := h
  have hps : ps.length ≤ N.length := by
    have e := sc.pre
    have q : (N.take ps.length).length = ps.length := by rw [e]
    rw [List.length_take] at q
    omega
  refine ⟨_, hb cdv A outer s H E hr, H, O, O, _, μ, ⟨wd, sls_start wd.rho r (by rw [r.length, hl]; exact hps), Fr.refl _ _, fun _ h => h, fun _ h => .inl h⟩, ?_⟩
  refine (good_bind g).imp (fun o μ1 g1 => ?_) fun c μ1 q => q
  cases o with
  | nx Γ' => exact fun σ' H' O' m _ => g1 H' m.fr (m.less m.wd) _ .non
  | ret d => exact fun v H' f' w' rv => g1 H' f' w' v rv
  | bk Γ' => exact False.elim g1
  | ct Γ' => exact False.elim g1
theorem gf_mk {x qual : Str} {st : Stmt} {f : Addr} {fd : FuncData} {N ps : List Str} {k : Nat} {F : SF} (hm : mg x = some (.ref f)) (Fu : Fun K x qual st f fd) (b : Binds K fd ps []) (sc : FnScope N ps (defScope st))
    (hb : ∀ (cdv : Value) (A : Around) (outer : List PySem.Env) (s : Shared) (H : Hp) (E : XK), Room k (A.deeper (PyProof.Rows.envOfC qual (defScope st) s.heap.objs.size f cdv)) → DSs (cxOf (L2.CX P w) P w K mg base N qual (defScope st) f cdv A outer s H E) S E (defBody st) F) :
    GF P w K mg base S x ps (k + 1) (fnF N.length F) := ⟨f, fd, hm, Fu.kp, b, fn_ok Fu sc hb⟩
theorem gm_mk {c : Nat} {x qual : Str} {st : Stmt} {f : Addr} {fd : FuncData} {N ps : List Str} {k : Nat} {F : SF} (cl : Cls K (S.CA c)) (hm : Meth K (S.CA c) x f) (nf : x ∉ S.FN c) (Fu : Fun K x qual st f fd) (b : Binds K fd ps []) (sc : FnScope N ps (defScope st))
    (hb : ∀ (cdv : Value) (A : Around) (outer : List PySem.Env) (s : Shared) (H : Hp) (E : XK), Room k (A.deeper (PyProof.Rows.envOfC qual (defScope st) s.heap.objs.size f cdv)) → DSs (cxOf (L2.CX P w) P w K mg base N qual (defScope st) f cdv A outer s H E) S E (defBody st) F) :
    GM P w K mg base S c x ps (k + 1) (fnF N.length F) := ⟨f, fd, cl, hm, nf, b, fn_ok Fu sc hb⟩
end

/-! ### what an own list gives -/
section
variable {X : Cx} {S : Sg} {W : XK} {a : Expr} {f : E} {pos : Pos}
def eTupO (i : Nat) : E := fun Γ => M.bind (M.opt (ownL i Γ)) fun xs => M.pure (.tup xs)
theorem de_tupO (i : Nat) {x : Str} {p np : Pos} (hm : X.mg "tuple" = none) (hN : X.N[i]? = some x := by rfl) (hv : Vis X.env.scope x := by first | exact Or.inl rfl | exact Or.inr (Or.inl rfl) | exact Or.inr (Or.inr rfl)) (hd : (x == ("__debug__" : Str)) = false := by decide)
    (hcd : (x == ("__classdict__" : Str)) = false := by decide) (hg : Gl X "tuple" := by rfl) (he : starEach [.Name x np] X.env = (false, eval (.Name x np) X.env) :: starEach [] X.env := by rfl) (hpl : (backTo pos (starEach [] X.env)).any (·.1) = false := by rfl) :
    DE X S W (.Call (.Name "tuple" p) [.Name x np] [] pos) (eTupO i) :=
  peI (pe_callTy call_tuple_of hg hm (by decide +kernel) (pa_cons (pe_var hN hv hd hcd) pa_nil he) (by decide) (by decide) he hpl) fun σ H Q ⟨O, Γ, μ, w, ⟨Ob, s⟩, g⟩ => by
    obtain ⟨xs, e, g2⟩ := good_opt g
    obtain ⟨eΓ, p, vs, eσ, hO, h0, hp, hl, hr⟩ := ownL_some s e
    exact ⟨_, eσ, p, vs, rfl, .inl ⟨.inl (.inl hp), alloc_tup w hr hl fun u H' f' w' r => g2 H' f' w' u r⟩⟩
def ownD (i : Nat) (Γ : Env) : Option D := match Γ[i]? with
  | some (.o d) => some d
  | _ => none
def sRetO (i : Nat) : SF := fun Γ => M.bind (M.opt (ownD i Γ)) fun d => M.pure (.ret d)
theorem ds_retO (i : Nat) {x : Str} {np : Pos} (hN : X.N[i]? = some x := by rfl) (hv : Vis X.env.scope x := by first | exact Or.inl rfl | exact Or.inr (Or.inl rfl) | exact Or.inr (Or.inr rfl)) (hd : (x == ("__debug__" : Str)) = false := by decide)
    (hcd : (x == ("__classdict__" : Str)) = false := by decide) : DS X S W (.Return (some (.Name x np)) pos) (sRetO i) :=
  psI (ps_ret (pe_var hN hv hd hcd)) fun Z σ H ⟨H0, O0, O, Γ, μ, m, g⟩ => by
    obtain ⟨d, e0, g⟩ := good_opt g
    unfold ownD at e0
    split at e0
    · rename_i d' e
      cases e0
      obtain ⟨a, e3, h1, h2, c⟩ := m.sl.at_ i _ e
      refine ⟨_, e3, g _ H m.fr (m.less m.wd) ?_⟩
      have c' : CellIs X.K S (del H O0) H a d := c.mono (fun b o q _ => by
        obtain ⟨q1, q2⟩ := del_some q
        rw [del_out (fun z => q2 (m.up b z))]
        exact q1) rfl
      have r0 : Rep X.K S (del H O0) (.ref a) d := by
        cases d with
        | lst ds => obtain ⟨vs, h1, h2', h3⟩ := c'; exact .lst (by rw [del_out h2]; exact h1) h2' h3
        | dk ks ds => obtain ⟨vs, h1, h2', h3⟩ := c'; exact .dk (by rw [del_out h2]; exact h1) h2' h3
        | dt ks ds => obtain ⟨vs, h1, h2', h3⟩ := c'; exact .dt (by rw [del_out h2]; exact h1) h2' h3
        | obj k ds => obtain ⟨dx, vs, h1, h2', h3⟩ := c'; exact .obj (by rw [del_out h2]; exact h1) h2' h3
        | _ => exact False.elim c'
      exact r0
    · cases e0

/-! ### name op= e -/
def IpD (K : PySem.W.Frag) (S : Sg) (r : TIp) (dop : D → D → Option D) : Prop := OpD K S r dop
def sAug (i : Nat) (dop : D → D → Option D) (f : E) : SF := fun Γ => M.bind (eVar i Γ) fun x => M.bind (f Γ) fun y => M.bind (M.opt (dop x y)) fun z => M.pure (.nx (Γ.set i (.v z)))
theorem ds_aug (i : Nat) {x : Str} {op : Operator} {r : R2} {dop : D → D → Option D} {pos' : Pos} (hN : X.N.Nodup) (he : DE X S W a f) (ho : OpR X (inplaceOp op) r) (hd : OpD X.K S r dop) (hi : X.N[i]? = some x := by rfl) (hx : Loc X.env.scope x := by first | exact Or.inl rfl | exact Or.inr rfl)
    (hf : X.fn x = true ∨ X.env.scope.names.lookup x = some .local := by first | exact .inl rfl | exact .inr rfl) : DS X S W (.AugAssign (.Name x pos') op a pos) (sAug i dop f) :=
  psI (ps_aug hN hi hx he ho hf) fun Z σ H ⟨H0, O0, O, Γ, μ, m, g⟩ => by
    unfold sAug eVar at g
    cases e : Γ[i]? with
    | none => rw [e] at g; exact False.elim g
    | some z =>
      rw [e] at g
      cases z with
      | no => exact False.elim g
      | o d => exact False.elim g
      | v d =>
        obtain ⟨u, e1, ru⟩ := m.sl.at_ i _ e
        refine ⟨u, e1, O, (st_run (f := f) (k := fun y => M.bind (M.opt (dop d y)) fun z => M.pure (SO.nx (Γ.set i (.v z)))) m g).mono fun y H1 _ _ w f' w' ⟨μ1, f1, m1, g1⟩ v rv => ?_⟩
        obtain ⟨z, ez, g2⟩ := good_opt g1
        exact hd O H1 μ1 d y u v z _ m1.wd (w.rep f1 ru) rv ez fun x' H' f2 w2 r2 => g2 _ _ O ((m1.go f2 w2).set r2) (Stp.of (f1.trans f2) w)
end
end Dd
namespace Dd
open PySem PySem.Spec L2
abbrev iRng1 (fs : Env → M (List D)) : Env → M (List D) := fun Γ => M.bind (fs Γ) fun xs => if xs.length = 1 then M.opt (rangeD xs) else M.bad
abbrev iRng2 (fs : Env → M (List D)) : Env → M (List D) := fun Γ => M.bind (fs Γ) fun xs => if xs.length = 2 then M.opt (rangeD xs) else M.bad
abbrev iZip (fs : Env → M (List D)) : Env → M (List D) := fun Γ => M.bind (fs Γ) fun xs => M.opt (zipD xs)
end Dd
namespace Dd
open PySem PySem.Spec L2 PyProof.Rows GenW

/-! ### generator expressions: the frame -/
abbrev gEnv (scope : Scope) (cl : List (Str × Addr)) (C : Addr) (code : Value) (bi : Addr) (env : PySem.Env) : PySem.Env := genEnv scope cl C code bi env
/-- an empty frame; the object of a generator expression -/
abbrev frO : Obj := { cls := .type "frame", data := .dict #[] }
abbrev genO (k : Nat) (qn : Str) (tk : Tok) : Obj := { cls := .type "generator", data := .fields #[.int k 0, .str "<genexpr>" tk, .str (qn ++ "<genexpr>") (tk + 1)] }
/-- h2 : the heap h with a frame laid behind it that holds its iterator alone, and with the cells that the names want -/
abbrev Begun (h : Heap) (names : List (Str × NameKind)) (it : Value) (h2 : Heap) : Prop :=
  h2.Ns h.objs.size (fun y => if y = (".0" : Str) then some it else none) ∧ Heap.SameBut h.objs.size (pushCells (h.push frO) names) h2
/-- the state when the generator stands there, not yet begun -/
abbrev genSt (t : Shared) (cd : Code) (qn : Str) (h2 : Heap) (tk : Tok) : Shared :=
  { t with gens := t.gens.push (.fresh cd), toks := tk + 1 + 1, heap := h2.push (genO t.gens.size qn tk) }
section
variable {M : Model} {A : Around} {E : Value → Shared → Prop} {s : Shared}
theorem newEnv_gen {scope : Scope} {globals : Addr} {clo : List (Str × Addr)} {qual : Str} {code it : Value} {bi : Addr} {Q : PySem.Env → Shared → Prop} (fk : scope.kind = .function) (dot : scope.names.lookup (".0" : Str) = some NameKind.local)
    (q : ∀ h2 tk, Begun s.heap scope.names it h2 → Q (newEnv scope s.heap.objs.size globals (cellsFrom (s.heap.objs.size + 1) scope.names clo) qual none code none bi) { s with heap := h2, toks := tk }) :
    wpAny M A (newFunctionEnv scope globals clo [(".0", it)] qual none code none bi) Q E s := by
  have bare : (pushCells (s.heap.push frO) scope.names).Ns s.heap.objs.size fun _ => none := Heap.Ns.keeps (Heap.Ns.new s.heap (.type "frame")) (pushCells_keeps _ _)
  have z1 : (s.heap.push frO).objs.size = s.heap.objs.size + 1 := Heap.size_push ..
  have plain : (scope.kind == .class || (scope.kind == .module && s.heap.objs.size != globals)) = false := by rw [fk]; rfl
  rw [← z1] at q
  unfold newFunctionEnv
  refine wpAny_bind (wpAny_alloc (wpAny_bind (wpAny_layCells _ (fun x k c => ?_) scope.names clo _ _ ?_)))
  · by_cases hc : (k == NameKind.cell) = true
    · simp only [hc, if_true]
    · simp only [hc]
  · simp only [List.forIn_cons, List.forIn_nil]
    refine wpAny_bind (wpAny_bind (wpAny_bind (wpAny_storeName_local (m := fun _ => none) dot bare (fun h2 n2 sb => ?_) plain)))
    exact wpAny_pure (wpAny_pure (wpAny_pure (q h2 _ ⟨n2, sb⟩)))
end
theorem gen_make {prog : Program} {w : World} {A : Around} {E : Value → Shared → Prop} {s : Shared} {env : PySem.Env} {elt target iter : Expr} {ifs : List Expr} {scope : Scope} {cl : List (Str × Addr)} {pos : Pos} {Q : Value → Shared → Prop}
    (noCo : scope.isCoroutine = false) (clo : closureFor scope env = pure cl) (dot : scope.names.lookup (".0" : Str) = some NameKind.local) (fk : scope.kind = .function) (deep : A.depth < recursionLimit)
    (run : wpAny (model prog w) A (eval iter env) (fun x s1 => wpAny (model prog w) A (pyIter x) (fun it s2 => s2.heap.NoLimit ∧ wpAny (model prog w) A (genexprCode env pos (env.qual ++ "<genexpr>") scope) (fun code s3 =>
      wpAny (model prog w) A (builtinsFor env.globals env.builtins) (fun bi t => ∀ h2 tk, Begun t.heap scope.names it h2 →
        Q (.ref h2.objs.size) (genSt t (.compStart (.GeneratorExp elt [⟨target, iter, ifs, 0⟩] scope pos) 0 it .none (gEnv scope (cellsFrom (t.heap.objs.size + 1) scope.names cl) t.heap.objs.size code bi env)) env.qual h2 tk)) E s3) E s2) E s1) E s)
    (unfolded : ∀ x, genFold iter env x = pure x) :
    wpAny (model prog w) A (eval (.GeneratorExp elt [⟨target, iter, ifs, 0⟩] scope pos) env) Q E s := by
  rw [eval_GeneratorExp1 (hco := noCo), clo]
  exact wpAny_bind (thn run fun x s1 r1 => wpAny_bind (wpAny_standAt (wpAny_bind (wpAny_of_eq (unfolded x) (wpAny_bind (wpAny_holding (thn r1 fun it s2 ⟨nl, r2⟩ =>
    wpAny_bind (wpAny_enterFrame nl deep (wpAny_bind (wpAny_pure (wpAny_bind (thn r2 fun code s3 r3 => wpAny_bind (thn r3 fun bi t r4 =>
      wpAny_bind (newEnv_gen fk dot fun h2 tk b => by
        unfold newGenerator newFields
        exact wpAny_bind (wpAny_newGen (wpAny_bind (wpAny_mkText (wpAny_bind (wpAny_mkText (wpAny_newObj_type (r4 h2 tk b) (by size_fits)))))))))))))))))))))

/-- the context of a generator expression: made at s, its iterator's objects at fp, the pinned objects pn; run in A -/
abbrev gCx (X : Cx) (A : Around) (s : Shared) (H : Hp) (scope : Scope) (code : Value) (bi : Addr) (fp : List Addr) (pn : List (Addr × Obj)) : Cx :=
  { X with
    A := A
    s_0 := s
    H_0 := H
    env := gEnv scope (cellsFrom (s.heap.objs.size + 1) scope.names (cloFrom X.env.cells scope.names [])) s.heap.objs.size code bi X.env
    outer := X.stack
    stack := gEnv scope (cellsFrom (s.heap.objs.size + 1) scope.names (cloFrom X.env.cells scope.names [])) s.heap.objs.size code bi X.env :: X.stack
    ex := fp
    fn := fun x => scope.names.lookup x == some .cell
    calm := true
    pn := pn
    xe := fun _ _ => False }
/-- cells laid behind two heaps that differ in one place alone -/
theorem cells_alike {a : Addr} : ∀ (names : List (Str × NameKind)) (h1 h2 : Heap), h1.objs.size = h2.objs.size → (∀ b, b ≠ a → h1.get? b = h2.get? b) → ∀ b, b ≠ a → (pushCells h1 names).get? b = (pushCells h2 names).get? b
  | [], _, _, _, e => e
  | (_, k) :: r, h1, h2, z, e => by
    unfold pushCells
    by_cases hc : (k == NameKind.cell) = true
    · rw [if_pos hc, if_pos hc]
      refine cells_alike r _ _ (by rw [Heap.size_push, Heap.size_push, z]) fun b hb => ?_
      by_cases q : b = h1.objs.size
      · rw [q, Heap.get?_push_size h1 rfl, z, Heap.get?_push_size h2 rfl]
      · rw [Heap.get?_push_ne _ _ _ q, Heap.get?_push_ne _ _ _ (z ▸ q), e b hb]
    · rw [if_neg hc, if_neg hc]
      exact cells_alike r _ _ z e
theorem lookup_second {α β : Type} (f : Str → α → β) : ∀ (l : List (Str × α)) (x : Str), (l.map fun p => (p.1, f p.1 p.2)).lookup x = (l.lookup x).map (f x)
  | [], _ => rfl
  | (y, a) :: r, x => by
    show List.lookup x ((y, f y a) :: r.map fun p => (p.1, f p.1 p.2)) = (List.lookup x ((y, a) :: r)).map (f x)
    rw [List.lookup_cons, List.lookup_cons]
    by_cases q : (x == y) = true
    · rw [q, beq_iff_eq.mp q]
      rfl
    · rw [Bool.eq_false_iff.mpr q]
      exact lookup_second f r x
/-- what a block's name is called, once its outer names are told apart -/
def calledAs (sc : Scope) (x : Str) (k : NameKind) : NameKind := if (k == .free && sc.kind == .function && sc.names.lookup x == some .cell) = true then .cell else k
theorem called_in (scope sc : Scope) (x : Str) : (relS scope sc).names.lookup x = (scope.names.lookup x).map (calledAs sc x) := by
  rw [← lookup_second (calledAs sc)]
  congr 1
  refine List.map_congr_left fun p _ => ?_
  unfold calledAs
  obtain ⟨n, k⟩ := p
  dsimp only
  split <;> rfl
theorem called_free {sc : Scope} {x : Str} : calledAs sc x .free = .cell ∨ calledAs sc x .free = .free := by
  unfold calledAs
  split
  · exact .inl rfl
  · exact .inr rfl
section
variable {X : Cx} {pins : List (Addr × Obj)} {σ : L2.St} {H : Hp} {s : Shared}
/-- a generator stands there: drawn from what holds of a block's frame (L2.block_start), whose cells are the same -/
theorem gen_start {A : Around} {scope : Scope} {own : List (Str × Nat)} {fp : List Addr} {code it : Value} {g2 : Array GenState} {tk : Tok} {h2 : Heap} {go : Obj} (I : Inv X pins σ H s) (ok : BlkOk X.N X.env.scope scope own) (nd : X.N.Nodup) (apart : ∀ b ∈ fp, FpOk X pins H b ∧ b < s.heap.objs.size)
    (calm : A.handled = none) (fr : A.frames = some (gEnv scope (cellsFrom (s.heap.objs.size + 1) scope.names (cloFrom X.env.cells scope.names [])) s.heap.objs.size code builtinsNs X.env :: X.stack))
    (bare : AllBare g2) (B : Begun s.heap scope.names it h2) (live : go.isFreed = false) (noCell : ∀ v, go.data ≠ .cell v) :
    Inv (gCx X A s H scope code builtinsNs fp [(h2.objs.size, go)]) [] (wipe σ (own.map (·.2))) H { s with heap := h2.push go, gens := g2, toks := tk } := by
  have J := block_start I ok nd apart
  obtain ⟨n2, sb⟩ := B
  have atC := pushCells_keeps scope.names _ _ _ (Heap.get?_push_size s.heap (o := { cls := .type "dict", data := .dict #[] }) rfl)
  have there : ∀ b o, b ≠ s.heap.objs.size → (pushCells (s.heap.push { cls := .type "dict", data := .dict #[] }) scope.names).get? b = some o → (h2.push go).get? b = some o := fun b o ne e => by
    refine Heap.get?_push_of_some _ (sb.extBut b o ne ?_)
    rw [← e]
    refine (cells_alike (a := s.heap.objs.size) scope.names _ _ (by rw [Heap.size_push, Heap.size_push]) (fun b q => ?_) b ne).symm
    rw [Heap.get?_push_ne _ _ _ q, Heap.get?_push_ne _ _ _ q]
  have cell2 : ∀ c v, (pushCells (s.heap.push { cls := .type "dict", data := .dict #[] }) scope.names).IsCell c v → (h2.push go).IsCell c v := fun c v ⟨o, e, d⟩ => by
    refine ⟨o, there c o (fun q => ?_) e, d⟩
    rw [q, atC] at e
    cases e
    cases d
  have old : ∀ b o, s.heap.get? b = some o → (h2.push go).get? b = some o := fun b o e => there b o (Nat.ne_of_lt (Heap.lt_size e)) (pushCells_keeps _ _ _ _ (Heap.get?_push_of_some _ e))
  have lt : s.heap.objs.size < h2.objs.size := n2.lt
  have known : ∀ y, (scope.names.lookup y = some .cell ∨ scope.names.lookup y = some .free) → ((relS scope X.env.scope).names.lookup y = some .cell ∨ (relS scope X.env.scope).names.lookup y = some .free) := fun y q => by
    rw [called_in]
    rcases q with q | q
    · rw [q]
      exact .inl rfl
    · rw [q]
      exact (called_free (sc := X.env.scope) (x := y)).imp (congrArg some) (congrArg some)
  have back : ∀ y, ((relS scope X.env.scope).names.lookup y = some .cell ∨ (relS scope X.env.scope).names.lookup y = some .free) → (scope.names.lookup y = some .cell ∨ scope.names.lookup y = some .free) := fun y q => by
    rw [called_in] at q
    generalize scope.names.lookup y = r at q
    rcases r with _ | k
    · simp at q
    · cases k <;> simp [calledAs] at q ⊢
  refine
    { ok :=
        { mod := J.ok.mod, kind := ok.kind, glob := J.ok.glob, blt := rfl, above := J.ok.above, inj := J.ok.inj, has := fun y q => J.ok.has y (known y q), cab := J.ok.cab, hd := fun _ => calm, frames := fr, stk := .inr ⟨rfl, rfl⟩, exf := J.ok.exf
          bs := J.ok.bs, bsz := J.ok.bsz, noex := J.ok.noex, exfs := J.ok.exfs, funs := J.ok.funs, frf := J.ok.frf }
      os := rfl, bare := bare, base := Un.kept old, loc := ⟨_, n2.push _, fun i y v e1 e2 vis => ?_⟩, cell := fun y c e => (J.cell y c e).imp fun v => cell2 c v, free := J.free, freeC := J.freeC, pin := fun p hp => ?_, hok := I.hok.kept old, len := J.len }
  · obtain ⟨m, nm, all⟩ := J.loc
    have none1 : ∀ z, m z = none := nm.agree ((Heap.Ns.new s.heap (.type "dict")).keeps (pushCells_keeps _ _))
    obtain ⟨u, r, lk⟩ := all i y v e1 e2 (by
      rcases vis with q | q
      · refine .inl ?_
        show (relS scope X.env.scope).names.lookup y = _
        rw [called_in, show scope.names.lookup y = _ from q]
        rfl
      · exact .inr (known y q))
    refine ⟨u, r, ?_⟩
    rcases lk with ⟨_, q⟩ | ⟨q, c, e, z⟩
    · rw [none1] at q
      cases q
    · exact .inr ⟨back y q, c, e, cell2 c _ z⟩
  · rw [List.append_nil] at hp
    cases List.mem_singleton.mp hp
    exact ⟨Heap.get?_push_size _ live, I.hok.fresh (Nat.le_of_lt lt), Nat.ne_of_gt lt, fun z => (let ⟨_, _, e, _⟩ := I.stack.mem z; Nat.lt_asymm lt (Heap.lt_size e)), noCell⟩
theorem inv_gens {g' : Array GenState} {t' : Nat} (I : Inv X pins σ H s) (hg : AllBare g') : Inv X pins σ H { s with gens := g', toks := t' } :=
  I.call (h' := s.heap) (ch := []) (d' := s.drawn) Un.refl I.hok hg (fun _ z => nomatch z)
end
end Dd
namespace Dd
open PySem PySem.Spec L2 PyProof.Rows GenW

/-! ### the turns of a generator expression -/
section
variable {γ : Type} (Y : Cx) (S : Addr) (Cont : γ → Obj → Prop) (fp : List Addr) (tn : Nat → Heap → Prop) (σw : L2.St) (W : γ → Nat → Nat → Hp → Prop) (Qe : γ → Hp → Prop) (Yd : γ → Nat → Nat → V → Hp → Prop)
def GEnt (c : γ) (n i m : Nat) (H : Hp) (s : Shared) : Prop := m ≤ n ∧ ∃ o, Cont c o ∧ Inv Y [(S, o)] σw H s ∧ tn i s.heap ∧ (∀ b ∈ fp, H b = none) ∧ W c i m H
def GRe : GenEnd := fun _ _ r s1 => r = .ok .next ∧ ∃ c H' o, Cont c o ∧ Inv Y [(S, o)] σw H' s1 ∧ Qe c H'
def GYe : Protocol := fun n _ v s kap => ∃ c i m y H3 o, m ≤ n + 1 ∧ Cont c o ∧ Inv Y [(S, o)] σw H3 s ∧ tn (i + 1) s.heap ∧ (∀ b ∈ fp, H3 b = none) ∧ RelV y v ∧ Yd c i m y H3 ∧
  ∀ s'' c' m' H'', GEnt Y S Cont fp tn σw W c' n (i + 1) m' H'' s'' → kap (.send .none) s''
end
def GTurn {γ : Type} (J : It) (g : TG) (te : TE) (σw : L2.St) (vs : List Nat) (W : γ → Nat → Nat → Hp → Prop) (Qe : γ → Hp → Prop) (Yd : γ → Nat → Nat → V → Hp → Prop) : Prop := ∀ c i m H, W c i m H → (J.stop i H ∧ Qe c H) ∨
  (0 < m ∧ J.go i H ∧ ∀ x H', J.yld i H x H' → g x σw H' fun σ2 H2 => wipe σ2 vs = σw ∧ te σ2 H2 fun y H3 => Yd c i m y H3)
theorem seg_turns {γ : Type} {Y : Cx} {A1 : Around} {S : Addr} {Cont : γ → Obj → Prop} {fp : List Addr} {tn : Nat → Heap → Prop} {σw : L2.St} {vs : List Nat} {W : γ → Nat → Nat → Hp → Prop} {Qe : γ → Hp → Prop} {Yd : γ → Nat → Nat → V → Hp → Prop} {J : It} {g : TG} {te : TE}
    {elt tg iter : Expr} {scope : Scope} {pos : Pos} {it : Addr} (hc : Y.calm = true) (hA : Y.A = A1.over (.compLoop (.GeneratorExp elt [⟨tg, iter, [], 0⟩] scope pos) 0 (.ref it) .none Y.env) []) (hex : ∀ b ∈ fp, b ∈ Y.ex) (hS : ∀ p ∈ Y.pn, p.1 ∉ fp) (hSf : S ∉ fp) (hco : Y.env.scope.isCoroutine = false) (hxe : ∀ v s, Y.xe v s → False)
    (T : Turn Y.prog Y.w Y.K tg J fp it tn) (pg : PG Y tg g) (pe : PE Y elt te) (turn : GTurn J g te σw vs W Qe Yd) :
    ∀ (n : Nat) (c : γ) (i m : Nat) (H : Hp) (s s₀ : Shared), GEnt Y S Cont fp tn σw W c n i m H s →
      Seg (model Y.prog Y.w) A1 (GRe Y S Cont σw Qe) (GYe Y S Cont fp tn σw W Yd) n s₀ (.compLoop (.GeneratorExp elt [⟨tg, iter, [], 0⟩] scope pos) 0 (.ref it) .none Y.env)
        ((model Y.prog Y.w).den (.compLoop (.GeneratorExp elt [⟨tg, iter, [], 0⟩] scope pos) 0 (.ref it) .none Y.env)) [] s := by
  have stat : ∀ {o : Obj} {σ' : L2.St} {H' : Hp} {s' : Shared}, Inv Y [(S, o)] σ' H' s' → (∀ b ∈ fp, H' b = none) → ∀ b ∈ fp, FpOk Y [(S, o)] H' b := fun {o σ' H' s'} I' hn b hb =>
    ⟨hn b hb, (I'.ok.exf b (hex b hb)).1, I'.ok.exfs b (hex b hb), .inl (hex b hb), fun x c e => (I'.ok.exf b (hex b hb)).2 x c e, fun p hp z => by
      rcases List.mem_append.mp hp with hp | hp
      · exact hS p hp (z ▸ hb)
      · rw [List.mem_singleton.mp hp] at z
        have z : S = b := z
        exact hSf (by rw [z]; exact hb)⟩
  -- what is told when the iterator has come to its end
  have ends : ∀ (n : Nat) (c : γ) (i m : Nat) (H : Hp) (s s₀ : Shared), GEnt Y S Cont fp tn σw W c n i m H s → J.stop i H → Qe c H →
      Seg (model Y.prog Y.w) A1 (GRe Y S Cont σw Qe) (GYe Y S Cont fp tn σw W Yd) n s₀ (.compLoop (.GeneratorExp elt [⟨tg, iter, [], 0⟩] scope pos) 0 (.ref it) .none Y.env)
        ((model Y.prog Y.w).den (.compLoop (.GeneratorExp elt [⟨tg, iter, [], 0⟩] scope pos) 0 (.ref it) .none Y.env)) [] s := fun n c i m H s s₀ ⟨_, o, hco', I, st, nf, _⟩ stop q => by
    show Seg _ A1 _ _ _ s₀ _ ((compTurn (.GeneratorExp elt [⟨tg, iter, [], 0⟩] scope pos) 0 (.ref it) .none Y.env).onRaise (leaving Y.env)) [] s
    rw [Sem.onRaise_eq_wrap, compTurn_gen]
    refine seg_bind_wrap (wpAny_standAt (seg_bind_wrap (hA ▸ ?_)))
    refine thnF (T.done Y rfl rfl rfl hc i [(S, o)] s σw H (fun _ _ => False) I (stat I nf) st stop) fun r s6 ⟨hr, I6⟩ => ?_
    subst hr
    exact seg_end (.ok .next) ⟨rfl, c, H, o, hco', I6, q⟩
  intro n
  induction n with
  | zero =>
    intro c i m H s s₀ ge
    rcases turn c i m H ge.2.choose_spec.2.2.2.2 with ⟨stop, q⟩ | ⟨hm0, _⟩
    · exact ends 0 c i m H s s₀ ge stop q
    · exact absurd (Nat.le_trans hm0 ge.1) (Nat.lt_irrefl 0)
  | succ n ih =>
    intro c i m H s s₀ ge
    obtain ⟨hm, o, hco', I, st, nf, w⟩ := id ge
    rcases turn c i m H w with ⟨stop, q⟩ | ⟨hm0, go, step⟩
    · exact ends (n + 1) c i m H s s₀ ge stop q
    · show Seg _ A1 _ _ _ s₀ _ ((compTurn (.GeneratorExp elt [⟨tg, iter, [], 0⟩] scope pos) 0 (.ref it) .none Y.env).onRaise (leaving Y.env)) [] s
      rw [Sem.onRaise_eq_wrap, compTurn_gen]
      refine seg_bind_wrap (wpAny_standAt (seg_bind_wrap (hA ▸ ?_)))
      refine thnF (T.item Y rfl rfl rfl hc i [(S, o)] s σw H (fun _ _ => False) I (stat I nf) st go) fun r s6 ⟨u, hr, h6⟩ => ?_
      subst hr
      refine seg_bind_wrap ?_
      rw [← hA]
      refine thnF h6 fun _ s7 ⟨x, H7, I7, r7, y7, st7, n7⟩ => (?_ : Seg _ _ _ _ _ _ _ _ _ _)
      have P7 := Inv.pinned I7 (stat I7 n7) (T.obj (i + 1) s7.heap st7)
      refine seg_bind_wrap ?_
      rw [← hA]
      refine wpAny_mono (pg.run _ s7 _ H7 x u _ P7 r7 (step x H7 y7)) (fun _ s8 h8 => ?_) fun x s' z => ?_
      · obtain ⟨σ8, H8, I8, hw8, q8⟩ := h8
        refine seg_bind_wrap ?_
        rw [List.forIn_nil]
        refine wpAny_pure ?_
        simp only [if_true]
        have hy : ∀ v, yieldOut Y.env v = yieldValue v := fun v => by simp only [yieldOut, hco, Bool.false_eq_true, if_false]
        simp only [hy]
        simp only [Sem.bind_eq_wrap', Sem.wrap_wrap]
        refine seg_wrap ?_
        rw [← hA]
        refine wpAny_mono (pe.run _ s8 σ8 H8 _ I8 q8) (fun y s9 h9 => ?_) fun x s' z => ?_
        · obtain ⟨yv, H9, I9, r9, yd⟩ := h9
          have pin' : ∀ b ∈ fp, ∀ o, s7.heap.get? b = some o → s9.heap.get? b = some o ∧ H9 b = none := fun b hb o e =>
            let z := I9.pin (b, o) (List.mem_append_right _ (List.mem_append_right _ (mem_pinsAt hb e)))
            ⟨z.1, z.2.1⟩
          have hl : σw.length = σ8.length := by rw [← hw8, wipe_length]
          have I9' : Inv Y [(S, o)] σw H9 s9 := (I9.unpinned (pins := [(S, o)])).weak hl fun j v e => by
            rw [← hw8] at e
            exact (wipe_some e).1
          refine seg_at (seg_yield rfl rfl rfl ⟨c, i, m, yv, H9, o, by omega, hco', I9', T.keep _ _ _ st7 fun b hb o e => (pin' b hb o e).1, fun b hb => ?_, r9, yd, fun s'' c' m' H'' ge => ?_⟩)
          · obtain ⟨ob, e, _⟩ := T.obj _ _ st7 b hb
            exact (pin' b hb ob e).2
          · exact seg_again rfl (ih c' (i + 1) m' H'' s'' s'' ge)
        · exact (hxe _ _ z).elim
      · exact (hxe _ _ z).elim
end Dd
namespace Dd
open PySem PySem.Spec L2 PyProof.Rows GenW

theorem seg_gstart {γ : Type} {Y : Cx} {A1 : Around} {S : Addr} {Cont : γ → Obj → Prop} {fp : List Addr} {tn : Nat → Heap → Prop} {σw : L2.St} {vs : List Nat} {W : γ → Nat → Nat → Hp → Prop} {Qe : γ → Hp → Prop} {Yd : γ → Nat → Nat → V → Hp → Prop} {J : It} {g : TG} {te : TE}
    {elt tg iter : Expr} {scope : Scope} {pos : Pos} {it : Addr} (hc : Y.calm = true) (hA : Y.A = A1.over (.compLoop (.GeneratorExp elt [⟨tg, iter, [], 0⟩] scope pos) 0 (.ref it) .none Y.env) []) (hex : ∀ b ∈ fp, b ∈ Y.ex) (hS : ∀ p ∈ Y.pn, p.1 ∉ fp) (hSf : S ∉ fp) (hco : Y.env.scope.isCoroutine = false) (hxe : ∀ v s, Y.xe v s → False)
    (T : Turn Y.prog Y.w Y.K tg J fp it tn) (pg : PG Y tg g) (pe : PE Y elt te) (turn : GTurn J g te σw vs W Qe Yd) (n : Nat) (c : γ) (m : Nat) (H : Hp) (s s₀ : Shared) (ge : GEnt Y S Cont fp tn σw W c n 0 m H s) :
      Seg (model Y.prog Y.w) A1 (GRe Y S Cont σw Qe) (GYe Y S Cont fp tn σw W Yd) n s₀ (.compStart (.GeneratorExp elt [⟨tg, iter, [], 0⟩] scope pos) 0 (.ref it) .none Y.env)
        ((model Y.prog Y.w).den (.compStart (.GeneratorExp elt [⟨tg, iter, [], 0⟩] scope pos) 0 (.ref it) .none Y.env)) [] s := by
  have loop := seg_turns hc hA hex hS hSf hco hxe T pg pe turn n c 0 m H s s₀ ge
  have st : tn 0 s.heap := ge.2.choose_spec.2.2.1
  show Seg _ A1 _ _ _ s₀ _ ((compStart (.GeneratorExp elt [⟨tg, iter, [], 0⟩] scope pos) 0 (.ref it) .none Y.env).onRaise (leaving Y.env)) [] s
  unfold compStart
  rw [Sem.onRaise_eq_wrap]
  show Seg _ A1 _ _ _ s₀ _ ((ask >>= _).wrap _ _ _ _) [] s
  apply seg_bind_wrap
  apply wpAny_askSetting
  split
  · exact seg_again rfl loop
  · first
      | exact seg_bind_wrap (wpAny_rule (seg_bind_wrap (wpAny_standAt (seg_bind_wrap (T.self _ 0 s _ _ st (seg_again rfl loop))))))
      | (refine seg_bind_wrap (wpAny_rule ?_); show Seg _ A1 _ _ _ s₀ _ ((standAt iter.pos >>= _).wrap _ _ _ _) [] s; exact seg_bind_wrap (wpAny_standAt (seg_bind_wrap (T.self _ 0 s _ _ st (seg_again rfl loop)))))

theorem over_gen {A : Around} {elt tg iter : Expr} {ifs : List Expr} {scope : Scope} {pos : Pos} {it acc : Value} {env : PySem.Env} :
    A.over (.compLoop (.GeneratorExp elt [⟨tg, iter, ifs, 0⟩] scope pos) 0 it acc env) [] = A.deeper env := by
  rfl

section
variable {X : Cx} {pins : List (Addr × Obj)} {σ : L2.St} {H : Hp} {s : Shared}
theorem gen_create {c P : Addr} {elt tg iter : Expr} {scope : Scope} {gpos : Pos} {own : List (Str × Nat)} {wi : TI} {R : It → Hp → Prop} {k : Nat} {Q' : Value → Shared → Prop}
    (hr : Room k X.A) (TB : GxR.TabB X.base X.mg c P) (hcode : X.env.code = .ref c) (hco : scope.isCoroutine = false) (h0 : scope.names.lookup (".0" : Str) = some NameKind.local) (hi : PI X tg iter wi) (ok : BlkOk X.N X.env.scope scope own) (hN : X.N.Nodup)
    (hs : ∀ v, genFold iter X.env v = pure v) (I : Inv X pins σ H s) (h : wi σ H fun J H1 => GxR.TabG H1 P ∧ ∀ H1', GxR.Tabbed P H1 H1' → R J H1')
    (hQ : ∀ (J : It) (it : Addr) (fp : List Addr) (tn : Nat → Heap → Prop) (H2 : Hp) (s4 s5 : Shared) (code : Value) (a : Addr) (go : Obj) (g : Nat), Inv X pins σ H2 s4 → Turn X.prog X.w X.K tg J fp it tn → (∀ b ∈ fp, FpOk X pins H2 b) → (∀ b ∈ fp, b < s4.heap.objs.size) → R J H2 → s4.heap.objs.size ≤ a →
      s5.os = s4.os → AllBare s5.gens → s5.heap.get? a = some go → (∀ h' : Heap, h'.get? a = some go → h'.IsGen a g) → (∀ v, go.data ≠ .cell v) → s5.gens[g]? = some (.fresh (.compStart (.GeneratorExp elt [⟨tg, iter, [], 0⟩] scope gpos) 0 (.ref it) .none (gEnv scope (cellsFrom (s4.heap.objs.size + 1) scope.names (cloFrom X.env.cells scope.names [])) s4.heap.objs.size code builtinsNs X.env))) →
      (∀ A' : Around, A'.handled = none → A'.frames = some (gEnv scope (cellsFrom (s4.heap.objs.size + 1) scope.names (cloFrom X.env.cells scope.names [])) s4.heap.objs.size code builtinsNs X.env :: X.stack) → Inv (gCx X A' s4 H2 scope code builtinsNs fp [(a, go)]) [] (wipe σ (own.map (·.2))) H2 s5) → tn 0 s5.heap → Q' (.ref a) s5) :
    wpAny (model X.prog X.w) X.A (eval (.GeneratorExp elt [⟨tg, iter, [], 0⟩] scope gpos) X.env) Q' X.xe s := by
  refine gen_make hco (closure_ok fun y hy e => I.ok.has y.1 (ok.free y hy e)) h0 ok.kind (by have := hr.dp; omega) ?_ hs
  refine thn (hi.run pins s σ H _ I h) fun xv s1 hx => thn hx fun itv s2 h2 => ?_
  obtain ⟨it, fp, tn, J, H1, rfl, I1, T, st, hfp, ⟨ps, hP, ht⟩, q1⟩ := h2
  refine ⟨I1.nolimit, ?_⟩
  have hPs : s2.heap.get? P = some { cls := .none, data := .fields ps } := I1.hok P _ hP
  have hPlt : P < s2.heap.objs.size := Heap.lt_size hPs
  have cd : PySem.W.CodeHd s2.heap c P := TB.code.keeps fun b u e => I1.bk b u e
  have nfP : P ∉ fp := fun z => by
    have := (hfp P z).1
    rw [hP] at this
    cases this
  have flt : ∀ b ∈ fp, b < s2.heap.objs.size := fun b hb => by
    obtain ⟨o, e, _⟩ := T.obj _ _ st b hb
    exact Heap.lt_size e
  have cont : ∀ (code : Value) (h3 : Heap) (tk : Nat) (more : Array Value), Heap.ExtBut P s2.heap h3 → s2.heap.objs.size ≤ h3.objs.size → h3.get? P = some { cls := .none, data := .fields (ps ++ more) } → TriplesOk (ps ++ more).toList →
      wpAny (model X.prog X.w) X.A (builtinsFor X.env.globals X.env.builtins) (fun bi t => ∀ h' tk, Begun t.heap scope.names (.ref it) h' →
        Q' (.ref h'.objs.size) (genSt t (.compStart (.GeneratorExp elt [⟨tg, iter, [], 0⟩] scope gpos) 0 (.ref it) .none (gEnv scope (cellsFrom (t.heap.objs.size + 1) scope.names (cloFrom X.env.cells scope.names [])) t.heap.objs.size code bi X.env)) X.env.qual h' tk)) X.xe { s2 with heap := h3, toks := tk } := by
    intro code h3 tk more hx hsz hP3 ht3
    have ⟨bm, ob, b1, b2, b3, b4, b5, b6, b7, b8⟩ := TB.bm
    have keep3 : ∀ b u, b ≠ P → s2.heap.get? b = some u → h3.get? b = some u := hx
    have I3 : Inv X pins σ (upd H1 P (.tbl (ps ++ more))) { s2 with heap := h3, gens := s2.gens, drawn := s2.drawn, toks := tk } := GxR.inv_tab I1 hP keep3 hP3 I1.bare
    refine wpAny_builtinsFor (m := X.mg) (by rw [I1.ok.glob]; exact (I1.mod.glob.keeps I1.bk).extBut hx TB.gP) b1 b2 (keep3 _ _ b4 (I1.bk _ _ b5)) b6 b7 b8 fun h' tk' B => ?_
    have hlt : ∀ b ∈ fp, b < h3.objs.size := fun b hb => Nat.lt_of_lt_of_le (flt b hb) hsz
    have nP : ∀ b ∈ fp, b ≠ P := fun b hb z => nfP (z ▸ hb)
    have hfp3 : ∀ b ∈ fp, FpOk X pins (upd H1 P (.tbl (ps ++ more))) b := fun b hb => ⟨(upd_ne (nP b hb)).trans (hfp b hb).1, (hfp b hb).2⟩
    have end3 : ∀ b o, h3.get? b = some o → (h'.push (genO s2.gens.size X.env.qual tk')).get? b = some o := fun b o e =>
      Heap.get?_push_of_some _ (B.2.extBut b o (Nat.ne_of_lt (Heap.lt_size e)) (pushCells_keeps _ _ _ _ (Heap.get?_push_of_some _ e)))
    have st3 : tn 0 h3 := T.keep _ _ _ st fun b hb o e => keep3 b o (nP b hb) e
    have hgo := Heap.get?_push_size h' (o := genO s2.gens.size X.env.qual tk') rfl
    refine hQ J it fp tn _ _ _ code _ _ s2.gens.size I3 T hfp3 hlt (q1 _ ⟨⟨_, upd_same, ht3⟩, fun b hb => upd_ne hb⟩) (Nat.le_of_lt B.1.lt) rfl (AllBare.push I1.bare rfl) hgo (fun hh e => ⟨_, _, _, e, rfl, rfl, rfl⟩) (fun v z => by cases z) (Array.getElem?_push_size ..)
      (fun A' calm fr => gen_start I3 ok hN (fun b hb => ⟨hfp3 b hb, hlt b hb⟩) calm fr (AllBare.push I1.bare rfl) B rfl fun v z => by cases z) (T.keep _ _ _ st3 fun b hb o e => end3 b o e)
  rcases known : codeAmong gpos ps.toList with _ | cv
  · refine wpAny_genexprCodeX hcode (cd.code hPs ht) (cd.tab hPs) known fun c' h' tk hx hge hlt hc2 _ htab' _ => ?_
    have ⟨_, _, _, _, _, _, _, _, _, _, _, _, _, _, _, _, _, _, _, tri, _⟩ := hc2
    exact cont _ h' tk _ hx (Nat.le_trans hge (Nat.le_of_lt hlt)) htab'.2 tri
  · refine wpAny_genexprCode_hit hcode (cd.code hPs ht) known ?_
    exact cont cv s2.heap s2.toks #[] (Heap.ExtBut.refl _ _) (Nat.le_refl _) (by simpa using hPs) (by simpa using ht)
end

/-! ### any -/
def tAnyG (P : Addr) (wi : TI) (g : TG) (te : TE) (vs : List Nat) : TE := fun σ H Q => wi σ H fun J H1 => GxR.TabG H1 P ∧ ∀ H1', GxR.Tabbed P H1 H1' → ∃ W : Unit → Nat → Nat → Hp → Prop, (∃ m, W () 0 m H1') ∧
  GTurn J g te (wipe σ vs) vs W (fun _ H => Q (.bl false) H) (fun _ i m y H3 => ∃ b, y = .bl b ∧ (b = true → Q (.bl true) H3) ∧ (b = false → ∃ m', m' < m ∧ W () (i + 1) m' H3))
theorem any_loop {Y : Cx} {a : Addr} {go : Obj} {g : Nat} {fp : List Addr} {tn : Nat → Heap → Prop} {σw : L2.St} {W : Unit → Nat → Nat → Hp → Prop} {QF QT : Hp → Prop} {B : Around} {R : Result → Shared → Prop}
    (hh : B.handled = none) (hroom : B.depth < recursionLimit) (hpn : (a, go) ∈ Y.pn) (hgo : ∀ h' : Heap, h'.get? a = some go → h'.IsGen a g)
    (hF : ∀ s1 H' o, Inv Y [(a, o)] σw H' s1 → QF H' → R (.ok (.ret (.bool false))) s1) (hT : ∀ s1 H' o, Inv Y [(a, o)] σw H' s1 → QT H' → R (.ok (.ret (.bool true))) s1) :
    ∀ (n : Nat) (s : Shared), s.heap.get? a = some go → s.heap.NoLimit → (∃ gs, s.gens[g]? = some gs ∧ gs.Goes (model Y.prog Y.w) B.in1.in1 (GRe (γ := Unit) Y a (fun _ _ => True) σw fun _ => QF)
      (GYe Y a (fun _ _ => True) fp tn σw W fun _ i m y H3 => ∃ b, y = .bl b ∧ (b = true → QT H3) ∧ (b = false → ∃ m', m' < m ∧ W () (i + 1) m' H3)) n (.send .none) (s.setGen g .running)) →
      codeAny (model Y.prog Y.w) B (.builtin "any.loop" ⟨[.ref a], []⟩) R s := by
  have pinA : ∀ {ps : List (Addr × Obj)} {H' : Hp} {s1 : Shared}, Inv Y ps σw H' s1 → s1.heap.get? a = some go := fun I => (I.pin (a, go) (List.mem_append_left _ hpn)).1
  intro n
  induction n using Nat.strongRecOn with
  | _ n ih =>
    intro s hg hl ⟨gs, hgs, hgoes⟩
    have old : g < s.gens.size := Array.getElem?_eq_some_iff.mp hgs |>.1
    apply codeAny_builtin F.entry_any_loop
    simp only [Around.under_plainId F.plain_any_loop]
    show wpAny _ B.in1 (pyNext (.ref a) >>= _) _ _ s
    refine wpAny_bind (wpAny_gsz (n := g + 1) old (wpAny_pyNext_genexpQ (A := B.in1) (P := fun _ _ s1 => ∃ (_ : Unit) (H' : Hp) (o : Obj), True ∧ Inv Y [(a, o)] σw H' s1 ∧ QF H') hh hl hroom (hgo _ hg) hgs hgoes
      (fun v s1 gs2 hbare ⟨c, i, m, y, H3, o, hm, _, I, st, nf, rv, ⟨b, eb, h1, h2⟩, kap⟩ room => ?_) (fun s1 ⟨_, H', o, _, I, q⟩ h' hk _ => ?_)))
    · subst eb
      cases (rv : v = .bool b)
      have b1 : AllBare (s1.setGen g gs2).gens := allBare_setGen I.bare hbare
      refine wpAny_bind (wpAny_holding (wpAny_truthy_bool (wpAny_bind (wpAny_letGo ?_))))
      rcases b with _ | _
      · obtain ⟨m', hm', w'⟩ := h2 rfl
        rcases n with _ | n
        · exact (kap (s1.setGen g .running) () m' H3 ⟨by omega, o, trivial, inv_gens I (allBare_setGen I.bare rfl), st, nf, w'⟩).elim
        · have here : g < s1.gens.size := by
            rw [← setGen_size s1 g gs2]
            exact room
          refine wpAny_pure ⟨plainId_quiet F.plain_any_loop _, ih n (Nat.lt_succ_self n) (s1.setGen g gs2) (show s1.heap.get? a = some go from pinA I) (show s1.heap.NoLimit from I.nolimit) ⟨gs2, setGen_at here, ?_⟩⟩
          exact kap ((s1.setGen g gs2).setGen g .running) () m' H3 ⟨by omega, o, trivial, inv_gens (inv_gens I b1) (allBare_setGen b1 rfl), st, nf, w'⟩
      · exact wpAny_bind (wpAny_rule (wpAny_pure (hT _ H3 o (inv_gens I b1) (h1 rfl))))
    · exact wpAny_bind (wpAny_rule (wpAny_pure (hF _ H' o (I.call' (ch := []) rfl (Un.kept hk) (I.hok.kept hk) (allBare_setGen I.bare rfl) fun _ z => nomatch z) q)))
section
variable {X : Cx}
theorem pe_anyG {c P : Addr} {elt tg iter : Expr} {scope : Scope} {p pos gpos : Pos} {own : List (Str × Nat)} {wi : TI} {g : TG} {te : TE} {k : Nat}
    (hr : Room (k + 1) X.A) (hg : Gl X "any") (hm : X.mg "any" = none) (TB : GxR.TabB X.base X.mg c P) (hcode : X.env.code = .ref c) (hco : scope.isCoroutine = false) (h0 : scope.names.lookup (".0" : Str) = some NameKind.local) (hi : PI X tg iter wi) (ok : BlkOk X.N X.env.scope scope own) (hN : X.N.Nodup)
    (hgt : ∀ (A : Around) (s : Shared) (H : Hp) (code : Value) (fp : List Addr) (pn : List (Addr × Obj)), PG (gCx X A s H scope code builtinsNs fp pn) tg g)
    (hel : ∀ (A : Around) (s : Shared) (H : Hp) (code : Value) (fp : List Addr) (pn : List (Addr × Obj)), Room k A → PE (gCx X A s H scope code builtinsNs fp pn) elt te)
    (hs : ∀ v, genFold iter X.env v = pure v := by intro _; rfl)
    (he : starEach [.GeneratorExp elt [⟨tg, iter, [], 0⟩] scope gpos] X.env = (false, eval (.GeneratorExp elt [⟨tg, iter, [], 0⟩] scope gpos) X.env) :: starEach [] X.env := by rfl) :
    PE X (.Call (.Name "any" p) [.GeneratorExp elt [⟨tg, iter, [], 0⟩] scope gpos] [] pos) (tAnyG P wi g te (own.map (·.2))) := by
  refine ⟨fun pins s σ H Q I h => ?_⟩
  refine wpAny_Call_Name_kw (ld_blt I hg hm boot_any (PyProof.Rows.callWith_builtin1 ?_ he (by rfl)))
  rw [he]
  show wpAny _ _ (spliced ((false, eval (.GeneratorExp elt [⟨tg, iter, [], 0⟩] scope gpos) X.env) :: backTo pos (starEach [] X.env))) _ _ s
  refine Calls.spliced_cons (gen_create (R := fun J H1' => ∃ W : Unit → Nat → Nat → Hp → Prop, (∃ m, W () 0 m H1') ∧
    GTurn J g te (wipe σ (own.map (·.2))) (own.map (·.2)) W (fun _ H => Q (.bl false) H) (fun _ i m y H3 => ∃ b, y = .bl b ∧ (b = true → Q (.bl true) H3) ∧ (b = false → ∃ m', m' < m ∧ W () (i + 1) m' H3))) hr TB hcode hco h0 hi ok hN hs I h
    fun J it fp tn H2 s4 s5 code a go gn I4 T hfp hlt ⟨W, ⟨m, w0⟩, turn⟩ ha hos hb hgo hgen hgc hgs hst st5 => ?_)
  refine Calls.spliced_nil ?_
  have back : ∀ {s1 : Shared} {H' : Hp} {o : Obj} {A' : Around}, Inv (gCx X A' s4 H2 scope code builtinsNs fp [(a, go)]) [(a, o)] (wipe σ (own.map (·.2))) H' s1 → Inv X pins σ H' s1 := fun {s1 H' o A'} J =>
    I4.call' (ch := fp) J.os J.base J.hok J.bare fun b hb => ⟨(hfp b hb).2.2.2.1, (hfp b hb).2.1, (hfp b hb).2.2.2.2.1, (hfp b hb).2.2.2.2.2⟩
  apply call_function_tree F.kind_any F.plain_any F.entry_any (F.args_any1 (.ref a))
  unfold Builtin.«any»
  refine wpAny_bind (m := oneArg "any" _) (wpAny_pure (wpAny_bind (wpAny_pyIter_gen (hgen _ hgo) (wpAny_pure ⟨plainId_quiet F.plain_any_loop _, ?_⟩))))
  have hA : Around.over X.A.in1.in1 (.compLoop (.GeneratorExp elt [⟨tg, iter, [], 0⟩] scope gpos) 0 (.ref it) .none (gEnv scope (cellsFrom (s4.heap.objs.size + 1) scope.names (cloFrom X.env.cells scope.names [])) s4.heap.objs.size code builtinsNs X.env)) [] = X.A.in1.in1.deeper (gEnv scope (cellsFrom (s4.heap.objs.size + 1) scope.names (cloFrom X.env.cells scope.names [])) s4.heap.objs.size code builtinsNs X.env) := over_gen
  have hrA : Room k (X.A.in1.in1.deeper (gEnv scope (cellsFrom (s4.heap.objs.size + 1) scope.names (cloFrom X.env.cells scope.names [])) s4.heap.objs.size code builtinsNs X.env)) :=
    ⟨hr.hd, by have := hr.dp; show X.A.depth + 1 + 3 * k + 5 < _; omega, by have := hr.un; show X.A.units + 1 + 1 + 3 + 16 * k + 200 < _; omega⟩
  have I5 := hst (X.A.in1.in1.deeper (gEnv scope (cellsFrom (s4.heap.objs.size + 1) scope.names (cloFrom X.env.cells scope.names [])) s4.heap.objs.size code builtinsNs X.env)) hr.hd (Around.frames_deeper I4.ok.frames)
  have naf : a ∉ fp := fun z => absurd (Nat.lt_of_lt_of_le (hlt a z) ha) (Nat.lt_irrefl _)
  have I5' := I5.pins_of (pins' := [(a, go)]) fun p hp => by
    rw [List.mem_singleton.mp hp]
    exact I5.pin (a, go) (List.mem_append_left _ (List.mem_singleton.mpr rfl))
  refine any_loop (Y := gCx X (X.A.in1.in1.deeper (gEnv scope (cellsFrom (s4.heap.objs.size + 1) scope.names (cloFrom X.env.cells scope.names [])) s4.heap.objs.size code builtinsNs X.env)) s4 H2 scope code builtinsNs fp [(a, go)]) (fp := fp) (tn := tn) (W := W) (QF := fun H => Q (.bl false) H) (QT := fun H => Q (.bl true) H) (σw := wipe σ (own.map (·.2)))
    hr.hd (by have := hr.dp; omega) (List.mem_singleton.mpr rfl) hgen (fun s1 H' o J q => ⟨.bl false, H', back J, rfl, q⟩) (fun s1 H' o J q => ⟨.bl true, H', back J, rfl, q⟩) m s5 hgo I5.nolimit ⟨_, hgs, rfl, ?_⟩
  exact seg_gstart (Y := gCx X (X.A.in1.in1.deeper (gEnv scope (cellsFrom (s4.heap.objs.size + 1) scope.names (cloFrom X.env.cells scope.names [])) s4.heap.objs.size code builtinsNs X.env)) s4 H2 scope code builtinsNs fp [(a, go)]) rfl hA.symm (fun b hb => hb) (fun p hp => by rw [List.mem_singleton.mp hp]; exact naf) naf hco (fun _ _ z => z) T
    (hgt _ s4 H2 code fp _) (hel _ s4 H2 code fp _ hrA) turn m () m H2 _ _ ⟨Nat.le_refl _, go, trivial, inv_gens I5' (allBare_setGen I5.bare rfl), st5, fun b hb => (hfp b hb).1, w0⟩
end
end Dd
namespace Dd
open PySem PySem.Spec L2 PyProof.Rows

/-! ### a def whose code's table is known -/
structure FunT (K : PySem.W.Frag) (x qual : Str) (st : Stmt) (f : Addr) (fd : FuncData) (c : Addr) : Prop where
  ex : ∃ (oc : Value) (od : Option Addr) (kV doc pm : Value) (an : Option Addr) (ct : Value) (osl : Array (Option Value)),
    fd = PySem.W.fnOf x qual (defArgs st) (defBody st) (defScope st) .none kV doc pm an (.ref c) ct ∧ K.lookup f = some ⟨oc, od, .func fd, osl⟩ ∧ PySem.W.codeIn K (.ref c) qual = true
  kp : PySem.W.keepIn K (.ref f) = true
/-- its table serves generator expressions -/
structure TbG (base : Heap) (mg : Str → Option Value) (S : Sg) (c P : Addr) : Prop where
  tb : GxR.TabB base mg c P
  mem : (P, none) ∈ S.T
  uni : ∀ p ∈ S.T, p.1 = P → p.2 = none
section
variable {P : Program} {w : World} {K : PySem.W.Frag} {mg : Str → Option Value} {base : Heap} {S : Sg}
theorem FunT.okX {x qual : Str} {st : Stmt} {f c : Addr} {fd : FuncData} {N ps : List Str} {k : Nat} {sp : Sp} (F : FunT K x qual st f fd c) (Sc : FnScope N ps (defScope st)) (len : ∀ vs H Q E, sp vs H Q E → vs.length = ps.length)
    (hbody : ∀ (A : Around) (outer : List PySem.Env) (s : Shared) (H : Hp) (vs : List V) (Q : VK) (E : XK), Room k (A.deeper (envOfC qual (defScope st) s.heap.objs.size f (.ref c))) → sp vs H Q E →
      ∃ t, PSs (cxOf (L2.CX P w) P w K mg base N qual (defScope st) f (.ref c) A outer s H E) (defBody st) t ∧ t { nx := fun _ H' => Q .non H', rt := Q } (L2.start N vs) H) : FnOk P w K mg base (L2.CX P w) (k + 1) f fd ps sp := by
  obtain ⟨oc, od, kV, doc, pm, an, ct, osl, rfl, lk, hcd⟩ := F.ex
  exact fn_of lk hcd Sc len fun A outer s H vs Q E hr hsp => hbody A outer s H vs Q E hr hsp
theorem FunT.fu {x qual : Str} {st : Stmt} {f c : Addr} {fd : FuncData} (F : FunT K x qual st f fd c) : Fun K x qual st f fd := by
  obtain ⟨oc, od, kV, doc, pm, an, ct, osl, e, lk, hcd⟩ := F.ex
  exact ⟨⟨oc, od, kV, doc, pm, an, _, ct, osl, e, lk, hcd⟩, F.kp⟩
theorem fn_okT {x qual : Str} {st : Stmt} {f c : Addr} {fd : FuncData} {N ps : List Str} {k : Nat} {F : SF} (Fu : FunT K x qual st f fd c) (sc : FnScope N ps (defScope st))
    (hb : ∀ (A : Around) (outer : List PySem.Env) (s : Shared) (H : Hp) (E : XK), Room k (A.deeper (PyProof.Rows.envOfC qual (defScope st) s.heap.objs.size f (.ref c))) → DSs (cxOf (L2.CX P w) P w K mg base N qual (defScope st) f (.ref c) A outer s H E) S E (defBody st) F) :
    FnOk P w K mg base (L2.CX P w) (k + 1) f fd ps (spD K S ps.length (fnF N.length F)) := by
  refine Fu.okX sc spD_len fun A outer s H vs Q E hr h => ?_
  obtain ⟨O, ds, μ, hl, wd, r, g⟩ := h
  have hps : ps.length ≤ N.length := by
    have e := sc.pre
    have q : (N.take ps.length).length = ps.length := by rw [e]
    rw [List.length_take] at q
    omega
  refine ⟨_, hb A outer s H E hr, H, O, O, _, μ, ⟨wd, sls_start wd.rho r (by rw [r.length, hl]; exact hps), Fr.refl _ _, fun _ h => h, fun _ h => .inl h⟩, ?_⟩
  refine (good_bind g).imp (fun o μ1 g1 => ?_) fun c μ1 q => q
  cases o with
  | nx Γ' => exact fun σ' H' O' m _ => g1 H' m.fr (m.less m.wd) _ .non
  | ret d => exact fun v H' f' w' rv => g1 H' f' w' v rv
  | bk Γ' => exact False.elim g1
  | ct Γ' => exact False.elim g1
theorem gf_mkT {x qual : Str} {st : Stmt} {f c : Addr} {fd : FuncData} {N ps : List Str} {k : Nat} {F : SF} (hm : mg x = some (.ref f)) (Fu : FunT K x qual st f fd c) (b : Binds K fd ps []) (sc : FnScope N ps (defScope st))
    (hb : ∀ (A : Around) (outer : List PySem.Env) (s : Shared) (H : Hp) (E : XK), Room k (A.deeper (PyProof.Rows.envOfC qual (defScope st) s.heap.objs.size f (.ref c))) → DSs (cxOf (L2.CX P w) P w K mg base N qual (defScope st) f (.ref c) A outer s H E) S E (defBody st) F) :
    GF P w K mg base S x ps (k + 1) (fnF N.length F) := ⟨f, fd, hm, Fu.kp, b, fn_okT Fu sc hb⟩
theorem gm_mkT {cc : Nat} {x qual : Str} {st : Stmt} {f c : Addr} {fd : FuncData} {N ps : List Str} {k : Nat} {F : SF} (cl : Cls K (S.CA cc)) (hm : Meth K (S.CA cc) x f) (nf : x ∉ S.FN cc) (Fu : FunT K x qual st f fd c) (b : Binds K fd ps []) (sc : FnScope N ps (defScope st))
    (hb : ∀ (A : Around) (outer : List PySem.Env) (s : Shared) (H : Hp) (E : XK), Room k (A.deeper (PyProof.Rows.envOfC qual (defScope st) s.heap.objs.size f (.ref c))) → DSs (cxOf (L2.CX P w) P w K mg base N qual (defScope st) f (.ref c) A outer s H E) S E (defBody st) F) :
    GM P w K mg base S cc x ps (k + 1) (fnF N.length F) := ⟨f, fd, cl, hm, nf, b, fn_okT Fu sc hb⟩

/-! ### __init__ with one field: self.f = e, then the rest -/
def initF (c n : Nat) (f : E) (R : SF) : Fn := fun ds => M.bind (f (.no :: (ds.map .v ++ nos (n - 1 - ds.length)))) fun d => M.bind (R (.v (.obj c [d]) :: (ds.map .v ++ nos (n - 1 - ds.length)))) fun r => match r with
  | .nx _ => M.pure (.obj c [d])
  | _ => M.bad
def spI (K : PySem.W.Frag) (S : Sg) (c n : Nat) (F : Fn) : Sp := fun vs H Q E => ∃ (x dx : Addr) (vs' : List V) (O : Addr → Prop) (ds μ : List D) (H0 : Hp), vs = .ref x :: vs' ∧ H = upd (upd H0 dx (.own x)) x (.ins (S.CA c) dx []) ∧ H0 x = none ∧ H0 dx = none ∧ dx ≠ x ∧ ds.length = n ∧ Wd K S O H0 μ ∧ Reps K S (del H0 O) vs' ds ∧
  Good (F ds μ) (fun d μ' => ∀ H', Fr S H0 H' → Wd K S O H' μ' → Rep K S (del H' O) (.ref x) d → Q .non H') (fun c μ' => ∀ H', Fr S H0 H' → Wd K S O H' μ' → E (.ref (S.EX c)) none H')
theorem no_own {ds : List D} {n i : Nat} {d : D} (h : (ds.map Sl.v ++ nos n)[i]? = some (.o d)) : False := by
  by_cases h' : i < ds.length
  · rw [List.getElem?_append_left (by rw [List.length_map]; exact h'), List.getElem?_map, List.getElem?_eq_getElem h'] at h
    cases h
  · rw [List.getElem?_append_right (by rw [List.length_map]; omega)] at h
    unfold nos at h
    rw [List.getElem?_replicate] at h
    split at h <;> cases h
theorem sls_start1 {Ob O : Addr → Prop} {H : Hp} {N : List Str} {v : V} {vs : List V} {ds : List D} (hb : ∀ a ∈ S.ρ, Ob a) (r : Reps K S (del H O) vs ds) (hl : vs.length + 1 ≤ N.length) : SlsB K S Ob O H (L2.start N (v :: vs)) (.no :: (ds.map .v ++ nos (N.length - 1 - ds.length))) where
  len := by
    unfold L2.start nos
    rw [List.length_append, List.length_map, List.length_replicate, List.length_cons, List.length_cons, List.length_append, List.length_map, List.length_replicate, r.length]
    rw [r.length] at hl
    omega
  hb := hb
  at_ := fun i z e => by
    cases i with
    | zero => cases e; trivial
    | succ i =>
      have e : (ds.map Sl.v ++ nos (N.length - 1 - ds.length))[i]? = some z := e
      by_cases h : i < ds.length
      · rw [List.getElem?_append_left (by rw [List.length_map]; exact h), List.getElem?_map, List.getElem?_eq_getElem h] at e
        cases e
        obtain ⟨u, hv, rv⟩ := r.get (List.getElem?_eq_getElem h)
        refine ⟨u, ?_, rv⟩
        unfold L2.start
        rw [List.getElem?_append_left (by rw [List.length_map, List.length_cons, r.length]; omega), List.getElem?_map, List.getElem?_cons_succ, hv]
        rfl
      · rw [List.getElem?_append_right (by rw [List.length_map]; omega)] at e
        unfold nos at e
        rw [List.getElem?_replicate] at e
        split at e
        · cases e
          trivial
        · cases e
  dis := fun i j a d e h _ _ _ => by
    exfalso
    cases i with
    | zero => cases h
    | succ i =>
      exact no_own h
theorem gk_mk {x qual fld : Str} {cc : Nat} {st : Stmt} {f c : Addr} {fd : FuncData} {N ps : List Str} {k n : Nat} {fe : E} {R : SF} {value : Expr} {p1 p2 p3 : Pos} {rest : List Stmt} (hm : mg x = some (.ref (S.CA cc))) (mk : Mk K (S.CA cc) f) (cl : Cls K (S.CA cc)) (na : NoAttr K (S.CA cc) fld) (hF : S.FN cc = [fld])
    (Fu : FunT K "__init__" qual st f fd c) (b : Binds K fd ps []) (sc : FnScope N ps (defScope st)) (hn : ps.length = n + 1) (h0 : N[0]? = some ("self" : Str)) (hbd : defBody st = .Assign [.Attribute (.Name "self" p1) fld p2] value p3 :: rest)
    (hv : ∀ (A : Around) (outer : List PySem.Env) (s : Shared) (H : Hp) (E : XK), Room k (A.deeper (PyProof.Rows.envOfC qual (defScope st) s.heap.objs.size f (.ref c))) → DE (cxOf (L2.CX P w) P w K mg base N qual (defScope st) f (.ref c) A outer s H E) S E value fe ∧
      Vis (defScope st) "self" ∧ swapsWith value (some (.Attribute (.Name "self" p1) fld p2)) p3.line (cxOf (L2.CX P w) P w K mg base N qual (defScope st) f (.ref c) A outer s H E).env = pure false)
    (hr : ∀ (A : Around) (outer : List PySem.Env) (s : Shared) (H : Hp) (E : XK), Room k (A.deeper (PyProof.Rows.envOfC qual (defScope st) s.heap.objs.size f (.ref c))) → DSs (cxOf (L2.CX P w) P w K mg base N qual (defScope st) f (.ref c) A outer s H E) S E rest R) :
    GK P w K mg base S x n (k + 1) (initF cc N.length fe R) := by
  refine ⟨S.CA cc, f, fd, ps, spI K S cc n (initF cc N.length fe R), hm, mk, b, ?_, fun H vs O ds μ Q E hl w r g x dx nx nd ne => ⟨x, dx, vs, O, ds, μ, H, rfl, rfl, nx, nd, ne, hl, w, r, g.imp (fun d μ' q H' f' w' rv => ⟨rfl, q H' f' w' _ rv⟩) fun _ _ q => q⟩⟩
  refine Fu.okX sc (fun vs H Q E ⟨x, dx, vs', O, ds, μ, H0, e, _, _, _, _, hl, _, r, _⟩ => by rw [e, List.length_cons, r.length, hl, hn]) fun A outer s H vs Q E hrm h => ?_
  obtain ⟨x, dx, vs', O, ds, μ, H0, rfl, rfl, nx, nd, ne, hl, w, r, g⟩ := h
  have hps : ps.length ≤ N.length := by
    have e := sc.pre
    have q : (N.take ps.length).length = ps.length := by rw [e]
    rw [List.length_take] at q
    omega
  obtain ⟨hv1, hvis, hsw⟩ := hv A outer s (upd (upd H0 dx (.own x)) x (.ins (S.CA cc) dx [])) E hrm
  rw [hbd]
  refine ⟨_, pss_cons (ps_fld (pe_var (i := 0) h0 hvis) hv1 hsw) (hr A outer s _ E hrm), ?_⟩
  have nx1 : upd H0 dx (.own x) x = none := by rw [upd_ne (Ne.symm ne)]; exact nx
  have w1 : Wd K S (With O x) (upd (upd H0 dx (.own x)) x (.ins (S.CA cc) dx [])) μ := (w.add nd).more nx1
  have r1 : Reps K S (del (upd (upd H0 dx (.own x)) x (.ins (S.CA cc) dx [])) (With O x)) vs' ds := (w.reps (Fr.add nd) r).mono (keep_with nx1)
  have nOx : ¬ O x := w.fresh nx
  have nρ : x ∉ S.ρ := fun z => nOx (w.rho x z)
  have lv : vs'.length + 1 ≤ N.length := by rw [r.length, hl, ← hn]; exact hps
  have s1 : SlsB K S (fun a => O a) (With O x) (upd (upd H0 dx (.own x)) x (.ins (S.CA cc) dx [])) (L2.start N (.ref x :: vs')) (.no :: (ds.map .v ++ nos (N.length - 1 - ds.length))) := sls_start1 w.rho r1 lv
  have fr0 : ∀ {H1 : Hp}, Fr S (upd (upd H0 dx (.own x)) x (.ins (S.CA cc) dx [])) H1 → Fr S H0 H1 := fun {H1} f1 => ((Fr.add nd).trans (Fr.add nx1)).trans f1
  show tD K S E fe (L2.start N (.ref x :: vs')) _ _
  refine ⟨With O x, _, μ, w1, ⟨_, s1⟩, (good_bind g).imp (fun d μ1 g1 H1 f1 w2 y ry => ?_) fun c μ1 q H1 f1 w2 => q H1 (fr0 f1) (w2.less (fun a h => .inl h) w.rho)⟩
  have hx1 : H1 x = some (.ins (S.CA cc) dx []) := f1.keep _ _ upd_same nρ nt_ins
  have sv : (L2.start N (V.ref x :: vs'))[0]? = some (some (.ref x)) := rfl
  refine ⟨_, sv, x, S.CA cc, dx, [], rfl, hx1, cl, na, by simp, ?_⟩
  have hO : With O x x := .inr rfl
  have hput : putF fld y [] = [(fld, y)] := rfl
  show tS K S E R _ _ _
  rw [hput]
  have w3 : Wd K S (With O x) (upd H1 x (.ins (S.CA cc) dx [(fld, y)])) μ1 := w2.write hO nρ hx1 rfl
  have w4 : Wd K S O (upd H1 x (.ins (S.CA cc) dx [(fld, y)])) μ1 := w3.less (fun a h => .inl h) w.rho
  have kw := keep_write (H := H1) (O := With O x) (o' := .ins (S.CA cc) dx [(fld, y)]) hO
  have rx : Rep K S (del (upd H1 x (.ins (S.CA cc) dx [(fld, y)])) O) (.ref x) (.obj cc [d]) := by
    refine .obj (vs := [y]) (dx := dx) ?_ ?_ (.cons (rep_less (fun a h => .inl h) (ry.mono kw)) .nil)
    · rw [del_out nOx, hF]
      exact upd_same
    · rw [hF] <;> rfl
  refine ⟨H0, O, O, .v (.obj cc [d]) :: (ds.map .v ++ nos (N.length - 1 - ds.length)), μ1, ⟨w4, ?_, ?_, fun _ h => h, fun _ h => .inl h⟩, (good_bind g1).imp (fun o μ2 g2 => ?_) fun c μ2 q => q⟩
  · have s2 := s1.fr w1 f1
    have s3 : SlsB K S (fun a => O a) (With O x) (upd H1 x (.ins (S.CA cc) dx [(fld, y)])) (L2.start N (.ref x :: vs')) (.no :: (ds.map .v ++ nos (N.length - 1 - ds.length))) := ⟨s2.len, s2.hb, fun i z e => by
      have q := s2.at_ i z e
      cases z with
      | no => trivial
      | v dd => obtain ⟨u, e, ru⟩ := q; exact ⟨u, e, ru.mono kw⟩
      | o dd =>
        exfalso
        cases i with
        | zero => cases e
        | succ i =>
          exact no_own e, s2.dis⟩
    refine ⟨s3.len, s3.hb, fun i z e => ?_, fun i j a d' e' h _ _ _ => ?_⟩
    · cases i with
      | zero => cases e; exact ⟨_, sv, rx⟩
      | succ i =>
        have q := s3.at_ (i + 1) z e
        cases z with
        | no => trivial
        | v dd => obtain ⟨u, e, ru⟩ := q; exact ⟨u, e, rep_less (fun a h => .inl h) ru⟩
        | o dd =>
          exfalso
          exact no_own e
    · exfalso
      cases i with
      | zero => cases h
      | succ i =>
        exact no_own h
  · have f0 := fr0 f1
    exact ⟨fun b o e n t => by rw [upd_ne (ne_of_none e nx)]; exact f0.keep b o e n t, fun b h => upd_dom b (f0.dom b h)⟩
  · cases o with
    | nx Γ' =>
      intro σ' H' O' m st
      refine g2 H' m.fr (m.less m.wd) ?_
      exact rep_less m.up (rx.mono st.lift)
    | ret d => exact False.elim g2
    | bk Γ' => exact False.elim g2
    | ct Γ' => exact False.elim g2
end

/-! ### any of a generator expression -/
def anyF (T : Tgt) (fe : E) (Γ : Env) : List D → M Bool
  | [] => M.pure false
  | d :: ds => M.bind (M.opt (T d Γ)) fun Γ1 => M.bind (fe Γ1) fun y => M.bind (M.opt (asB y)) fun b => if b = true then M.pure true else anyF T fe Γ ds
def eAny (fi : Env → M (List D)) (T : Tgt) (fe : E) (vs : List Nat) : E := fun Γ => M.bind (fi Γ) fun ds => M.bind (nox (anyF T fe (wipeG Γ vs) ds)) fun b => M.pure (.bl b)
theorem wd_tabbed {K : PySem.W.Frag} {S : Sg} {O : Addr → Prop} {H H' : Hp} {μ : List D} {P : Addr} (w : Wd K S O H μ) (t : GxR.TabG H P) (tb : GxR.Tabbed P H H') (hu : ∀ p ∈ S.T, p.1 = P → p.2 = none) : Wd K S O H' μ ∧ Fr S H H' := by
  obtain ⟨ps, hP, _⟩ := t
  obtain ⟨t2, kp⟩ := tb
  have nP : ∀ b u, H b = some u → NT u → b ≠ P := fun b u e n z => by
    rw [z, hP] at e
    cases e
    exact n ps rfl
  have fr : Fr S H H' := ⟨fun b o e _ n => (kp b (nP b o e n)).trans e, fun b h => by
    by_cases z : b = P
    · obtain ⟨q, e, _⟩ := t2
      rw [z, e]
      intro z
      cases z
    · rw [kp b z]
      exact h⟩
  refine ⟨⟨fun p hp => ?_, fun a h => fr.dom a (w.hid a h), fun a h => (let ⟨o, e, m⟩ := w.hm a h; ⟨o, (kp a (nP a o e (mutK_nt m))).trans e, m⟩), w.rho, w.len, fun j c e => ?_⟩, fr⟩
  · have q := w.tabs p hp
    by_cases z : p.1 = P
    · rw [hu p hp z, z]
      exact t2
    · cases h : p.2 with
      | none =>
        rw [h] at q
        obtain ⟨ps', e, h2⟩ := q
        exact ⟨ps', (kp _ z).trans e, h2⟩
      | some s =>
        rw [h] at q
        obtain ⟨ps', e, h2, h3⟩ := q
        refine ⟨ps', (kp _ z).trans e, h2, fun pos cv hc => ?_⟩
        obtain ⟨c, e1, e2⟩ := h3 pos cv hc
        exact ⟨c, e1, (kp _ (nP _ _ e2 fun ps z => by cases z)).trans e2⟩
  · obtain ⟨a, h1, h2⟩ := w.amb j c e
    obtain ⟨o, ho, hm⟩ := h2.there
    exact ⟨a, h1, h2.mono (w.keep fr) (kp _ (nP _ _ ho (mutK_nt hm)))⟩
theorem ItOk.step {K : PySem.W.Frag} {S : Sg} {O O' : Addr → Prop} {H H' : Hp} {J : It} {ds : List D} (it : ItOk K S O H J ds) (st : Stp O H O' H') : ItOk K S O' H' J ds :=
  ⟨it.lim, fun i H2 O2 μ s w h => it.go i H2 O2 μ (st.trans s) w h, fun i H2 O2 μ s w h => it.stop i H2 O2 μ (st.trans s) w h⟩
theorem any_turns {K : PySem.W.Frag} {S : Sg} {O : Addr → Prop} {σ : L2.St} {Γ : Env} {H1 : Hp} {μ : List D} {J : It} {ds : List D} {T : Tgt} {is vs : List Nat} {fe : E} {Q : VK} (w : Wd K S O H1 μ) (s : Sls K S O H1 σ Γ) (it : ItOk K S O H1 J ds) (hiv : ∀ i ∈ is, i ∈ vs)
    (g : Good (anyF T fe (wipeG Γ vs) ds μ) (fun b μ' => ∀ H', Fr S H1 H' → Wd K S O H' μ' → Q (.bl b) H') (fun _ _ => False)) :
    ∃ W : Unit → Nat → Nat → Hp → Prop, (∃ m, W () 0 m H1) ∧ GTurn J (tG K S T is) (tD K S E0' fe) (wipe σ vs) vs W (fun _ H => Q (.bl false) H) (fun _ i m y H3 => ∃ b, y = .bl b ∧ (b = true → Q (.bl true) H3) ∧ (b = false → ∃ m', m' < m ∧ W () (i + 1) m' H3)) := by
  obtain ⟨Ob, s⟩ := s
  refine ⟨fun _ i m H => m = ds.length - i ∧ i ≤ ds.length ∧ ∃ μi, Fr S H1 H ∧ Wd K S O H μi ∧ SlsB K S Ob O H (wipe σ vs) (wipeG Γ vs) ∧ Good (anyF T fe (wipeG Γ vs) (ds.drop i) μi) (fun b μ' => ∀ H', Fr S H1 H' → Wd K S O H' μ' → Q (.bl b) H') (fun _ _ => False),
    ⟨ds.length, by simp, Nat.zero_le _, μ, Fr.refl _ _, w, s.wipe vs, g⟩, ?_⟩
  rintro ⟨⟩ i m H ⟨rfl, hi, μi, fr, wi, si, gi⟩
  have st : Stp O H1 O H := Stp.of fr w
  by_cases hlt : i < ds.length
  · obtain ⟨go, yl⟩ := it.go i H O μi st wi hlt
    refine .inr ⟨by omega, go, fun x H' hy => ?_⟩
    obtain ⟨f3, w3, d, ed, rd⟩ := yl x H' hy
    have edr : ds.drop i = d :: ds.drop (i + 1) := by
      obtain ⟨h1, h2⟩ := List.getElem?_eq_some_iff.mp ed
      rw [← h2]
      exact List.drop_eq_getElem_cons h1
    rw [edr] at gi
    unfold anyF at gi
    cases eT : T d (wipeG Γ vs) with
    | none => rw [eT] at gi; exact False.elim gi
    | some Γ1 =>
      rw [eT] at gi
      simp only [M.opt_some, M.pure_bind] at gi
      refine ⟨Ob, O, wipeG Γ vs, μi, d, Γ1, w3, si.fr wi f3, rd, eT, fun H4 σ4 f4 w4 s4 hw => ⟨(hw vs hiv).trans wipe_wipe, ?_⟩⟩
      refine ⟨O, Γ1, μi, w4, ⟨Ob, s4⟩, (good_bind gi).imp (fun y μ5 g5 H5 f5 w5 v rv => ?_) (fun _ _ z => z.elim)⟩
      obtain ⟨b, eb, g6⟩ := good_opt g5
      refine ⟨b, asB_some eb rv, fun hb => ?_, fun hb => ?_⟩
      · subst hb
        simp only [if_true] at g6
        have g6 : ∀ H', Fr S H1 H' → Wd K S O H' μ5 → Q (.bl true) H' := g6
        exact g6 H5 (((fr.trans f3).trans f4).trans f5) w5
      · subst hb
        simp only [Bool.false_eq_true, if_false] at g6
        exact ⟨ds.length - (i + 1), by omega, rfl, hlt, μ5, ((fr.trans f3).trans f4).trans f5, w5, si.fr wi ((f3.trans f4).trans f5), g6⟩
  · have ei : i = ds.length := by omega
    subst ei
    rw [List.drop_length] at gi
    have gi : ∀ H', Fr S H1 H' → Wd K S O H' μi → Q (.bl false) H' := gi
    exact .inl ⟨it.stop _ H O μi st wi (Nat.le_refl _), gi H fr wi⟩
section
variable {X : Cx} {S : Sg} {W : XK}
theorem de_any {c P : Addr} {elt tg iter : Expr} {scope : Scope} {p pos gpos : Pos} {own : List (Str × Nat)} {fi : Env → M (List D)} {T : Tgt} {is : List Nat} {fe : E} {k : Nat}
    (TB : TbG X.base X.mg S c P) (hr : Room (k + 1) X.A) (hm : X.mg "any" = none) (hN : X.N.Nodup) (hi : DI X S W tg iter fi) (ok : BlkOk X.N X.env.scope scope own) (hiv : ∀ i ∈ is, i ∈ own.map (·.2))
    (hgt : ∀ (A : Around) (s : Shared) (H : Hp) (code : Value) (fp : List Addr) (pn : List (Addr × Obj)), DG (gCx X A s H scope code builtinsNs fp pn) S tg T is)
    (hel : ∀ (A : Around) (s : Shared) (H : Hp) (code : Value) (fp : List Addr) (pn : List (Addr × Obj)), Room k A → DE (gCx X A s H scope code builtinsNs fp pn) S E0' elt fe)
    (hcode : X.env.code = .ref c := by rfl) (hco : scope.isCoroutine = false := by rfl) (h0 : scope.names.lookup (".0" : Str) = some NameKind.local := by rfl) (hg : Gl X "any" := by rfl) (hs : ∀ v, genFold iter X.env v = pure v := by intro _; rfl)
    (he : starEach [.GeneratorExp elt [⟨tg, iter, [], 0⟩] scope gpos] X.env = (false, eval (.GeneratorExp elt [⟨tg, iter, [], 0⟩] scope gpos) X.env) :: starEach [] X.env := by rfl) :
    DE X S W (.Call (.Name "any" p) [.GeneratorExp elt [⟨tg, iter, [], 0⟩] scope gpos] [] pos) (eAny fi T fe (own.map (·.2))) :=
  peI (pe_anyG hr hg hm TB.tb hcode hco h0 hi ok hN hgt hel hs he) fun σ H Q ⟨O, h⟩ => ⟨O, (Run.bind h).mono fun ds H1 μ μ1 w0 f1 w1 h1 J it => by
    obtain ⟨Γ, μ2, w2, s2, g2⟩ := h1
    have t0 : GxR.TabG H1 P := w2.tabs _ TB.mem
    refine ⟨t0, fun H1' tb => ?_⟩
    obtain ⟨w3, f3⟩ := wd_tabbed w2 t0 tb TB.uni
    refine any_turns (fe := fe) (T := T) (is := is) (Γ := Γ) w3 (s2.fr w2 f3) (it.step (Stp.of f3 w2)) hiv ?_
    refine (good_nox (good_bind g2)).imp (fun b μ3 g3 H' f' w' => ?_) fun _ _ z => z
    have g3 : ∀ H', Fr S H1 H' → Wd X.K S O H' μ3 → ∀ v, Rep X.K S (del H' O) v (.bl b) → Q v H' := g3
    exact g3 H' (f3.trans f') w' _ (.bl b)⟩
end
end Dd
namespace Dd
open PySem PySem.Spec L2

/-! ### the shared cells: read, written -/
section
variable {K : PySem.W.Frag} {S : Sg} {O : Addr → Prop} {H : Hp} {μ : List D}
theorem Wd.cellSet (w : Wd K S O H μ) (nd : S.ρ.Nodup) {j : Nat} {a : Addr} {o' : HO} {c d' : D} (hj : S.ρ[j]? = some a) (hc : μ[j]? = some c) (hn : CellIs K S (del (upd H a o') O) (upd H a o') a d') : Wd K S O (upd H a o') (μ.set j d') ∧ Fr S H (upd H a o') := by
  obtain ⟨a', ha', hci⟩ := w.amb j c hc
  rw [hj] at ha'
  cases ha'
  obtain ⟨o, ho, hm⟩ := hci.there
  have ha : a ∈ S.ρ := List.mem_of_getElem? hj
  have hO : O a := w.rho a ha
  refine ⟨⟨w.tabs.write ho hm, fun b h e => ?_, fun b h => ?_, w.rho, by rw [List.length_set]; exact w.len, fun i e hi => ?_⟩, ⟨fun b u e n _ => by rw [upd_ne (fun z => n (by rw [z]; exact ha))]; exact e, upd_dom⟩⟩
  · exact upd_dom b (w.hid b h) e
  · by_cases q : b = a
    · exact ⟨o', by rw [q, upd_same], hn.mut_at upd_same⟩
    · obtain ⟨u, e, k⟩ := w.hm b h
      exact ⟨u, by rw [upd_ne q]; exact e, k⟩
  · by_cases h : j = i
    · subst h
      rw [List.getElem?_set_self (List.getElem?_eq_some_iff.mp hc).1] at hi
      cases hi
      exact ⟨a, hj, hn⟩
    · rw [List.getElem?_set_ne h] at hi
      obtain ⟨b, hb, hcb⟩ := w.amb i e hi
      refine ⟨b, hb, hcb.mono (keep_write hO) (upd_ne fun z => h ?_)⟩
      subst z
      exact (List.getElem?_inj (List.getElem?_eq_some_iff.mp hj).1 nd).mp (hj.trans hb.symm)
def cellIx (x y : D) : M D := fun μ => match x, y with
  | .cell j, .int i => match μ[j]? with
    | some (.lst xs) => match atI xs i with
      | some d => .ok d μ
      | none => .bad
    | _ => .bad
  | _, _ => .bad
def eCIx (f g : E) : E := fun Γ => M.bind (f Γ) fun x => M.bind (g Γ) fun y => cellIx x y
theorem good_cellIx {x y : D} {A : D → List D → Prop} {B : Nat → List D → Prop} (h : Good (cellIx x y μ) A B) : ∃ j i xs d, x = .cell j ∧ y = .int i ∧ μ[j]? = some (.lst xs) ∧ atI xs i = some d ∧ A d μ := by
  unfold cellIx at h
  split at h
  · split at h
    · split at h
      · exact ⟨_, _, _, _, rfl, rfl, by assumption, by assumption, h⟩
      · exact False.elim h
    · exact False.elim h
  · exact False.elim h
end
section
variable {X : Cx} {S : Sg} {W : XK} {a b : Expr} {f g : E} {pos : Pos}
theorem de_cix (ha : DE X S W a f) (hb : DE X S W b g) (hs : PlainIx b := by exact fun _ _ => rfl) : DE X S W (.Subscript a b pos) (eCIx f g) :=
  peI (pe_ix ix_seq ha hb hs) fun σ H Q ⟨O, h⟩ => ⟨O, (Run.bind h).mono fun x H1 μ μ1 w0 f1 w1 h1 v rv => ⟨O, (Run.bind h1).mono fun y H2 _ μ2 _ f2 w2 h2 u ru => by
    obtain ⟨Γ, μ3, w3, s3, g3⟩ := h2
    obtain ⟨j, i, xs, d, rfl, rfl, e1, e2, q⟩ := good_cellIx g3
    have rv2 := w1.rep f2 rv
    cases ru
    cases rv2 with | cell hj =>
    obtain ⟨a', ha', vs, hl, hle, hr⟩ := w3.amb j _ e1
    rw [hj] at ha'
    cases ha'
    obtain ⟨z, hz, rz⟩ := atI_rep hr e2
    exact .inl ⟨_, _, _, z, rfl, rfl, .inl (.inl hl), hz, q H2 (Fr.refl _ _) w3 z rz⟩⟩⟩
def cellSet (x y d : D) : M Unit := fun μ => match x, y with
  | .cell j, .int i => match μ[j]? with
    | some (.lst xs) => match ixN xs.length i with
      | some k => .ok () (μ.set j (.lst (xs.set k d)))
      | none => .bad
    | _ => .bad
  | _, _ => .bad
theorem good_cellSet {x y d : D} {μ : List D} {A : Unit → List D → Prop} {B : Nat → List D → Prop} (h : Good (cellSet x y d μ) A B) : ∃ j i xs k, x = .cell j ∧ y = .int i ∧ μ[j]? = some (.lst xs) ∧ ixN xs.length i = some k ∧ A () (μ.set j (.lst (xs.set k d))) := by
  unfold cellSet at h
  split at h
  · split at h
    · split at h
      · exact ⟨_, _, _, _, rfl, rfl, by assumption, by assumption, h⟩
      · exact False.elim h
    · exact False.elim h
  · exact False.elim h
/-- dice[i] = e -/
def sCSet (ff fg fe : E) : SF := fun Γ => M.bind (fe Γ) fun d => M.bind (ff Γ) fun x => M.bind (fg Γ) fun y => M.bind (cellSet x y d) fun _ => M.pure (.nx Γ)
theorem ds_cset {e : Expr} {fe : E} {tpos : Pos} (nd : S.ρ.Nodup) (ha : DE X S W a f) (hb : DE X S W b g) (he : DE X S W e fe)
    (has : ∀ v, assign (.Subscript a b tpos) X.env v = (do
      let ov ← holding [v] (eval a X.env)
      let iv ← holding [v, ov] (eval b X.env)
      standAt tpos
      holding [v, ov, iv] (setItem ov iv v)
      release [v, ov, iv] []) := by intro _; rfl)
    (hs : swapsWithSole [.Subscript a b tpos] e pos.line X.env = pure false := by rfl) (hw : swappedStores [.Subscript a b tpos] e X.env = pure none := by rfl)
    (h1 : (assignEach [.Subscript a b tpos] X.env).map (·.2) = [assign (.Subscript a b tpos) X.env] := by rfl) : DS X S W (.Assign [.Subscript a b tpos] e pos) (sCSet f g fe) :=
  psI (ps_asg he (pg_sub ha hb set_list has) hs hw h1) fun Z σ H ⟨H0, O0, O, Γ, μ, m, gd⟩ => ⟨O, (st_run m gd).mono fun d H1 _ _ w f' w' ⟨μ1, f1, m1, g1⟩ v rv =>
    ⟨O, (st_run m1 g1).mono fun x H2 _ _ w2 f2' w2' ⟨μ2, f2, m2, g2⟩ u ru => ⟨O, (st_run m2 g2).mono fun y H3 _ _ w3 f3' w3' ⟨μ3, f3, m3, g3⟩ i ri => by
      obtain ⟨j, k, xs, n, rfl, rfl, e1, e2, q⟩ := good_cellSet (good_bind g3)
      have ru3 := m2.wd.rep f3 ru
      have rv3 := (m1.wd.rep f2 rv)
      have rv4 := m2.wd.rep f3 rv3
      cases ri
      cases ru3 with | cell hj =>
      obtain ⟨a', ha', vs, hl, hle, hr⟩ := m3.wd.amb j _ e1
      rw [hj] at ha'
      cases ha'
      have hO : O _ := m3.wd.rho _ (List.mem_of_getElem? hj)
      obtain ⟨w4, f4⟩ := m3.wd.cellSet nd hj e1 (o' := .lst (vs.set n v)) (d' := .lst (xs.set n d)) ⟨_, upd_same, by rw [List.length_set]; exact hle, (Reps.set rv4 n hr).mono (keep_write hO)⟩
      exact ⟨_, vs, k, n, rfl, rfl, hl, by rw [hr.length]; exact e2, q _ _ O (m3.go f4 w4) (Stp.of (((f1.trans f2).trans f3).trans f4) w)⟩⟩⟩⟩
end
end Dd
namespace Dd
open PySem PySem.Spec L2 PyProof.Rows
open LamX (CodeO LamS lamEnv lamCx)

/-! ### lambdas -/
section
variable {X : Cx} {pins : List (Addr × Obj)} {σ : L2.St} {H : Hp} {s : Shared}
theorem frs_old (I : Inv X pins σ H s) {f : Addr} (hf : s.heap.objs.size ≤ f) : f ∉ frs X.stack := fun z =>
  (List.mem_cons.mp (I.stkSub _ z)).elim (fun e => absurd (Nat.lt_of_lt_of_le I.lt hf) (by rw [e]; exact Nat.lt_irrefl _)) (I.nofs hf)
/-- what the table may have become -/
def TblTo (q : Str) (P c' : Addr) (ps : Array Value) (H H1 : Hp) : Prop := (H1 = H ∧ ∃ pos, codeAmong pos ps.toList = some (.ref c')) ∨
  ∃ more : Array Value, H1 = upd (upd H P (.tbl (ps ++ more))) c' (CodeO c' q) ∧ H c' = none ∧ TriplesOk (ps ++ more).toList ∧ ∀ pos cv, codeAmong pos (ps ++ more).toList = some cv → codeAmong pos ps.toList = some cv ∨ cv = .ref c'
theorem lam_mk {c P : Addr} {ps : Array Value} {params : Arguments} {body : Expr} {scope : Scope} {pos : Pos} {E : Value → Shared → Prop} {Q : Value → Shared → Prop} (I : Inv X pins σ H s) (cd : PySem.W.CodeHd X.base c P) (bm : X.base.BuiltinsAt X.mg P) (gP : mainGlobals ≠ P) (hcode : X.env.code = .ref c)
    (hP : H P = some (.tbl ps)) (ht : TriplesOk ps.toList) (ha : ∀ pos cv, codeAmong pos ps.toList = some cv → ∃ c, cv = .ref c ∧ H c = some (CodeO c (X.env.qual ++ "<lambda>"))) (hdef : defaultsOf params X.env = ([], [])) (hfree : ∀ y ∈ scope.names, y.2 = .free → ∃ c, X.env.cells.lookup y.1 = some c)
    (h : ∀ (f c' : Addr) (pm ctv : Value) (H1 : Hp) (s' : Shared), Inv X pins σ H1 s' → TblTo (X.env.qual ++ "<lambda>") P c' ps H H1 → s.heap.objs.size ≤ f → f ≠ c' →
      s'.heap.get? f = some (PySem.W.kla_obj "<lambda>" (X.env.qual ++ "<lambda>") params body scope (cloFrom X.env.cells scope.names []) pm c' ctv) → H1 f = none → H1 c' = some (CodeO c' (X.env.qual ++ "<lambda>")) → Q (.ref f) s') :
    wpAny (model X.prog X.w) X.A (eval (.Lambda params body scope pos) X.env) Q E s := by
  have hPs : s.heap.get? P = some { cls := .none, data := .fields ps } := I.hok P _ hP
  have hPl := Heap.lt_size hPs
  refine PySem.W.kla_eval hdef ?_
  cases hc : codeAmong pos ps.toList with
  | some cv =>
    obtain ⟨c', rfl, hco⟩ := ha pos cv hc
    have hcl : c' < s.heap.objs.size := I.hok.lt hco
    exact PySem.W.kla_makeFunctionHit (mg := X.mg) (c := c) (P := P) (ps := ps) (closure_ok hfree) I.ok.glob (I.mod.glob.keeps I.bk) hcode (cd.keeps I.bk) hPs ht hc (bm.keeps I.bk) fun ctv h' tk kp le =>
      h h'.objs.size c' _ ctv H _ (I.kept (t' := tk) fun b o e => Heap.get?_push_of_some _ (kp b o e)) (.inl ⟨rfl, pos, hc⟩) le (Nat.ne_of_gt (Nat.lt_of_lt_of_le hcl le)) (Heap.get?_push_size _ rfl) (I.hok.fresh le) hco
  | none =>
    refine PySem.W.kla_makeFunction (mg := X.mg) (c := c) (P := P) (ps := ps) (closure_ok hfree) I.ok.glob (I.mod.glob.keeps I.bk) hcode (cd.keeps I.bk) hPs ht hc gP (bm.keeps I.bk) fun c' ctv h' tk kp le lt cr tb => ?_
    obtain ⟨c2, oc, us, t, e2, e3, e4, e5⟩ := cr
    cases e2
    have le2 : s.heap.objs.size ≤ h'.objs.size := Nat.le_of_lt (Nat.lt_of_le_of_lt le lt)
    have J := LamX.inv_table (q := X.env.qual ++ "<lambda>") (t' := tk) (more := #[rawInt pos.line, rawInt pos.col, .ref c']) (h' := h'.push (PySem.W.kla_obj "<lambda>" (X.env.qual ++ "<lambda>") params body scope (cloFrom X.env.cells scope.names []) ((X.mg "__name__").getD .none) c' ctv)) I hP
      (fun b o n e => Heap.get?_push_of_some _ (kp b o n e)) (Heap.get?_push_of_some _ tb) le ⟨oc, us, t, Heap.get?_push_of_some _ e3, e4, e5⟩
    have lst : (ps ++ #[rawInt pos.line, rawInt pos.col, Value.ref c']).toList = ps.toList ++ [rawInt pos.line, rawInt pos.col, .ref c'] := by simp
    refine h h'.objs.size c' _ ctv _ _ J (.inr ⟨_, rfl, I.hok.fresh le, by rw [lst]; exact PySem.TriplesOk_snoc _ _ _ _ ht, fun p cv hcv => ?_⟩) le2 (Nat.ne_of_gt lt) (Heap.get?_push_size _ rfl) ?_ upd_same
    · rw [lst] at hcv
      exact LamX.among_app _ ht hcv
    · rw [upd_ne (Nat.ne_of_gt lt), upd_ne (Nat.ne_of_gt (Nat.lt_of_lt_of_le hPl le2))]
      exact I.hok.fresh le2
/-- a new thing of ours is tracked from now on, by what is true of its object -/
theorem Inv.track {f : Addr} {φ : Heap → Prop} (I : Inv X pins σ H s) (hn : H f = none) (hs : X.s_0.heap.objs.size ≤ f) (hfr : f ∉ frs X.stack) (hl : f ≠ X.env.locals) (hcl : ∀ x c, X.env.cells.lookup x = some c → c ≠ f) (hpn : ∀ p ∈ X.pn ++ pins, p.1 ≠ f)
    (hφ : φ s.heap) (ho : ∃ o, s.heap.get? f = some o) (st : ∀ h1 h2 : Heap, φ h1 → (∀ o, h1.get? f = some o → h2.get? f = some o) → φ h2) : Inv X pins σ (upd H f (.ext φ)) s := by
  have out : ∀ b o, X.s_0.heap.get? b = some o → b ≠ f := fun b o e => Nat.ne_of_lt (Nat.lt_of_lt_of_le (Heap.lt_size e) hs)
  have ne : ∀ b u, H b = some u → b ≠ f := fun b u e => ne_of_none e hn
  refine ⟨I.ok, I.os, I.bare, ⟨I.base.keep, I.base.slot, fun b o e n x => ?_, I.base.there, fun b xs e => ?_, fun b o u e => ?_, fun b ps e => ?_⟩, I.loc, I.cell, ?_, fun x c e => ?_, fun p hp => ?_, fun b u e => ?_, I.len⟩
  · rw [upd_ne (out b o e)]
    exact I.base.free b o e n x
  · have q := I.base.tups b xs e
    rw [upd_ne (ne _ _ q)]
    exact q
  · have q := I.base.frzs b o u e
    rw [upd_ne (ne _ _ q)]
    exact q
  · obtain ⟨more, q⟩ := I.base.tbls b ps e
    exact ⟨more, by rw [upd_ne (ne _ _ q)]; exact q⟩
  · rw [upd_ne (Ne.symm hl)]
    exact I.free
  · rw [upd_ne (hcl x c e)]
    exact I.freeC x c e
  · obtain ⟨q1, q2, q3⟩ := I.pin p hp
    exact ⟨q1, by rw [upd_ne (hpn p hp)]; exact q2, q3⟩
  · by_cases z : b = f
    · rw [z, upd_same] at e
      cases e
      rw [z]
      exact ⟨hφ, ho, st⟩
    · rw [upd_ne z] at e
      exact (I.hok b u e).stay (fun _ _ _ q => q) (fun c q => by rw [upd_ne (ne _ _ q)]; exact q) fun c xs q => by rw [upd_ne (ne _ _ q)]; exact q
end
end Dd
namespace Dd
open PySem PySem.Spec L2 PyProof.Rows
open LamX (CodeO LamS lamEnv lamCx)

/-- a lambda's own object -/
def LamHO (params : Arguments) (body : Expr) (scope : Scope) (q : Str) (cl : List (Str × Addr)) (f c' : Addr) : HO := .ext fun h => ∃ pm ctv, h.get? f = some (PySem.W.kla_obj "<lambda>" q params body scope cl pm c' ctv)
theorem nt_lamHO {params : Arguments} {body : Expr} {scope : Scope} {q : Str} {cl : List (Str × Addr)} {f c' : Addr} : NT (LamHO params body scope q cl f c') := fun ps z => by
  unfold LamHO at z
  cases z
structure LamE where
  params : Arguments
  body : Expr
  scope : Scope
  sem : E
def lamOf (ls : List LamE) (q : Str) (cells : List (Str × Addr)) : Nat → Addr → Addr → HO := fun i f c => match ls[i]? with
  | some l => LamHO l.params l.body l.scope q (cloFrom cells l.scope.names []) f c
  | none => .lst []
/-- a code's table serves lambdas -/
structure TbL (base : Heap) (mg : Str → Option Value) (S : Sg) (c P : Addr) : Prop where
  cd : PySem.W.CodeHd base c P
  bm : base.BuiltinsAt mg P
  gP : mainGlobals ≠ P
  mem : (P, some S.lamQ) ∈ S.T
  uni : ∀ p ∈ S.T, p.1 = P → p.2 = some S.lamQ
def LamOk (X : Cx) (S : Sg) (k : Nat) (l : LamE) : Prop := LamS X.env.scope l.scope ∧ (∀ (q : Str) (cl : List (Str × Addr)) (pm cv ctv : Value), bindArgs (PySem.W.kla_fn "<lambda>" q l.params l.body l.scope cl pm cv ctv) ⟨[], []⟩ = pure []) ∧
  ∀ (A : Around) (outer : List PySem.Env) (s : Shared) (H : Hp) (E : XK) (f c' : Addr), Room k (A.deeper (lamEnv X l.scope s.heap.objs.size f c')) → DE (lamCx X A outer s H E l.scope f c') S E l.body l.sem
structure LamsIn (X : Cx) (S : Sg) (k : Nat) (ls : List LamE) : Prop where
  o : S.lamO = lamOf ls (X.env.qual ++ "<lambda>") X.env.cells
  q : S.lamQ = X.env.qual ++ "<lambda>"
  ok : ∀ (i : Nat) (l : LamE), ls[i]? = some l → LamOk X S k l
theorem wd_tbl {K : PySem.W.Frag} {S : Sg} {O : Addr → Prop} {H H1 : Hp} {μ : List D} {P c' : Addr} {ps : Array Value} (w : Wd K S O H μ) (hP : H P = some (.tbl ps)) (t : TblTo S.lamQ P c' ps H H1) (ha : ∀ pos cv, codeAmong pos ps.toList = some cv → ∃ c, cv = .ref c ∧ H c = some (CodeO c S.lamQ))
    (hu : ∀ p ∈ S.T, p.1 = P → p.2 = some S.lamQ) : Wd K S O H1 μ ∧ Fr S H H1 := by
  rcases t with ⟨rfl, _⟩ | ⟨more, rfl, nc, ht, hc⟩
  · exact ⟨w, Fr.refl _ _⟩
  have nP : ∀ b u, H b = some u → NT u → b ≠ P := fun b u e n z => by
    rw [z, hP] at e
    cases e
    exact n ps rfl
  have nc' : ∀ b u, H b = some u → b ≠ c' := fun b u e => ne_of_none e nc
  have cP : P ≠ c' := nc' P _ hP
  have kp : ∀ b u, H b = some u → NT u → upd (upd H P (.tbl (ps ++ more))) c' (CodeO c' S.lamQ) b = some u := fun b u e n => by
    rw [upd_ne (nc' b u e), upd_ne (nP b u e n)]
    exact e
  have fr : Fr S H (upd (upd H P (.tbl (ps ++ more))) c' (CodeO c' S.lamQ)) := ⟨fun b o e _ n => kp b o e n, fun b h => upd_dom b (upd_dom b h)⟩
  refine ⟨⟨fun p hp => ?_, fun a h => fr.dom a (w.hid a h), fun a h => (let ⟨o, e, m⟩ := w.hm a h; ⟨o, kp a o e (mutK_nt m), m⟩), w.rho, w.len, fun j c e => ?_⟩, fr⟩
  · have q := w.tabs p hp
    by_cases z : p.1 = P
    · rw [hu p hp z, z]
      refine ⟨ps ++ more, by rw [upd_ne cP, upd_same], ht, fun pos cv hcv => ?_⟩
      rcases hc pos cv hcv with h | h
      · obtain ⟨c, e1, e2⟩ := ha pos cv h
        exact ⟨c, e1, kp c _ e2 nt_code⟩
      · exact ⟨c', h, upd_same⟩
    · cases h : p.2 with
      | none =>
        rw [h] at q
        obtain ⟨ps', e, h2⟩ := q
        exact ⟨ps', by rw [upd_ne (nc' _ _ e), upd_ne z]; exact e, h2⟩
      | some s =>
        rw [h] at q
        obtain ⟨ps', e, h2, h3⟩ := q
        refine ⟨ps', by rw [upd_ne (nc' _ _ e), upd_ne z]; exact e, h2, fun pos cv hcv => ?_⟩
        obtain ⟨c, e1, e2⟩ := h3 pos cv hcv
        exact ⟨c, e1, kp c _ e2 nt_code⟩
  · obtain ⟨a, h1, h2⟩ := w.amb j c e
    obtain ⟨o, ho, hm⟩ := h2.there
    exact ⟨a, h1, h2.mono (w.keep fr) ((kp a o ho (mutK_nt hm)).trans ho.symm)⟩
section
variable {X : Cx} {S : Sg} {W : XK}
theorem de_lam {k : Nat} {ls : List LamE} (i : Nat) {c P : Addr} {params : Arguments} {body : Expr} {scope : Scope} {sem : E} {pos : Pos} (L : LamsIn X S k ls) (TB : TbL X.base X.mg S c P) (hl : ls[i]? = some ⟨params, body, scope, sem⟩) (hdef : defaultsOf params X.env = ([], []) := by rfl) (hcode : X.env.code = .ref c := by rfl) :
    DE X S W (.Lambda params body scope pos) (eC (.lam i)) := ⟨fun pins s σ H Q I ⟨O, Γ, μ, w, sl, g⟩ => by
  obtain ⟨ps, hP, ht, ha⟩ := w.tabs _ TB.mem
  have ha' := ha
  rw [L.q] at ha
  obtain ⟨l1, l2, l3⟩ := L.ok i _ hl
  refine lam_mk I TB.cd TB.bm TB.gP hcode hP ht ha hdef (l1.has I.ok) fun f c' pm ctv H1 s' I1 tt hf hne hget hnf hco => ?_
  rw [← L.q] at tt hco
  obtain ⟨w1, f1⟩ := wd_tbl w hP tt ha' TB.uni
  have e : S.lamO i f c' = LamHO params body scope (X.env.qual ++ "<lambda>") (cloFrom X.env.cells scope.names []) f c' := by
    rw [L.o]
    unfold lamOf
    rw [hl]
  have old : ∀ b (o : Obj), s.heap.get? b = some o → b ≠ f := fun b o e => Nat.ne_of_lt (Nat.lt_of_lt_of_le (Heap.lt_size e) hf)
  have I2 : Inv X pins σ (upd H1 f (LamHO params body scope (X.env.qual ++ "<lambda>") (cloFrom X.env.cells scope.names []) f c')) s' := Dd.Inv.track I1 hnf (Nat.le_trans I.sz hf) (frs_old I hf) (Nat.ne_of_gt (Nat.lt_of_lt_of_le I.lt hf))
    (fun x c e => (let ⟨v, o, ho, _⟩ := I.cell x c e; old c o ho)) (fun p hp => old _ _ (I.pin p hp).1) ⟨pm, ctv, hget⟩ ⟨_, hget⟩ fun h1 h2 ⟨pm, ctv, q⟩ k => ⟨pm, ctv, k _ q⟩
  refine ⟨.ref f, _, I2, rfl, g _ (f1.trans (Fr.add hnf)) (w1.add hnf) _ (.lam (c := c') ?_ ?_ ?_)⟩
  · rw [del_out (w1.fresh hnf), upd_same, e]
  · rw [e]
    exact nt_lamHO
  · have nO : ¬ O c' := fun z => by
      obtain ⟨o, e, m⟩ := w1.hm c' z
      rw [hco] at e
      cases e
      cases m
    rw [del_out nO, upd_ne (Ne.symm hne)]
    exact hco⟩

/-! ### told(f): f() is called, some exceptions are told as a text -/
def eTold (cs : List Nat) (ret : Str) (fb : E) : E := fun Γ μ => match fb Γ μ with
  | .ok d μ' => .ok d μ'
  | .exc c μ' => if c ∈ cs then .ok (.str ret) μ' else .bad
  | .bad => .bad
def lamSem (ls : List LamE) : D → E
  | .lam i => match ls[i]? with
    | some l => l.sem
    | none => fun _ => M.bad
  | _ => fun _ => M.bad
/-- the def that tells -/
structure Told (P : Program) (K : PySem.W.Frag) (mg : Str → Option Value) (S : Sg) (x ret : Str) (cs : List Nat) (st : Stmt) (g : Addr) : Prop where
  gl : mg x = some (.ref g)
  fu : ∃ fd, Fun K x x st g fd ∧ Binds K fd ["what"] []
  bd : ∃ (e : Str) (CS : Addr) (j : Nat) (p1 p2 p3 p4 p5 p6 p7 p8 : Pos), defBody st = [.Try [.Return (some (.Call (.Name "what" p1) [] [] p2)) p3] [.ExceptHandler (some (.Name e p4)) none [.Return (some (.Constant (.str ret) j p5)) p6] p7] [] [] p8] ∧
    (defScope st).names.lookup e = some .globalImplicit ∧ mg e = some (.ref CS) ∧ (e == ("__debug__" : Str)) = false ∧ ∀ c ∈ cs, PySem.W.exmOne K (.ref (S.EX c)) (.ref CS) = some true
  sc : FnScope ["what"] ["what"] (defScope st)
  vis : Vis (defScope st) "what"
  ok : ret.length ≤ sizeLine ∧ PyData.strOk ret = true
theorem act_lam {CXg : CXT} {Eg : XK} {Ng : List Str} {qg : Str} {sg : Scope} {g f c' : Addr} {cdg : Value} {params : Arguments} {body : Expr} {scope : Scope} {k i : Nat} {a : Str} {pn : List (Addr × Obj)} {xe : Value → Shared → Prop} {Wx : WX} {E : XK} {tb : TE} {p1 p2 : Pos} {pins : List (Addr × Obj)} {σ : L2.St} {H : Hp} {s : Shared}
    (I : Inv X pins σ H s) (L : LamS X.env.scope scope) (hb : ∀ (q : Str) (cl : List (Str × Addr)) (pm cv ctv : Value), bindArgs (PySem.W.kla_fn "<lambda>" q params body scope cl pm cv ctv) ⟨[], []⟩ = pure [])
    (tk : Takes ((cxOf CXg X.prog X.w X.K X.mg X.base Ng qg sg g cdg X.A X.stack s H Eg).tr pn xe) Wx) (hW : ∀ cls d σ' H', E cls d H' → Wx cls d σ' H') (hr : Room (k + 1) (X.A.deeper (envOfC qg sg s.heap.objs.size g cdg)))
    (hbody : ∀ (A : Around) (outer : List PySem.Env) (s : Shared) (H : Hp), Room k (A.deeper (lamEnv X scope s.heap.objs.size f c')) → PE (lamCx X A outer s H E scope f c') body tb)
    (hN : Ng[i]? = some a) (hv : Vis sg a) (hd : (a == ("__debug__" : Str)) = false) (hcd : (a == ("__classdict__" : Str)) = false) :
    PE ((cxOf CXg X.prog X.w X.K X.mg X.base Ng qg sg g cdg X.A X.stack s H Eg).tr pn xe) (.Call (.Name a p1) [] [] p2)
      (fun σZ HZ Q => σZ[i]? = some (some (.ref f)) ∧ HZ c' = some (CodeO c' (X.env.qual ++ "<lambda>")) ∧ HZ f = some (LamHO params body scope (X.env.qual ++ "<lambda>") (cloFrom X.env.cells scope.names []) f c') ∧ tb σ HZ Q) :=
  ⟨fun pinsZ sZ σZ HZ Q IZ ⟨hs, hc, hf, ht⟩ => by
    refine wpAny_Call_Name_kw (thn ((pe_var (pos := p1) (i := i) hN hv hd hcd).run pinsZ sZ σZ HZ (fun v H1 => v = .ref f ∧ H1 = HZ) IZ ⟨.ref f, hs, rfl, rfl⟩) fun u s1 ⟨v, H1, J, ru, ev, eH⟩ => ?_)
    cases ev
    cases eH
    cases ru
    obtain ⟨⟨pm, ctv, at1⟩, _⟩ := J.hok f _ hf
    obtain ⟨⟨oc, us, t, q1, q2, q3⟩, _⟩ := J.hok c' _ hc
    have call1 : codeAny (model X.prog X.w) (X.A.deeper (envOfC qg sg s.heap.objs.size g cdg)) (.call (.ref f) ⟨[], []⟩) (CR (L2.CX X.prog X.w) (envOfC qg sg s.heap.objs.size g cdg :: X.stack) X.prog X.w HZ s1 Q E) s1 := by
      refine PySem.W.kla_callFunE hr.depth at1 rfl L.co L.gen rfl ⟨c', oc, us, t, rfl, q1, q2, q3⟩ ?_
      rw [hb]
      refine wpAny_pure (wpAny_newFunctionEnv (fun y hy => (L.own y hy).2) (fun y hy => absurd hy (by simp)) (fun h₁ ns sb => ⟨J.nolimit.fresh _ sb, ?_⟩) L.kind)
      have start := LamX.lam_start2 (E := E) (f := f) (c' := c') (tk := s1.toks + ([] : List (Str × Value)).length) I L J.env0 hr.hd J.base ns fun b o e => sb.extBut b o (Nat.ne_of_lt (Heap.lt_size e)) (Heap.get?_push_of_some _ e)
      exact PySem.W.kla_codeExpr (wpAny_mono ((hbody _ _ s1 HZ (hr.deeper _)).run [] _ _ HZ Q start ht) (fun v s' ⟨x, H', J', rv, q⟩ => ⟨x, H', J'.os, J'.bare, J'.base, J'.hok, rv, q⟩) fun e s' hq => hq)
    refine PySem.W.callWith_F0 ⟨_, _, _, _, at1⟩ (wpAny_call (codeAny_mono call1 fun r s' hq => ?_))
    cases r with
    | error e => exact passes_call tk hW pinsZ σZ HZ s1 e s' J hq
    | ok fl =>
      cases fl with
      | ret u => exact J.after hq
      | next => exact False.elim hq
      | brk => exact False.elim hq
      | cont => exact False.elim hq⟩
/-- told(f), f a lambda of X's frame; X's frame stands at s -/
theorem told_run {k : Nat} {ls : List LamE} {x ret : Str} {cs : List Nat} {st : Stmt} {g f c' : Addr} {l : LamE} {i : Nat} {pins : List (Addr × Obj)} {σ : L2.St} {H : Hp} {s : Shared} {Q : VK} (T : Told X.prog X.K X.mg S x ret cs st g) (L : LamsIn X S k ls) (hr : Room (k + 2) X.A) (hl : ls[i]? = some l)
    (I : Inv X pins σ H s) (hf : H f = some (S.lamO i f c')) (hc : H c' = some (CodeO c' S.lamQ)) (h : tD X.K S W (eTold cs ret l.sem) σ H Q) :
    codeAny (model X.prog X.w) X.A (.call (.ref g) ⟨[.ref f], []⟩) (CR C8.CX0 X.stack X.prog X.w H s Q C8.E0) s := by
  obtain ⟨fd, Fu, b⟩ := T.fu
  obtain ⟨oc, od, kV, doc, pm, an, cdv, ct, osl, rfl, lk, hcd⟩ := Fu.ex
  obtain ⟨e, CS, j, p1, p2, p3, p4, p5, p6, p7, p8, hbd, he1, he2, he3, he4⟩ := T.bd
  obtain ⟨l1, l2, l3⟩ := L.ok i l hl
  rw [L.q] at hc
  have ef : S.lamO i f c' = LamHO l.params l.body l.scope (X.env.qual ++ "<lambda>") (cloFrom X.env.cells l.scope.names []) f c' := by
    rw [L.o]
    unfold lamOf
    rw [hl]
  rw [ef] at hf
  refine LamX.run_ofS (N := ["what"]) (ps := ["what"]) (us := [.ref f]) (vs := [.ref f]) lk hcd T.sc hr I.env0 (b s [.ref f] I.kIn rfl) (.cons rfl .nil) rfl fun hr' => ?_
  have gv := LamX.told_gives (X := X) (Ng := ["what"]) (x := x) (a := "what") (e := e) (q := X.env.qual ++ "<lambda>") (ret := ret) (sg := defScope st) (g := g) (CS := CS) (cdg := cdv) (j := j) (p1 := p1) (p2 := p2) (p3 := p3) (p4 := p4) (p5 := p5) (p6 := p6) (p7 := p7) (p8 := p8) he1 he2 he3 (fun _ => rfl)
  obtain ⟨t, ht, hq⟩ := gv f c' s H Q (fun E HZ Q => HZ f = some (LamHO l.params l.body l.scope (X.env.qual ++ "<lambda>") (cloFrom X.env.cells l.scope.names []) f c') ∧ tD X.K S E l.sem σ HZ Q)
    (fun W' pn xe E p1 p2 tk hW => act_lam (i := 0) I l1 l2 tk hW hr' (fun A outer s H hr2 => l3 A outer s H E f c' hr2) rfl T.vis (by decide) (by decide)) hc ⟨hf, by
      obtain ⟨O, Γ, μ, w, sl, gd⟩ := h
      refine ⟨O, Γ, μ, w, sl, ?_⟩
      unfold eTold at gd
      cases e : l.sem Γ μ with
      | ok d μ' => rw [e] at gd; exact gd
      | bad => rw [e] at gd; exact False.elim gd
      | exc c μ' =>
        rw [e] at gd
        by_cases hcs : c ∈ cs
        · simp only [hcs, if_true] at gd
          have gd : ∀ H', Fr S H H' → Wd X.K S O H' μ' → ∀ v, Rep X.K S (del H' O) v (.str ret) → Q v H' := gd
          exact fun H' f' w' => ⟨true, he4 c hcs, fun _ => gd H' f' w' _ (.str _ T.ok.1 T.ok.2), fun z => by cases z⟩
        · simp only [hcs, if_false] at gd
          exact False.elim gd⟩
  rw [← hbd] at ht
  exact ⟨t, ht.nox, hq⟩
end
end Dd
namespace Dd
open PySem PySem.Spec L2 PyProof.Rows
open LamX (CodeO LamS lamEnv lamCx)

section
variable {X : Cx} {S : Sg} {W : XK}
def eToldF (ls : List LamE) (cs : List Nat) (ret : Str) (ff : E) : E := fun Γ => M.bind (ff Γ) fun d => eTold cs ret (lamSem ls d) Γ
theorem lamSem_good {ls : List LamE} {cs : List Nat} {ret : Str} {d : D} {Γ : Env} {μ : List D} {A : D → List D → Prop} {B : Nat → List D → Prop} (h : Good (eTold cs ret (lamSem ls d) Γ μ) A B) : ∃ i l, d = .lam i ∧ ls[i]? = some l ∧ lamSem ls d = l.sem := by
  cases d with
  | lam i =>
    cases e : ls[i]? with
    | some l => exact ⟨i, l, rfl, e, by unfold lamSem; simp only [e]⟩
    | none =>
      unfold eTold lamSem at h
      simp only [e] at h
      exact False.elim h
  | _ => exact False.elim h
theorem de_told {k : Nat} {ls : List LamE} {x ret : Str} {cs : List Nat} {st : Stmt} {g : Addr} {a : Expr} {ff : E} {p pos : Pos} (T : Told X.prog X.K X.mg S x ret cs st g) (L : LamsIn X S k ls) (hr : Room (k + 2) X.A) (ha : DE X S W a ff) (hg : Gl X x := by rfl)
    (hdb : (x == ("__debug__" : Str)) = false := by decide) (he : starEach [a] X.env = (false, eval a X.env) :: starEach [] X.env := by rfl) (hpl : (backTo pos (starEach [] X.env)).any (·.1) = false := by rfl) :
    DE X S W (.Call (.Name x p) [a] [] pos) (eToldF ls cs ret ff) := ⟨fun pins s σ H Q I ⟨O, h⟩ => by
  obtain ⟨fd, Fu, b⟩ := id T.fu
  refine wpAny_Call_Name_kw (ld_glob I hg T.gl ?_ hdb)
  refine PySem.W.callWith_K (h₀ := X.base) I.ok.mod.kin Fu.kp (thn ((pa_cons ha pa_nil he).run pos pins s σ H (fun vs H1 => ∃ f c' i l, vs = [.ref f] ∧ ls[i]? = some l ∧ H1 f = some (S.lamO i f c') ∧ H1 c' = some (CodeO c' S.lamQ) ∧ tD X.K S W (eTold cs ret l.sem) σ H1 Q) I
      ⟨O, (Run.bind h).mono fun d H1 μ μ1 w0 f1 w1 h1 v rv => ?_⟩) fun us s1 ⟨vs, H1, I1, r1, f, c', i, l, ev, e1, e2, e3, q⟩ => ⟨I1.kIn, ?_⟩) he hpl
  · obtain ⟨Γ, μ2, w2, s2, g2⟩ := id h1
    obtain ⟨i, l, rfl, e1, e2⟩ := lamSem_good g2
    rw [e2] at h1
    cases rv with | lam q1 q2 q3 =>
    exact ⟨_, _, i, l, rfl, e1, seen q1, seen q3, O, h1⟩
  · subst ev
    obtain ⟨u, rfl⟩ : ∃ u, us = [u] := by
      cases r1 with
      | cons a b => cases b; exact ⟨_, rfl⟩
    have eu : u = Value.ref f := by
      cases r1 with
      | cons a b => exact a
    subst eu
    refine wpAny_call (codeAny_mono (told_run T L hr e1 I1 e2 e3 q) fun r s' hq => ?_)
    cases r with
    | error e => exact (show False from hq).elim
    | ok fl =>
      cases fl with
      | ret u => exact I1.after hq
      | next => exact False.elim hq
      | brk => exact False.elim hq
      | cont => exact False.elim hq⟩

/-! ### a comprehension whose test knows the frame around it -/
def tLcA (wi : TI) (g : TG) (tt : L2.St → TT) (te : TE) (vs : List Nat) : TE := fun σ H Q => wi σ H fun J H1 => ∀ Dn, H1 Dn = none → ∃ W : Nat → Nat → Hp → Prop, (∃ m, W 0 m (upd H1 Dn (.lst []))) ∧ ∀ i m H, W i m H →
  (J.stop i H ∧ Q (.ref Dn) H) ∨ (J.go i H ∧ ∃ Nx : Hp → Prop, (∀ H', Nx H' → ∃ m', m' < m ∧ W (i + 1) m' H') ∧ ∀ x H', J.yld i H x H' → g x (wipe σ vs) H' fun σ2 H2 => wipe σ2 vs = wipe σ vs ∧ tt σ σ2 H2 fun b H3 =>
    if b = true then te σ2 H3 fun y H4 => ∃ acc, H4 Dn = some (.lst acc) ∧ acc.length < sizeLine ∧ Nx (upd H4 Dn (.lst (acc ++ [y]))) else Nx H3)
theorem pe_lcA {elt tg iter : Expr} {ifs : List Expr} {scope : Scope} {own : List (Str × Nat)} {pos : Pos} {wi : TI} {g : TG} {tt : L2.St → TT} {te : TE} (hc : X.calm = true) (hN : X.N.Nodup) (hi : PI X tg iter wi) (ok : BlkOk X.N X.env.scope scope own)
    (hg : ∀ (s : Shared) (H : Hp) (C : Addr) (cl : List (Str × Addr)) (fp : List Addr), PG (X.blk s H scope (compEnvC scope cl C X.env) fp) tg g)
    (ht : ∀ (pins : List (Addr × Obj)) (σ : L2.St) (s : Shared) (H : Hp) (C : Addr) (cl : List (Str × Addr)) (fp : List Addr), Inv X pins σ H s → (∀ b ∈ fp, FpOk X pins H b) → PTs (X.blk s H scope (compEnvC scope cl C X.env) fp) ifs (tt σ))
    (he : ∀ (s : Shared) (H : Hp) (C : Addr) (cl : List (Str × Addr)) (fp : List Addr), PE (X.blk s H scope (compEnvC scope cl C X.env) fp) elt te) (hs : ∀ x, foldedSetIterable iter X.env x = pure x) :
    PE X (.ListComp elt [⟨tg, iter, ifs, 0⟩] scope pos) (tLcA wi g tt te (own.map (·.2))) := ⟨fun pins s σ H Q I h => by
  rw [eval_ListComp]
  refine wpAny_comprehension_free (use := none) rfl hs (closure_ok fun y hy e => (ok.free y hy e).elim (fun k => I.ok.has _ (.inl k)) fun k => I.ok.has _ (.inr k)) ok.kind (fun y hy e => by rw [ok.uniq y hy, e]) (thn (hi.run pins s σ H _ I h) fun xv sA hx => thn hx fun itv sB hB => ?_)
  obtain ⟨it, fp, tn, J, HB, rfl, IB, Tu, tnB, fB, cont⟩ := hB
  refine wpAny_newObj_type (newEnv_comp ?_) (by show 0 ≤ sizeLine; decide)
  have nD : HB sB.heap.objs.size = none := IB.hok.fresh (Nat.le_refl _)
  obtain ⟨Wt, ⟨mm, w00⟩, step⟩ := cont sB.heap.objs.size nD
  have fpl : ∀ b ∈ fp, b < sB.heap.objs.size := fun b hb => (let ⟨o, e, _⟩ := Tu.obj _ _ tnB b hb; Heap.lt_size e)
  -- the state that holds the new list
  obtain ⟨sC, hsC⟩ : ∃ sC : Shared, sC = { sB with heap := sB.heap.push { cls := .type "list", data := .seq ([] : List Value).toArray } } := ⟨_, rfl⟩
  obtain ⟨HC, hHC⟩ : ∃ HC, HC = upd HB sB.heap.objs.size (.lst []) := ⟨_, rfl⟩
  rw [← hHC] at w00
  have kC : ∀ b o, sB.heap.get? b = some o → sC.heap.get? b = some o := fun b o e => by rw [hsC]; exact Heap.get?_push_of_some _ e
  have IC : Inv X pins σ HC sC := by
    rw [hsC, hHC]
    exact IB.laid (t' := sB.toks) (fun b o e => Heap.get?_push_of_some _ e) (Nat.le_refl _) ⟨Nat.zero_le _, [], 0, .nil, Heap.get?_push_size _ rfl⟩
  have fC : ∀ b ∈ fp, FpOk X pins HC b := fun b hb => ⟨by rw [hHC, upd_ne (Nat.ne_of_lt (fpl b hb))]; exact (fB b hb).1, (fB b hb).2⟩
  have IK := block_start IC ok hN fun b hb => ⟨fC b hb, Nat.lt_of_lt_of_le (fpl b hb) (by rw [hsC, Heap.size_push]; exact Nat.le_succ _)⟩
  have tnC : tn 0 (pushCells (sC.heap.push { cls := .type "dict", data := .dict #[] }) scope.names) := Tu.keep _ _ _ tnB fun b _ o e => pushCells_keeps _ _ _ _ (Heap.get?_push_of_some _ (kC b o e))
  rw [← hsC]
  show codeAny _ _ (.compStart (.ListComp elt [⟨tg, iter, ifs, 0⟩] scope pos) 0 (.ref it) (.ref sB.heap.objs.size) (compEnvC scope (cellsFrom (sC.heap.objs.size + 1) scope.names (cloFrom X.env.cells scope.names [])) sC.heap.objs.size X.env)) (compPost (model X.prog X.w) X.A X.xe none _ (.ref sB.heap.objs.size) sC.heap.objs.size) { sC with heap := pushCells (sC.heap.push { cls := .type "dict", data := .dict #[] }) scope.names }
  have pG := hg sC HC sC.heap.objs.size (cellsFrom (sC.heap.objs.size + 1) scope.names (cloFrom X.env.cells scope.names [])) fp
  have pT := ht pins σ sC HC sC.heap.objs.size (cellsFrom (sC.heap.objs.size + 1) scope.names (cloFrom X.env.cells scope.names [])) fp IC fC
  have pE := he sC HC sC.heap.objs.size (cellsFrom (sC.heap.objs.size + 1) scope.names (cloFrom X.env.cells scope.names [])) fp
  obtain ⟨ce, hce⟩ : ∃ ce, ce = compEnvC scope (cellsFrom (sC.heap.objs.size + 1) scope.names (cloFrom X.env.cells scope.names [])) sC.heap.objs.size X.env := ⟨_, rfl⟩
  have ceL : ce.locals = sC.heap.objs.size := by rw [hce]; rfl
  rw [← hce] at IK pG pT pE ⊢
  have ready : ∀ {ps : List (Addr × Obj)} {σ' : L2.St} {H' : Hp} {s' : Shared}, ps = [] → Inv (X.blk sC HC scope ce fp) ps σ' H' s' → (∀ b ∈ fp, H' b = none) → ∀ b ∈ fp, FpOk (X.blk sC HC scope ce fp) ps H' b := fun {ps σ' H' s'} ep J' hn b hb =>
    ⟨hn b hb, (J'.ok.exf b hb).1, J'.ok.exfs b hb, .inl hb, (J'.ok.exf b hb).2, fun p hp => by rw [ep] at hp; exact absurd hp (by simp)⟩
  have main : codeAny (model X.prog X.w) X.A (.compLoop (.ListComp elt [⟨tg, iter, ifs, 0⟩] scope pos) 0 (.ref it) (.ref sB.heap.objs.size) ce) (compPost (model X.prog X.w) X.A X.xe none (EP X pins σ Q) (.ref sB.heap.objs.size) sC.heap.objs.size) { sC with heap := pushCells (sC.heap.push { cls := .type "dict", data := .dict #[] }) scope.names } := by
    refine compLoop_any (fun n s' => ∃ i H', Inv (X.blk sC HC scope ce fp) [] (wipe σ (own.map (·.2))) H' s' ∧ tn i s'.heap ∧ (∀ b ∈ fp, H' b = none) ∧ Wt i n H') (fun n sa ⟨i, Ha, Ja, ta, na, wa⟩ => ?_) mm ⟨0, HC, IK, tnC, fun b hb => (fC b hb).1, w00⟩
    rcases step i n Ha wa with ⟨stop, fin⟩ | ⟨go, Nx, hNx, turn⟩
    · refine thnF (Tu.done (X.blk sC HC scope ce fp) rfl rfl rfl hc i [] sa _ Ha _ Ja (ready rfl Ja na) ta stop) fun r sb ⟨er, Jb⟩ => ?_
      subst er
      have back : Inv X pins σ Ha sb := IC.call' (ch := fp) Jb.os Jb.base Jb.hok Jb.bare fun b hb => ⟨(fC b hb).2.2.2.1, (fC b hb).2.1, (fC b hb).2.2.2.2.1, (fC b hb).2.2.2.2.2⟩
      have nC : Ha sC.heap.objs.size = none := by
        rw [← ceL]
        exact Jb.free
      obtain ⟨m, ns, _⟩ := Jb.loc
      have ns : sb.heap.Ns ce.locals m := ns
      rw [ceL] at ns
      obtain ⟨c0, c1, c2, c3, c4, c5⟩ := IC.fpOk (Nat.le_refl _) nC
      exact ⟨m, ns, fun h'' same => ⟨.ref sB.heap.objs.size, Ha, back.turned (t' := sb.toks) (fun b o hb e => (same.2 b hb).trans e) c0 c1 c3 c4 c5, rfl, fin⟩⟩
    · refine thnF (Tu.item (X.blk sC HC scope ce fp) rfl rfl rfl hc i [] sa _ Ha _ Ja (ready rfl Ja na) ta go) fun r sb ⟨u, er, hb⟩ => ?_
      subst er
      refine thnF hb fun _ sd ⟨y, Hd, Jd, rd, yd, td, nd⟩ => ?_
      refine thnF (pG.run _ sd _ Hd y u _ (Jd.pinned (ready rfl Jd nd) (Tu.obj _ _ td)) rd (turn y Hd yd)) fun _ se ⟨σe, He, Je, we, qe⟩ => ?_
      refine thnF (pT.run _ se σe He _ Je qe) fun bb sf ⟨Hf, Jf, qf⟩ => ?_
      have close : ∀ {s' : Shared} {H' : Hp}, Inv (X.blk sC HC scope ce fp) ([] ++ pinsAt fp sd.heap) σe H' s' → Nx H' → ∃ m, m < n ∧ ∃ i H', Inv (X.blk sC HC scope ce fp) [] (wipe σ (own.map (·.2))) H' s' ∧ tn i s'.heap ∧ (∀ b ∈ fp, H' b = none) ∧ Wt i m H' := fun {s' H'} J' nx => by
        obtain ⟨m', lt, w'⟩ := hNx H' nx
        have pinned : ∀ b ∈ fp, ∀ o, sd.heap.get? b = some o → s'.heap.get? b = some o ∧ H' b = none := fun b hb o e => (let z := J'.pin (b, o) (List.mem_append_right _ (List.mem_append_right _ (mem_pinsAt hb e))); ⟨z.1, z.2.1⟩)
        refine ⟨m', lt, i + 1, H', Inv.weak (σ := σe) (J'.pins_of fun p hp => absurd hp (by simp)) (by rw [← we, wipe_length]) (fun j v e => (wipe_some (by rw [we]; exact e)).1), Tu.keep _ _ _ td fun b hb o e => (pinned b hb o e).1, fun b hb => (let ⟨o, e, _⟩ := Tu.obj _ _ td b hb; (pinned b hb o e).2), w'⟩
      cases bb with
      | false =>
        simp only [Bool.false_eq_true, if_false] at qf ⊢
        exact close Jf qf
      | true =>
        simp only [if_true] at qf ⊢
        exact thnF (pE.run _ sf σe Hf _ Jf qf) fun z sg ⟨yv, Hg, Jg, rg, acc, hDg, hzg, nx⟩ => app_ok (X := X.blk sC HC scope ce fp) Jg hDg hzg rg fun sh Jh => close Jh nx
  exact codeAny_compStart_list main (Tu.self X.A 0 _ _ _ tnC main)⟩
end
end Dd
namespace Dd
open PySem PySem.Spec L2 PyProof.Rows
open LamX (CodeO LamS lamEnv lamCx)

section
variable {X : Cx} {S : Sg} {W : XK}
theorem pe_toldB {k : Nat} {ls : List LamE} {x ret fx : Str} {cs : List Nat} {st : Stmt} {g C : Addr} {i : Nat} {scope : Scope} {cl : List (Str × Addr)} {fp : List Addr} {pins0 : List (Addr × Obj)} {σ0 : L2.St} {H0 : Hp} {s0 : Shared} {pc pf pcl : Pos} (T : Told X.prog X.K X.mg S x ret cs st g) (L : LamsIn X S k ls) (hr : Room (k + 2) X.A)
    (I0 : Inv X pins0 σ0 H0 s0) (hfp : ∀ b ∈ fp, FpOk X pins0 H0 b) (hN : X.N[i]? = some fx) (hv : Vis (X.blk s0 H0 scope (compEnvC scope cl C X.env) fp).env.scope fx) (hg : Gl (X.blk s0 H0 scope (compEnvC scope cl C X.env) fp) x) (hd : (fx == ("__debug__" : Str)) = false) (hcd : (fx == ("__classdict__" : Str)) = false)
    (hdb : (x == ("__debug__" : Str)) = false) (he : starEach [.Name fx pf] (X.blk s0 H0 scope (compEnvC scope cl C X.env) fp).env = (false, eval (.Name fx pf) (X.blk s0 H0 scope (compEnvC scope cl C X.env) fp).env) :: starEach [] (X.blk s0 H0 scope (compEnvC scope cl C X.env) fp).env)
    (hpl : (backTo pcl (starEach [] (X.blk s0 H0 scope (compEnvC scope cl C X.env) fp).env)).any (·.1) = false) :
    PE (X.blk s0 H0 scope (compEnvC scope cl C X.env) fp) (.Call (.Name x pc) [.Name fx pf] [] pcl) (fun σb H Q => ∃ f c' j l, σb[i]? = some (some (.ref f)) ∧ ls[j]? = some l ∧ H f = some (S.lamO j f c') ∧ H c' = some (CodeO c' S.lamQ) ∧ tD X.K S W (eTold cs ret l.sem) σ0 H Q) :=
  ⟨fun pins s σb H Q J ⟨f, c', j, l, e0, e1, e2, e3, q⟩ => by
    obtain ⟨fd, Fu, b⟩ := id T.fu
    refine wpAny_Call_Name_kw (ld_glob J hg T.gl ?_ hdb)
    refine PySem.W.callWith_K (h₀ := X.base) J.ok.mod.kin Fu.kp (thn ((pa_cons (X := X.blk s0 H0 scope (compEnvC scope cl C X.env) fp) (pe_var (X := X.blk s0 H0 scope (compEnvC scope cl C X.env) fp) (i := i) hN hv hd hcd) pa_nil he).run pcl pins s σb H (fun vs H1 => vs = [.ref f] ∧ H1 = H) J ⟨_, e0, rfl, rfl⟩) fun us s1 ⟨vs, H1, J1, r1, ev, eH⟩ => ⟨J1.kIn, ?_⟩) he hpl
    subst ev
    subst eH
    obtain ⟨u, rfl⟩ : ∃ u, us = [u] := by
      cases r1 with
      | cons a b => cases b; exact ⟨_, rfl⟩
    have eu : u = Value.ref f := by
      cases r1 with
      | cons a b => exact a
    subst eu
    have I1 : Inv X pins0 σ0 H1 s1 := I0.call' (ch := fp) J1.os J1.base J1.hok J1.bare fun b hb => ⟨(hfp b hb).2.2.2.1, (hfp b hb).2.1, (hfp b hb).2.2.2.2.1, (hfp b hb).2.2.2.2.2⟩
    refine wpAny_call (codeAny_mono (told_run (X := X) T L hr e1 I1 e2 e3 q) fun r s' hq => ?_)
    cases r with
    | error e => exact (show False from hq).elim
    | ok fl =>
      cases fl with
      | ret u => exact J1.after hq
      | next => exact False.elim hq
      | brk => exact False.elim hq
      | cont => exact False.elim hq⟩
def lcTF (ls : List LamE) (cs : List Nat) (ret ret' : Str) (Γ : Env) : List D → M (List D)
  | [] => M.pure []
  | d :: ds => M.bind (eTold cs ret (lamSem ls d) Γ) fun r => M.bind (M.opt (dNe r (.str ret'))) fun z => M.bind (M.opt (asB z)) fun b => if b = true then M.bind (lcTF ls cs ret ret' Γ ds) fun ys => M.pure (.int 1 :: ys) else lcTF ls cs ret ret' Γ ds
def eLcT (i : Nat) (fi : Env → M (List D)) (ls : List LamE) (cs : List Nat) (ret ret' : Str) : E := fun Γ => M.bind (fi Γ) fun ds => if i < Γ.length then M.bind (nox (lcTF ls cs ret ret' Γ ds)) fun ys => M.pure (.lst ys) else M.bad
theorem lcT_turns {K : PySem.W.Frag} {O : Addr → Prop} {σ : L2.St} {Γ : Env} {H1 : Hp} {μ : List D} {J : It} {ds : List D} {ls : List LamE} {cs : List Nat} {ret ret' : Str} {i0 : Nat} {r2 : R2} {Dn : Addr} {Q : VK} (hne : OpD K S r2 dNe) (hret : ret'.length ≤ sizeLine ∧ PyData.strOk ret' = true) (hD : H1 Dn = none) (hi0 : i0 < Γ.length) (w : Wd K S O H1 μ) (s : Sls K S O H1 σ Γ) (it : ItOk K S O H1 J ds)
    (g : Good (lcTF ls cs ret ret' Γ ds μ) (fun ys μ' => ∀ H', Fr S H1 H' → Wd K S O H' μ' → ∀ v, Rep K S (del H' O) v (.lst ys) → Q v H') (fun _ _ => False)) :
    ∃ Wt : Nat → Nat → Hp → Prop, (∃ m, Wt 0 m (upd H1 Dn (.lst []))) ∧ ∀ i m H, Wt i m H →
      (J.stop i H ∧ Q (.ref Dn) H) ∨ (J.go i H ∧ ∃ Nx : Hp → Prop, (∀ H', Nx H' → ∃ m', m' < m ∧ Wt (i + 1) m' H') ∧ ∀ x H', J.yld i H x H' → gName i0 x (wipe σ [i0]) H' fun σ2 H2 => wipe σ2 [i0] = wipe σ [i0] ∧
        tOp r2 (fun σb H Q => ∃ f c' j l, σb[i0]? = some (some (.ref f)) ∧ ls[j]? = some l ∧ H f = some (S.lamO j f c') ∧ H c' = some (CodeO c' S.lamQ) ∧ tD K S E0' (eTold cs ret l.sem) σ H Q) (tC (.str ret')) σ2 H2 fun v H3 => ∃ b, v = .bl b ∧
          if b = true then tC (.int 1) σ2 H3 fun y H4 => ∃ acc, H4 Dn = some (.lst acc) ∧ acc.length < sizeLine ∧ Nx (upd H4 Dn (.lst (acc ++ [y]))) else Nx H3) := by
  obtain ⟨Ob, s⟩ := s
  have hOD : ¬ O Dn := w.fresh hD
  have hlim := it.lim
  have nr : Dn ∉ S.ρ := fun z => hOD (w.rho _ z)
  have hO' : With O Dn Dn := .inr rfl
  refine ⟨fun i m H => m = ds.length - i ∧ i ≤ ds.length ∧ ∃ acc ysd μi, Stp O H1 (With O Dn) H ∧ Fr S H1 H ∧ Wd K S (With O Dn) H μi ∧ SlsB K S Ob (With O Dn) H σ Γ ∧ H Dn = some (.lst acc) ∧ acc.length ≤ i ∧ Reps K S (del H (With O Dn)) acc ysd ∧
      Good (lcTF ls cs ret ret' Γ (ds.drop i) μi) (fun ys μ' => ∀ H', Fr S H1 H' → Wd K S O H' μ' → ∀ v, Rep K S (del H' O) v (.lst (ysd ++ ys)) → Q v H') (fun _ _ => False),
    ⟨ds.length, by simp, Nat.zero_le _, [], [], μ, ⟨fun b o h n t => by rw [upd_ne (ne_of_none h hD)]; exact h, upd_dom, fun a h => .inl h, fun a h => h.elim .inl fun z => .inr (z ▸ hD)⟩, Fr.add hD, w.more hD, s.more hD, upd_same, Nat.le_refl _, .nil, g⟩, ?_⟩
  rintro i m H ⟨rfl, hi, acc, ysd, μi, st, fr, wi, si, ea, hacc, ra, gi⟩
  by_cases hlt : i < ds.length
  · obtain ⟨go, yl⟩ := it.go i H (With O Dn) μi st wi hlt
    refine .inr ⟨go, _, fun H' h => ⟨ds.length - (i + 1), by omega, h⟩, fun x H' hy => ?_⟩
    obtain ⟨f3, w3, d, ed, rd⟩ := yl x H' hy
    have edr : ds.drop i = d :: ds.drop (i + 1) := by
      obtain ⟨h1, h2⟩ := List.getElem?_eq_some_iff.mp ed
      rw [← h2]
      exact List.drop_eq_getElem_cons h1
    rw [edr] at gi
    unfold lcTF at gi
    have g1 := good_bind gi
    obtain ⟨j, l, rfl, e1, e2⟩ := lamSem_good g1
    rw [e2] at g1
    cases rd with | lam q1 q2 q3 =>
    have lenσ : i0 < (wipe σ [i0]).length := by rw [wipe_length, s.len]; exact hi0
    refine ⟨by rw [wipe_set (List.mem_singleton.mpr rfl), wipe_wipe], ?_⟩
    refine ⟨_, _, j, l, List.getElem?_set_self lenσ, e1, seen q1, seen q3, With O Dn, Γ, μi, w3, ⟨Ob, si.fr wi f3⟩, g1.imp (fun r μ5 g5 H5 f5 w5 v rv => ?_) (fun _ _ z => z.elim)⟩
    obtain ⟨z, ez, g6⟩ := good_opt g5
    obtain ⟨b, eb, g7⟩ := good_opt g6
    have fr5 := f3.trans f5
    refine hne (With O Dn) H5 μ5 r (.str ret') v _ z _ w5 rv (.str _ hret.1 hret.2) ez fun u H6 f6 w6 ru => ⟨b, asB_some eb ru, ?_⟩
    have f06 := fr5.trans f6
    have ea6 : H6 Dn = some (.lst acc) := f06.keep _ _ ea nr nt_lst
    have st6 := st.trans (Stp.of f06 wi)
    cases b with
    | false =>
      simp only [Bool.false_eq_true, if_false] at g7 ⊢
      exact ⟨by first | rfl | trivial, hlt, acc, ysd, μ5, st6, fr.trans f06, w6, si.fr wi f06, ea6, Nat.le_succ_of_le hacc, wi.reps f06 ra, g7⟩
    | true =>
      simp only [if_true] at g7 ⊢
      refine ⟨acc, ea6, by rw [sizeLine_def]; omega, by first | rfl | trivial, hlt, acc ++ [.int 1], ysd ++ [.int 1], μ5, ?_, ?_, w6.write hO' nr ea6 rfl, ?_, upd_same, by rw [List.length_append, List.length_singleton]; omega, ?_, ?_⟩
      · exact st6.trans ⟨fun b o h n t => by rw [upd_ne (fun z => n (by rw [z]; exact hO'))]; exact h, upd_dom, fun _ h => h, fun _ h => .inl h⟩
      · exact ⟨fun b o h n t => by rw [upd_ne (ne_of_none h hD)]; exact (fr.trans f06).keep b o h n t, fun b h => upd_dom b ((fr.trans f06).dom b h)⟩
      · have s6 := si.fr wi f06
        refine ⟨s6.len, s6.hb, fun j z e => ?_, s6.dis⟩
        have q := s6.at_ j z e
        cases z with
        | no => trivial
        | v dd => obtain ⟨x, e, r⟩ := q; exact ⟨x, e, r.mono (keep_write hO')⟩
        | o dd =>
          obtain ⟨a, e, h1, h2, c⟩ := q
          refine ⟨a, e, h1, h2, c.mono (keep_write hO') (upd_ne ?_)⟩
          rintro rfl
          obtain ⟨a', e', h1', _, c'⟩ := s.at_ j _ (by assumption)
          rw [e'] at e
          cases e
          exact hOD h1'
      · exact (Reps.append (wi.reps f06 ra) (.cons (.int 1) .nil)).mono (keep_write hO')
      · refine (good_bind g7).imp (fun ys μ7 g8 H' f' w' u ru => ?_) (fun _ _ z => z)
        refine g8 H' f' w' u ?_
        rw [List.append_assoc] at ru
        exact ru
  · have ei : i = ds.length := by omega
    subst ei
    refine .inl ⟨it.stop _ H (With O Dn) μi st wi (Nat.le_refl _), ?_⟩
    rw [List.drop_length] at gi
    have q : ∀ H', Fr S H1 H' → Wd K S O H' μi → ∀ v, Rep K S (del H' O) v (.lst (ysd ++ [])) → Q v H' := gi
    refine q H fr (wi.less (fun a h => .inl h) w.rho) _ ?_
    rw [List.append_nil]
    exact .lst (by rw [del_out hOD]; exact ea) (by rw [sizeLine_def]; omega) (reps_less (fun a h => .inl h) ra)
theorem de_lcT {k : Nat} {ls : List LamE} {x ret ret' fx : Str} {cs : List Nat} {st : Stmt} {g : Addr} (i : Nat) {iter : Expr} {scope : Scope} {j0 j2 : Nat} {px p0 pc pf pcl p2 p3 pos : Pos} {fi : Env → M (List D)} (T : Told X.prog X.K X.mg S x ret cs st g) (L : LamsIn X S k ls) (hr : Room (k + 2) X.A) (hc : X.calm = true) (hNd : X.N.Nodup)
    (hi : DI X S W (.Name fx px) iter fi) (hN : X.N[i]? = some fx) (ok : BlkOk X.N X.env.scope scope [(fx, i)]) (hret : ret'.length ≤ sizeLine ∧ PyData.strOk ret' = true)
    (hb : ∀ (s : Shared) (H : Hp) (C : Addr) (cl : List (Str × Addr)) (fp : List Addr), Loc (X.blk s H scope (compEnvC scope cl C X.env) fp).env.scope fx ∧ ((X.blk s H scope (compEnvC scope cl C X.env) fp).fn fx = true ∨ (X.blk s H scope (compEnvC scope cl C X.env) fp).env.scope.names.lookup fx = some .local) ∧ Vis (X.blk s H scope (compEnvC scope cl C X.env) fp).env.scope fx ∧ Gl (X.blk s H scope (compEnvC scope cl C X.env) fp) x ∧
      starEach [.Name fx pf] (X.blk s H scope (compEnvC scope cl C X.env) fp).env = (false, eval (.Name fx pf) (X.blk s H scope (compEnvC scope cl C X.env) fp).env) :: starEach [] (X.blk s H scope (compEnvC scope cl C X.env) fp).env ∧ (backTo pcl (starEach [] (X.blk s H scope (compEnvC scope cl C X.env) fp).env)).any (·.1) = false)
    (hd : (fx == ("__debug__" : Str)) = false := by decide) (hcd : (fx == ("__classdict__" : Str)) = false := by decide) (hdb : (x == ("__debug__" : Str)) = false := by decide) (hs : ∀ x, foldedSetIterable iter X.env x = pure x := by intro _; rfl) :
    DE X S W (.ListComp (.Constant (.int 1) j0 p0) [⟨.Name fx px, iter, [.Compare (.Call (.Name x pc) [.Name fx pf] [] pcl) [.NotEq] [.Constant (.str ret') j2 p2] p3], 0⟩] scope pos) (eLcT i fi ls cs ret ret') := by
  refine peI (pe_lcA (g := gName i) (te := tC (.int 1)) (tt := fun σ0 σ2 H Q => tOp (rNeD X.K) (fun σb H Q => ∃ f c' j l, σb[i]? = some (some (.ref f)) ∧ ls[j]? = some l ∧ H f = some (S.lamO j f c') ∧ H c' = some (CodeO c' S.lamQ) ∧ tD X.K S E0' (eTold cs ret l.sem) σ0 H Q) (tC (.str ret')) σ2 H fun v H3 => ∃ b, v = .bl b ∧ Q b H3) hc hNd hi ok
    (fun s H C cl fp => pg_name hNd hN (hb s H C cl fp).1 (hb s H C cl fp).2.1) (fun pins σ s H C cl fp I0 hfp => pts_one (pt_cmpR (X := X.blk s H scope (compEnvC scope cl C X.env) fp) (op_neD (X := X.blk s H scope (compEnvC scope cl C X.env) fp) hr.units) (pe_toldB (W := E0') T L hr I0 hfp hN (hb s H C cl fp).2.2.1 (hb s H C cl fp).2.2.2.1 hd hcd hdb (hb s H C cl fp).2.2.2.2.1 (hb s H C cl fp).2.2.2.2.2) pe_str rfl)) (fun s H C cl fp => pe_int) hs) fun σ H Q ⟨O, h⟩ => ⟨O, (Run.bind h).mono fun ds H1 μ μ1 w0 f1 w1 h1 J it Dn hD => ?_⟩
  obtain ⟨Γ, μ2, w2, s2, g2⟩ := h1
  have g2 : Good ((if i < Γ.length then M.bind (nox (lcTF ls cs ret ret' Γ ds)) (fun ys => M.pure (D.lst ys)) else M.bad) μ2) _ _ := g2
  obtain ⟨hl, g3⟩ := good_if g2
  refine lcT_turns hd_ne hret hD hl w2 s2 it ?_
  refine (good_nox (good_bind g3)).imp (fun ys μ3 g4 H' f' w' v rv => ?_) (fun _ _ z => z)
  exact g4 H' f' w' v rv
end
end Dd
namespace Dd
open PySem PySem.Spec L2 PyProof.Rows

/-! ### a law's frame: one round of dice, then the rest -/
abbrev Sg.dice (S : Sg) (a : Addr) : Sg := { S with ρ := [a] }
def diceF (F R : SF) : SF := fun Γ => M.bind (F Γ) fun r => match r with
  | .nx Γ2 => R Γ2
  | .ct Γ2 => R Γ2
  | _ => M.bad
def diceOk (n i : Nat) (F R : SF) (d : D) : Prop := Good (diceF F R ((nos n).set i (.v (.cell 0))) [d]) (fun o _ => o = .ret (.bl true)) (fun _ _ => False)
def tDice (K : PySem.W.Frag) (S : Sg) (n i : Nat) (fe : E) (F R : SF) : TS := fun Z σ H => σ.length = n ∧ i < n ∧ (∀ H', Z.rt (.bl true) H') ∧ ∃ O Γ, Wd K S O H [] ∧ Sls K S O H σ Γ ∧ Good (fe Γ []) (fun d μ1 => μ1 = [] ∧ ∃ x y z : Int, d = .lst [.lst [.int x, .int y, .int z]] ∧ diceOk n i F R (.lst [.int x, .int y, .int z])) (fun _ _ => False)
theorem nos_get {n i : Nat} {s : Sl} (h : (nos n)[i]? = some s) : s = .no := by
  unfold nos at h
  rw [List.getElem?_replicate] at h
  split at h
  · exact (Option.some.inj h).symm
  · cases h
theorem nos_len {n : Nat} : (nos n).length = n := by
  unfold nos
  rw [List.length_replicate]
theorem pss_dice {X : Cx} {S : Sg} {W : XK} {dx : Str} {px fpos : Pos} {iter : Expr} {body rest : List Stmt} {fe : E} {F R : SF} {n : Nat} (i : Nat) (hρ : S.ρ = []) (hp : PassesOwn (model X.prog X.w) X.A X.env X.xe) (hc : X.calm = true) (hNd : X.N.Nodup) (hN : X.N[i]? = some dx) (hx : Loc X.env.scope dx) (hf : X.fn dx = true ∨ X.env.scope.names.lookup dx = some .local)
    (hi : DE X S W iter fe) (hb : ∀ a, DSs X (S.dice a) W body F) (hr : ∀ a, DSs X (S.dice a) W rest R) (hs : ∀ x, foldedSetIterable iter X.env x = pure x := by intro _; rfl) : PSs X (.For (.Name dx px) iter body [] fpos :: rest) (tDice X.K S n i fe F R) := by
  have hb' : PSs X body (fun Z σ H => ∃ a, tS X.K (S.dice a) W F Z σ H) := ⟨fun pins s σ H Z I ⟨a, h⟩ => (hb a).run pins s σ H Z I h⟩
  have hr' : PSs X rest (fun Z σ H => ∃ a, tS X.K (S.dice a) W R Z σ H) := ⟨fun pins s σ H Z I ⟨a, h⟩ => (hr a).run pins s σ H Z I h⟩
  refine pssI (pss_cons (ps_for hp hc (pi_list hi) (pg_name (i := i) hNd hN hx hf) hb' hs) hr') fun Z σ H ⟨hl, hin, hrt, O, Γ, w, s, g⟩ => ?_
  refine ⟨O, Γ, [], w, s, g.imp (fun d μ1 ⟨e1, x, y, z, e2, ok⟩ H1 f1 w1 v rv => ?_) fun _ _ q => q.elim⟩
  subst e1
  subst e2
  cases rv with | lst p1 p2 p3 =>
  rename_i b0 us
  cases p3 with | cons r1 r2 =>
  cases r2
  cases r1 with | lst h1 h2 h3 =>
  rename_i a vs
  obtain ⟨q1, q2⟩ := del_some h1
  obtain ⟨o1, o2⟩ := del_some p1
  have r3 : Reps X.K (S.dice a) (del H1 (With O a)) vs [.int x, .int y, .int z] := by
    cases h3 with | cons a1 b1 =>
    cases b1 with | cons a2 b2 =>
    cases b2 with | cons a3 b3 =>
    cases a1; cases a2; cases a3; cases b3
    exact .cons (.int _) (.cons (.int _) (.cons (.int _) .nil))
  have lvs : vs.length = 3 := h3.length
  have ne : b0 ≠ a := fun z => by
    rw [z, q1] at o1
    have := congrArg List.length (HO.lst.inj (Option.some.inj o1))
    rw [lvs] at this
    cases this
  refine ⟨b0, rfl, ⟨_, .inl (.inl o1)⟩, fun j m σ' H' => (j = 0 ∧ m = 1 ∧ σ' = σ ∧ H' = H1) ∨ (j = 1 ∧ m = 0 ∧ ∃ (O' : Addr → Prop) (Γ2 : Env) (μ2 : List D), Fm X.K (S.dice a) H1 (With O a) O' σ' H' Γ2 μ2 ∧ Good (R Γ2 μ2) (fun o _ => o = .ret (.bl true)) (fun _ _ => False)), ⟨1, .inl ⟨rfl, rfl, rfl, rfl⟩⟩, ?_⟩
  rintro j m σ' H' (⟨rfl, rfl, rfl, rfl⟩ | ⟨rfl, rfl, O', Γ2, μ2, mf, gd⟩)
  · refine .inr ⟨⟨_, _, .inl (.inl o1), rfl⟩, fun σ2 H2 => ∃ (O' : Addr → Prop) (Γ2 : Env) (μ2 : List D), Fm X.K (S.dice a) H' (With O a) O' σ2 H2 Γ2 μ2 ∧ Good (R Γ2 μ2) (fun o _ => o = .ret (.bl true)) (fun _ _ => False), fun σ2 H2 h => ⟨0, by decide, .inr ⟨rfl, rfl, h⟩⟩, fun v H2 hy => ?_⟩
    obtain ⟨e, hy⟩ := hy
    subst e
    have ev := hy _ (.inl (.inl o1))
    cases ev
    refine ⟨a, H2, With O a, With O a, (nos n).set i (.v (.cell 0)), [.lst [.int x, .int y, .int z]], ⟨⟨w1.tabs, fun b hb => ?_, fun b hb => ?_, fun b hb => ?_, rfl, fun j c e => ?_⟩, ⟨?_, fun b hb => ?_, fun j sl e => ?_, fun j k b d d2 e _ _ _ => ?_⟩, Fr.refl _ _, fun _ h => h, fun _ h => .inl h⟩, (good_bind ok).imp (fun o μ2 g2 => ?_) fun _ _ q => q.elim⟩
    · rcases hb with hb | hb
      · exact w1.hid b hb
      · rw [hb, q1]; intro z; cases z
    · rcases hb with hb | hb
      · exact w1.hm b hb
      · exact ⟨_, by rw [hb]; exact q1, rfl⟩
    · exact .inr (List.mem_singleton.mp hb)
    · cases j with
      | zero => cases e; exact ⟨a, rfl, vs, q1, h2, r3⟩
      | succ j => cases e
    · rw [List.length_set, List.length_set, hl, nos_len]
    · exact .inr (List.mem_singleton.mp hb)
    · by_cases hj : i = j
      · subst hj
        rw [List.getElem?_set_self (by rw [nos_len]; exact hin)] at e
        cases e
        exact ⟨.ref a, by rw [List.getElem?_set_self (by rw [hl]; exact hin)], .cell rfl⟩
      · rw [List.getElem?_set_ne hj] at e
        rw [nos_get e]
        trivial
    · exfalso
      by_cases hj : i = j
      · subst hj
        rw [List.getElem?_set_self (by rw [nos_len]; exact hin)] at e
        cases e
      · rw [List.getElem?_set_ne hj] at e
        cases nos_get e
    · cases o with
      | nx Γ2 => exact fun σ' H' O' m st => ⟨O', Γ2, μ2, m, g2⟩
      | ct Γ2 => exact fun σ' H' O' m st => ⟨O', Γ2, μ2, m, g2⟩
      | bk Γ2 => exact False.elim g2
      | ret d => exact False.elim g2
  · have kb : H' b0 = some (.lst [.ref a]) := mf.fr.keep _ _ o1 (fun z => ne (List.mem_singleton.mp z)) nt_lst
    refine .inl ⟨⟨_, .inl (.inl kb), Nat.le_refl 1⟩, a, H1, With O a, O', Γ2, μ2, mf, gd.imp (fun o μ3 e => ?_) fun _ _ q => q.elim⟩
    subst e
    exact fun v H' _ _ rv => (by cases rv; exact hrt H')

/-! ### the law's promise -/
/-- the tables as they stand at the law's entry -/
def tabs0 (T : List (Addr × Option Str)) (H : Hp) : Prop := ∀ p ∈ T, H p.1 = some (.tbl #[])
theorem tabs_of0 {T : List (Addr × Option Str)} {H : Hp} (h : tabs0 T H) : Tabs T H := fun p hp => by
  have e := h p hp
  cases p.2 with
  | none => exact ⟨#[], e, True.intro⟩
  | some q => exact LamX.TabS.nil e
def spL (K : PySem.W.Frag) (S : Sg) : Sp := fun vs H Q E => ∃ (a : Addr) (ns : List Int), vs = [.ref a] ∧ ns.length ≤ 63 ∧ tabs0 S.T H ∧ SqL K H a (ns.map V.int) ∧ ∀ H', Q (.bl true) H'
theorem reps_ints {K : PySem.W.Frag} {S : Sg} {H : Hp} : ∀ ns : List Int, Reps K S H (ns.map V.int) (ns.map D.int)
  | [] => .nil
  | _ :: ns => .cons (.int _) (reps_ints ns)
section
variable {P : Program} {w : World} {K : PySem.W.Frag} {mg : Str → Option Value} {base : Heap} {S : Sg}
/-- the law's def, by its body; its sheet may know the frame -/
theorem law_ok {x qual dx : Str} {st : Stmt} {f c : Addr} {fd : FuncData} {N : List Str} {k i : Nat} {fe : E} {F R : SF} {px fpos : Pos} {iter : Expr} {body rest : List Stmt} (SS : List (Str × Addr) → Sg) (hS : ∀ cl, (SS cl).T = S.T ∧ (SS cl).ρ = []) (Fu : FunT K x qual st f fd c) (sc : FnScope N ["script"] (defScope st)) (hbd : defBody st = .For (.Name dx px) iter body [] fpos :: rest)
    (hi : i < N.length) (hN : N[i]? = some dx) (hx : Loc (defScope st) dx) (hw : ∀ ns : List Int, ns.length ≤ 63 → Good (fe (.v (.rol (ns.map .int)) :: nos (N.length - 1)) []) (fun d μ1 => μ1 = [] ∧ ∃ x y z : Int, d = .lst [.lst [.int x, .int y, .int z]] ∧ diceOk N.length i F R (.lst [.int x, .int y, .int z])) (fun _ _ => False))
    (hb : ∀ (A : Around) (outer : List PySem.Env) (s : Shared) (H : Hp) (E : XK), Room k (A.deeper (PyProof.Rows.envOfC qual (defScope st) s.heap.objs.size f (.ref c))) →
      DE (cxOf (L2.CX P w) P w K mg base N qual (defScope st) f (.ref c) A outer s H E) (SS (PyProof.Rows.envOfC qual (defScope st) s.heap.objs.size f (.ref c)).cells) E iter fe ∧
      (∀ a, DSs (cxOf (L2.CX P w) P w K mg base N qual (defScope st) f (.ref c) A outer s H E) ((SS (PyProof.Rows.envOfC qual (defScope st) s.heap.objs.size f (.ref c)).cells).dice a) E body F) ∧
      (∀ a, DSs (cxOf (L2.CX P w) P w K mg base N qual (defScope st) f (.ref c) A outer s H E) ((SS (PyProof.Rows.envOfC qual (defScope st) s.heap.objs.size f (.ref c)).cells).dice a) E rest R) ∧
      (∀ x, foldedSetIterable iter (cxOf (L2.CX P w) P w K mg base N qual (defScope st) f (.ref c) A outer s H E).env x = pure x)) :
    FnOk P w K mg base (L2.CX P w) (k + 1) f fd ["script"] (spL K S) := by
  refine Fu.okX sc (fun vs H Q E ⟨a, ns, e, _⟩ => by rw [e]; rfl) fun A outer s H vs Q E hrm h => ?_
  obtain ⟨a, ns, rfl, hl, ht, hq, hQ⟩ := h
  obtain ⟨b1, b2, b3, b4⟩ := hb A outer s H E hrm
  have cx := ctx_of (P := P) (w := w) (K := K) (mg := mg) (base := base) (qual := qual) (scope := defScope st) (f := f) (cd := .ref c) (A := A) (outer := outer) (s := s) (H := H) (E := E) sc.nd
  obtain ⟨hT, hρ⟩ := hS (PyProof.Rows.envOfC qual (defScope st) s.heap.objs.size f (.ref c)).cells
  rw [hbd]
  refine ⟨_, pss_dice (n := N.length) i hρ cx.po rfl sc.nd hN hx (.inl rfl) b1 b2 b3 b4, ?_⟩
  have hle : 1 ≤ N.length := by
    have e := sc.pre
    have q : (N.take 1).length = 1 := by
      have := congrArg List.length e
      exact this
    rw [List.length_take] at q
    omega
  have wd : Wd K (SS (PyProof.Rows.envOfC qual (defScope st) s.heap.objs.size f (.ref c)).cells) (fun _ => False) H [] := ⟨by rw [hT]; exact tabs_of0 ht, fun _ z => z.elim, fun _ z => z.elim, fun b hb => (by rw [hρ] at hb; cases hb), (by rw [hρ] <;> rfl), fun j c e => (by cases e)⟩
  have hd0 : del H (fun _ => False) = H := by
    funext b
    exact del_out (fun z => z)
  have rs : Rep K (SS (PyProof.Rows.envOfC qual (defScope st) s.heap.objs.size f (.ref c)).cells) (del H fun _ => False) (.ref a) (.rol (ns.map .int)) := by
    rw [hd0]
    exact .rol hq (by rw [List.length_map, sizeLine_def]; omega) (reps_ints ns)
  have sl := sls_start (Ob := fun _ => False) (N := N) (fun b hb => by rw [hρ] at hb; cases hb) (Reps.cons rs .nil) hle
  refine ⟨?_, hi, hQ, fun _ => False, _, wd, ⟨_, sl⟩, hw ns hl⟩
  rw [sl.len, List.length_append, List.length_map, nos_len]
  show 1 + (N.length - 1) = N.length
  omega
end
end Dd
namespace Dd
open PySem PySem.Spec L2

/-! ### dicts by keys and what they hold -/
def getK {α : Type} : List Key → List α → Key → Option α
  | k :: ks, x :: xs, y => if k = y then some x else getK ks xs y
  | _, _, _ => none
def repK {α : Type} : List Key → List α → Key → α → List α
  | k :: ks, x :: xs, y, z => (if k = y then z else x) :: repK ks xs y z
  | _, xs, _, _ => xs
def hasK (ks : List Key) (y : Key) : Bool := ks.any fun k => decide (k = y)
def putKs (ks : List Key) (y : Key) : List Key := if hasK ks y = true then ks else ks ++ [y]
def putVs {α : Type} (ks : List Key) (xs : List α) (y : Key) (z : α) : List α := if hasK ks y = true then repK ks xs y z else xs ++ [z]
theorem repK_len {α : Type} (y : Key) (z : α) : ∀ (ks : List Key) (xs : List α), (repK ks xs y z).length = xs.length
  | [], xs => by cases xs <;> rfl
  | _ :: _, [] => rfl
  | _ :: ks, _ :: xs => by
    unfold repK
    rw [List.length_cons, List.length_cons, repK_len y z ks xs]
theorem valV_zip (y : Key) : ∀ (ks : List Key) (vs : List V), valV (ks.zip vs) y = getK ks vs y
  | [], vs => by cases vs <;> rfl
  | _ :: _, [] => rfl
  | k :: ks, v :: vs => by
    rw [List.zip_cons_cons]
    unfold getK
    by_cases e : k = y
    · rw [if_pos e]
      exact valV_pos (p := (k, v)) e
    · rw [if_neg e, valV_neg (p := (k, v)) e]
      exact valV_zip y ks vs
theorem any_zip (y : Key) : ∀ {ks : List Key} {vs : List V}, ks.length = vs.length → ((ks.zip vs).any fun kv => decide (kv.1 = y)) = hasK ks y
  | [], vs, _ => by cases vs <;> rfl
  | _ :: _, [], h => by cases h
  | k :: ks, v :: vs, h => by
    rw [List.zip_cons_cons, List.any_cons, any_zip y (Nat.succ.inj h)]
    rfl
theorem map_zip (y : Key) (z : V) : ∀ {ks : List Key} {vs : List V}, ks.length = vs.length → (ks.zip vs).map (fun kv => if kv.1 = y then (kv.1, z) else kv) = ks.zip (repK ks vs y z)
  | [], vs, _ => by cases vs <;> rfl
  | _ :: _, [], h => by cases h
  | k :: ks, v :: vs, h => by
    have e1 : repK (k :: ks) (v :: vs) y z = (if k = y then z else v) :: repK ks vs y z := rfl
    rw [List.zip_cons_cons, List.map_cons, map_zip y z (Nat.succ.inj h), e1, List.zip_cons_cons]
    by_cases e : k = y
    · simp [e]
    · simp [e]
theorem putK_zip (y : Key) (z : V) {ks : List Key} {vs : List V} (h : ks.length = vs.length) : putK (ks.zip vs) y z = (putKs ks y).zip (putVs ks vs y z) := by
  unfold putK putKs putVs
  rw [any_zip y h]
  by_cases e : hasK ks y = true
  · rw [if_pos e, if_pos e, if_pos e]
    exact map_zip y z h
  · rw [if_neg e, if_neg e, if_neg e]
    rw [List.zip_append h]
    rfl
theorem put_len {α : Type} {ks : List Key} {xs : List α} (h : ks.length = xs.length) (y : Key) (z : α) : (putKs ks y).length = (putVs ks xs y z).length := by
  unfold putKs putVs
  by_cases e : hasK ks y = true
  · rw [if_pos e, if_pos e, repK_len, h]
  · rw [if_neg e, if_neg e, List.length_append, List.length_append, h]
    rfl
section
variable {K : PySem.W.Frag} {S : Sg} {H : Hp}
theorem Reps.getK {y : Key} : ∀ {ks : List Key} {vs : List V} {ds : List D} {d : D}, Reps K S H vs ds → Dd.getK ks ds y = some d → ∃ v, Dd.getK ks vs y = some v ∧ Rep K S H v d
  | [], _, ds, d, r, e => by cases ds <;> cases e
  | _ :: _, _, [], d, r, e => by cases e
  | k :: ks, _, d0 :: ds, d, .cons a b, e => by
    unfold Dd.getK at e
    by_cases h : k = y
    · rw [if_pos h] at e
      cases e
      exact ⟨_, by unfold Dd.getK; rw [if_pos h], a⟩
    · rw [if_neg h] at e
      obtain ⟨v, e1, r1⟩ := Reps.getK b e
      exact ⟨v, by unfold Dd.getK; rw [if_neg h]; exact e1, r1⟩
theorem getK_iff {α β : Type} {y : Key} : ∀ {ks : List Key} {xs : List α} {zs : List β}, xs.length = zs.length → (getK ks xs y).isSome = (getK ks zs y).isSome
  | [], xs, zs, _ => by cases xs <;> cases zs <;> rfl
  | _ :: _, [], [], _ => rfl
  | _ :: _, [], _ :: _, h => by cases h
  | _ :: _, _ :: _, [], h => by cases h
  | k :: ks, x :: xs, z :: zs, h => by
    unfold getK
    by_cases e : k = y
    · rw [if_pos e, if_pos e]
      rfl
    · rw [if_neg e, if_neg e]
      exact getK_iff (Nat.succ.inj h)
theorem Reps.repK {y : Key} {v : V} {d : D} (rv : Rep K S H v d) : ∀ {ks : List Key} {vs : List V} {ds : List D}, Reps K S H vs ds → Reps K S H (Dd.repK ks vs y v) (Dd.repK ks ds y d)
  | [], _, _, .nil => .nil
  | [], _, _, .cons a b => .cons a b
  | _ :: _, _, _, .nil => .nil
  | k :: ks, _, _, .cons a b => by
    unfold Dd.repK
    refine .cons ?_ (Reps.repK rv b)
    by_cases e : k = y
    · rw [if_pos e, if_pos e]
      exact rv
    · rw [if_neg e, if_neg e]
      exact a
theorem Reps.putV {y : Key} {v : V} {d : D} (rv : Rep K S H v d) {ks : List Key} {vs : List V} {ds : List D} (r : Reps K S H vs ds) : Reps K S H (putVs ks vs y v) (putVs ks ds y d) := by
  unfold putVs
  by_cases e : hasK ks y = true
  · rw [if_pos e, if_pos e]
    exact r.repK rv
  · rw [if_neg e, if_neg e]
    exact r.append (.cons rv .nil)
def keyOf : D → Option Key
  | .int i => some (.inl i)
  | .str s => some (.inr s)
  | _ => none
theorem keyOf_rep {v : V} {d : D} {k : Key} (e : keyOf d = some k) (r : Rep K S H v d) : v = kV k := by
  cases d <;> first | (cases e; done) | (cases e; cases r; rfl) | cases e
end
theorem merge_nd : ∀ (more acc : List (Key × V)), ((acc ++ more).map (·.1)).Nodup → mergeK acc more = acc ++ more
  | [], acc, _ => by rw [List.append_nil]; rfl
  | p :: more, acc, h => by
    have e : mergeK acc (p :: more) = mergeK (putK acc p.1 p.2) more := rfl
    have hn : ¬ p.1 ∈ acc.map (·.1) := by
      rw [List.map_append, List.map_cons] at h
      exact fun z => (List.nodup_append.mp h).2.2 _ z _ List.mem_cons_self rfl
    have e2 : putK acc p.1 p.2 = acc ++ [p] := by
      unfold putK
      rw [if_neg]
      intro z
      obtain ⟨q, h1, h2⟩ := List.any_eq_true.mp z
      exact hn (List.mem_map.mpr ⟨q, h1, by simpa using h2⟩)
    rw [e, e2, merge_nd more (acc ++ [p]) (by rw [List.append_assoc]; exact h), List.append_assoc]
    rfl
theorem merge_zip {ks : List Key} {vs : List V} (h : ks.length = vs.length) (nd : ks.Nodup) : mergeK [] (ks.zip vs) = ks.zip vs := by
  refine merge_nd _ _ ?_
  rw [List.nil_append, show (ks.zip vs).map (·.1) = ks from List.map_fst_zip (Nat.le_of_eq h)]
  exact nd

/-! ### a displayed dict -/
abbrev KD := List Key × List D
def tPr (K : PySem.W.Frag) (S : Sg) (W : XK) (f : Env → M KD) (σ : St) (H : Hp) (Q : List (V × V) → Hp → Prop) : Prop := ∃ O, Run K S W O σ H f fun kd H' => ∀ vs, kd.1.length = kd.2.length → Reps K S (del H' O) vs kd.2 → Q ((kd.1.zip vs).map fun kv => (kV kv.1, kv.2)) H'
structure DPs (X : Cx) (S : Sg) (W : XK) (pos : Pos) (keys : List (Option Expr)) (values : List Expr) (f : Env → M KD) : Prop where
  ex : ∃ trs, PPs X pos keys values trs ∧ ∀ σ H Q, tPr X.K S W f σ H Q → tPairs trs σ H Q
def kNil : Env → M KD := fun _ => M.pure ([], [])
def kCons (f g : E) (h : Env → M KD) : Env → M KD := fun Γ => M.bind (f Γ) fun x => M.bind (g Γ) fun y => M.bind (M.opt (keyOf x)) fun k => M.bind (h Γ) fun kd => if kd.1.length = kd.2.length then M.pure (k :: kd.1, y :: kd.2) else M.bad
section
variable {X : Cx} {S : Sg} {W : XK} {pos : Pos} {a b : Expr} {f g h : E}
theorem dps_nil : DPs X S W pos [] [] kNil := ⟨[], pps_nil, fun σ H Q ⟨O, Γ, μ, w, s, q⟩ => q H (Fr.refl _ _) w [] rfl .nil⟩
theorem dps_cons {ks : List (Option Expr)} {vs : List Expr} {fk : Env → M KD} (ha : DE X S W a f) (hb : DE X S W b g) (hr : DPs X S W pos ks vs fk) : DPs X S W pos (some a :: ks) (b :: vs) (kCons f g fk) := by
  obtain ⟨trs, p, q⟩ := hr
  refine ⟨_, pps_cons ha hb p, fun σ H Q ⟨O, hq⟩ => ?_⟩
  refine ⟨O, (Run.bind hq).mono fun x H1 μ μ1 w0 f1 w1 h1 v rv => ?_⟩
  refine ⟨O, (Run.bind h1).mono fun y H2 μ2 μ3 w2 f2 w3 h2 u ru => q _ _ _ ?_⟩
  obtain ⟨Γ, μ4, w4, s4, g4⟩ := h2
  obtain ⟨k, ek, g5⟩ := good_opt g4
  refine ⟨O, Γ, μ4, w4, s4, (good_bind g5).imp (fun kd μ5 g6 H3 f3 w5 us hl rus => ?_) fun _ _ z => z⟩
  obtain ⟨hl2, g7⟩ := good_if g6
  have g7 : ∀ H', Fr S H2 H' → Wd X.K S O H' μ5 → ∀ vs, (k :: kd.1).length = (y :: kd.2).length → Reps X.K S (del H' O) vs (y :: kd.2) → Q (((k :: kd.1).zip vs).map fun kv => (kV kv.1, kv.2)) H' := g7
  have q7 := g7 H3 f3 w5 (u :: us) (by rw [List.length_cons, List.length_cons, hl]) (.cons (w4.rep f3 ru) rus)
  have ev : v = kV k := keyOf_rep ek rv
  rw [ev]
  exact q7
def eDisp (fk : Env → M KD) : E := fun Γ => M.bind (fk Γ) fun kd => if kd.1.Nodup ∧ kd.1.length ≤ 15 ∧ kd.1.length = kd.2.length then M.pure (.dk kd.1 kd.2) else M.bad
theorem de_disp {keys : List (Option Expr)} {values : List Expr} {fk : Env → M KD} (hp : DPs X S W pos keys values fk) (hall : keys.all (·.isSome) = true := by rfl) (hl : keys.length = values.length := by rfl) (h0 : keys ≠ [] := by exact fun z => nomatch z) (h15 : keys.length ≤ 15 := by decide) :
    DE X S W (.Dict keys values pos) (eDisp fk) := by
  obtain ⟨trs, p, q⟩ := hp
  refine peI (pe_disp p hall hl h0 h15) fun σ H Q ⟨O, hq⟩ pa hpa => q _ _ _ ?_
  obtain ⟨Γ, μ, w, ⟨Ob, s⟩, g⟩ := Run.bind hq
  have nO : ¬ O pa := w.fresh hpa
  have nρ : pa ∉ S.ρ := fun z => nO (w.rho _ z)
  have hO : With O pa pa := .inr rfl
  refine ⟨With O pa, Γ, μ, w.more hpa, ⟨Ob, s.more hpa⟩, g.imp (fun kd μ1 g1 H2 f2 w2 vs hlv rvs => ?_) fun c μ1 z H1 f1 w1 => z H1 ((Fr.add hpa).trans f1) (w1.less (fun a h => .inl h) w.rho)⟩
  have hd : H2 pa = some (.dK []) := f2.keep _ _ upd_same nρ nt_dK
  have lvs : kd.1.length = vs.length := hlv.trans rvs.length.symm
  refine ⟨hd, kd.1.zip vs, rfl, ?_, ?_⟩
  · have frr : Fr S H (upd H2 pa (.dK (mergeK [] (kd.1.zip vs)))) := ⟨fun b o e n t => by
      rw [upd_ne (ne_of_none e hpa)]
      exact ((Fr.add hpa).trans f2).keep b o e n t, fun b h => upd_dom b (((Fr.add hpa).trans f2).dom b h)⟩
    have w3 : Wd X.K S (With O pa) (upd H2 pa (.dK (mergeK [] (kd.1.zip vs)))) μ1 := w2.write hO nρ hd rfl
    have w4 : Wd X.K S O (upd H2 pa (.dK (mergeK [] (kd.1.zip vs)))) μ1 := w3.less (fun a h => .inl h) w.rho
    have g2 := g1 (upd H2 pa (.dK (mergeK [] (kd.1.zip vs)))) frr w4
    obtain ⟨Γ2, μ2, w5, s5, g3⟩ := g2
    have hc := (good_if g3).1
    rw [List.length_zip, ← lvs, Nat.min_self]
    exact hc.2.1
  · have frr : Fr S H (upd H2 pa (.dK (mergeK [] (kd.1.zip vs)))) := ⟨fun b o e n t => by
      rw [upd_ne (ne_of_none e hpa)]
      exact ((Fr.add hpa).trans f2).keep b o e n t, fun b h => upd_dom b (((Fr.add hpa).trans f2).dom b h)⟩
    have w3 : Wd X.K S (With O pa) (upd H2 pa (.dK (mergeK [] (kd.1.zip vs)))) μ1 := w2.write hO nρ hd rfl
    have w4 : Wd X.K S O (upd H2 pa (.dK (mergeK [] (kd.1.zip vs)))) μ1 := w3.less (fun a h => .inl h) w.rho
    obtain ⟨Γ2, μ2, w5, s5, g3⟩ := g1 (upd H2 pa (.dK (mergeK [] (kd.1.zip vs)))) frr w4
    obtain ⟨⟨nd, _, _⟩, g4⟩ := good_if g3
    have g4 : ∀ H', Fr S (upd H2 pa (.dK (mergeK [] (kd.1.zip vs)))) H' → Wd X.K S O H' μ2 → ∀ v, Rep X.K S (del H' O) v (.dk kd.1 kd.2) → Q v H' := g4
    refine g4 _ (Fr.refl _ _) w5 _ (.dk (vs := vs) ?_ lvs ?_)
    · rw [del_out nO, upd_same, merge_zip lvs nd]
    · exact reps_less (fun a h => .inl h) (rvs.mono (keep_write hO))
end

/-! ### d[k], k in d -/
def dGetD : D → D → Option D
  | .dk ks ds, y => (keyOf y).bind (getK ks ds)
  | _, _ => none
def dInD : D → D → Option D
  | y, .dk ks ds => (keyOf y).map fun k => .bl (getK ks ds k).isSome
  | _, _ => none
section
variable {X : Cx} {S : Sg} {W : XK} {pos : Pos} {a b : Expr} {f g : E}
theorem de_dget (hu : X.A.units + 64 < cLine) (ha : DE X S W a f) (hb : DE X S W b g) (hs : NoSl b := by intro _ _; rfl) : DE X S W (.Subscript a b pos) (eOp dGetD f g) :=
  peI (pe_dget (by omega) ha hb hs) fun σ H Q ⟨O, hq⟩ => ⟨O, (Run.bind hq).mono fun x H1 μ μ1 w0 f1 w1 h1 v rv => ⟨O, (Run.bind h1).mono fun y H2 μ2 μ3 w2 f2 w3 h2 u ru => by
    obtain ⟨z, μ4, e, w4, q⟩ := Run.opt h2
    cases x with
    | dk ks ds =>
      have rv2 := w2.rep f2 rv
      cases rv2 with | dk p1 p2 p3 =>
      rename_i ad vs
      obtain ⟨k, ek, e2⟩ := Option.bind_eq_some_iff.mp (show (keyOf y).bind (getK ks ds) = some z from e)
      obtain ⟨v, ev, r⟩ := p3.getK e2
      refine ⟨ad, v, rfl, ?_, q H2 (Fr.refl _ _) w4 v r⟩
      rw [keyOf_rep ek ru, ← ev, ← valV_zip]
      exact DGet.k (seen p1)
    | _ => cases e⟩⟩
theorem de_din (hu : X.A.units + 64 < cLine) (hb : DE X S W b g) (ha : DE X S W a f) (hm : behindInMarks .In a = false := by rfl) : DE X S W (.Compare b [.In] [a] pos) (eOp dInD g f) :=
  peI (pe_cmp (pc_din (by omega) hb ha) hm) fun σ H Q ⟨O, hq⟩ => ⟨O, (Run.bind hq).mono fun y H1 μ μ1 w0 f1 w1 h1 v rv => ⟨O, (Run.bind h1).mono fun x H2 μ2 μ3 w2 f2 w3 h2 u ru => by
    obtain ⟨z, μ4, e, w4, q⟩ := Run.opt h2
    cases x with
    | dk ks ds =>
      cases ru with | dk p1 p2 p3 =>
      rename_i ad vs
      obtain ⟨k, ek, e2⟩ := Option.map_eq_some_iff.mp (show (keyOf y).map (fun k => D.bl (getK ks ds k).isSome) = some z from e)
      subst e2
      refine ⟨ad, getK ks vs k, rfl, ?_, ?_⟩
      · rw [keyOf_rep ek rv, ← valV_zip]
        exact DGet.k (seen p1)
      · rw [getK_iff (zs := ds) p3.length]
        exact q H2 (Fr.refl _ _) w4 _ (.bl _)
    | _ => cases e⟩⟩
end

/-! ### a dict of one's own -/
def ownK (i : Nat) (Γ : Env) : Option KD := match Γ[i]? with
  | some (.o (.dk ks ds)) => some (ks, ds)
  | _ => none
theorem ownK_some {K : PySem.W.Frag} {S : Sg} {Ob O : Addr → Prop} {H : Hp} {σ : St} {Γ : Env} (s : SlsB K S Ob O H σ Γ) {i : Nat} {kd : KD} (h : ownK i Γ = some kd) : Γ[i]? = some (.o (.dk kd.1 kd.2)) ∧ ∃ p vs, σ[i]? = some (some (.ref p)) ∧ O p ∧ ¬ Ob p ∧ H p = some (.dK (kd.1.zip vs)) ∧ kd.1.length = vs.length ∧ Reps K S (del H O) vs kd.2 := by
  unfold ownK at h
  split at h
  · rename_i e
    cases h
    obtain ⟨a, e3, h1, h2, vs, h3, h4, h5⟩ := s.at_ i _ e
    exact ⟨e, a, vs, e3, h1, h2, h3, h4, h5⟩
  · cases h
section
variable {X : Cx} {S : Sg} {W : XK} {pos : Pos} {a b c : Expr} {f g : E}
def sOwnD (i : Nat) : SF := fun Γ => M.pure (.nx (Γ.set i (.o (.dk [] []))))
theorem ds_ownD (i : Nat) {x : Str} {pos' lp : Pos} (hN : X.N.Nodup) (hi : X.N[i]? = some x := by rfl) (hx : Loc X.env.scope x := by first | exact Or.inl rfl | exact Or.inr rfl) (hs : swapsWith (.Dict [] [] lp) (some (.Name x pos')) pos.line X.env = pure false := by rfl)
    (hf : X.fn x = true ∨ X.env.scope.names.lookup x = some .local := by first | exact .inl rfl | exact .inr rfl) : DS X S W (.Assign [.Name x pos'] (.Dict [] [] lp) pos) (sOwnD i) :=
  psI (ps_set hN hi hx pe_dnewK hs hf) fun Z σ H ⟨H0, O0, O, Γ, μ, m, g⟩ p hp => g _ _ _ (m.own hp ⟨[], upd_same, rfl, .nil⟩) (stp_more hp)
/-- d[k], d one's own -/
def eGetO (i : Nat) (g : E) : E := fun Γ => M.bind (M.opt (ownK i Γ)) fun kd => M.bind (g Γ) fun y => M.opt ((keyOf y).bind (getK kd.1 kd.2))
theorem de_getO (i : Nat) {x : Str} {px : Pos} (hu : X.A.units + 64 < cLine) (hb : DE X S W b g) (hN : X.N[i]? = some x := by rfl) (hv : Vis X.env.scope x := by first | exact Or.inl rfl | exact Or.inr (Or.inl rfl) | exact Or.inr (Or.inr rfl)) (hd : (x == ("__debug__" : Str)) = false := by decide)
    (hcd : (x == ("__classdict__" : Str)) = false := by decide) (hs : NoSl b := by intro _ _; rfl) : DE X S W (.Subscript (.Name x px) b pos) (eGetO i g) :=
  peI (pe_dget (by omega) (pe_var hN hv hd hcd) hb hs) fun σ H Q ⟨O, Γ, μ, w, ⟨Ob, s⟩, hq⟩ => by
    obtain ⟨kd, e1, g1⟩ := good_opt hq
    obtain ⟨eΓ, p, vs, eσ, hO, h0, hp, hl, hr⟩ := ownK_some s e1
    refine ⟨_, eσ, O, Γ, μ, w, ⟨Ob, s⟩, (good_bind g1).imp (fun y μ1 g2 H1 f1 w1 u ru => ?_) fun _ _ z => z⟩
    have hp1 : H1 p = some (.dK (kd.1.zip vs)) := f1.keep _ _ hp (fun z => h0 (s.hb _ z)) nt_dK
    cases e2 : (keyOf y).bind (getK kd.1 kd.2) with
    | none => rw [e2] at g2; exact False.elim g2
    | some d =>
      rw [e2] at g2
      obtain ⟨k, e3, e4⟩ := Option.bind_eq_some_iff.mp e2
      obtain ⟨v, ev, rv⟩ := (w.reps f1 hr).getK e4
      refine ⟨p, v, rfl, ?_, g2 H1 f1 w1 v rv⟩
      rw [keyOf_rep e3 ru, ← ev, ← valV_zip]
      exact DGet.k hp1
/-- d[k] = e, d one's own -/
def sPutO (i : Nat) (f g : E) : SF := fun Γ => M.bind (M.opt (ownK i Γ)) fun kd => M.bind (f Γ) fun x => M.bind (g Γ) fun y => M.bind (M.opt (keyOf y)) fun k => if kd.1.length < 16777216 then M.pure (.nx (Γ.set i (.o (.dk (putKs kd.1 k) (putVs kd.1 kd.2 k x))))) else M.bad
theorem ds_putO (i : Nat) {x : Str} {np tp : Pos} (hu : X.A.units + 64 < cLine) (ha : DE X S W a f) (hb : DE X S W b g) (hN : X.N[i]? = some x := by rfl) (hv : Vis X.env.scope x := by first | exact Or.inl rfl | exact Or.inr (Or.inl rfl) | exact Or.inr (Or.inr rfl)) (hd : (x == ("__debug__" : Str)) = false := by decide)
    (hcd : (x == ("__classdict__" : Str)) = false := by decide) (hs : swapsWith a (some (.Subscript (.Name x np) b tp)) pos.line X.env = pure false := by rfl) :
    DS X S W (.Assign [.Subscript (.Name x np) b tp] a pos) (sPutO i f g) :=
  psI (ps_dput (by omega) (pe_var hN hv hd hcd) hb ha hs) fun Z σ H ⟨H0, O0, O, Γ, μ, m, g0⟩ => by
    obtain ⟨kd, e, g0⟩ := good_opt g0
    obtain ⟨eΓ, p, vs, eσ, hO, h0, hp, hl, hr⟩ := ownK_some m.sl e
    refine ⟨O, (st_run m g0).mono fun d H1 _ _ w f' w' ⟨μ1, f1, m1, g1⟩ v rv => ?_⟩
    refine ⟨_, eσ, O, (st_run m1 g1).mono fun y H2 _ _ w2 f2' w2' ⟨μ2, f2, m2, g2⟩ u ru => ?_⟩
    obtain ⟨k, ek, g3⟩ := good_opt g2
    obtain ⟨hlt, g4⟩ := good_if g3
    have f12 := f1.trans f2
    have hp2 : H2 p = some (.dK (kd.1.zip vs)) := f12.keep _ _ hp (fun z => h0 (m.sl.hb _ z)) nt_dK
    have lz : (kd.1.zip vs).length < sizeLine := by rw [List.length_zip, ← hl, Nat.min_self, sizeLine_def]; exact hlt
    have r2 : Reps X.K S (del H2 O) (putVs kd.1 vs k v) (putVs kd.1 kd.2 k d) := (m.wd.reps f12 hr).putV (m1.wd.rep f2 rv)
    obtain ⟨m3, s3⟩ := m2.write (o := .dK (putK (kd.1.zip vs) k v)) (d' := .dk (putKs kd.1 k) (putVs kd.1 kd.2 k d)) eΓ eσ hO h0 hp2 rfl ⟨_, by rw [upd_same, putK_zip k v hl], put_len hl k v, r2.mono (keep_write hO)⟩
    refine ⟨p, _, rfl, ?_, g4 _ _ _ m3 ((Stp.of f12 m.wd).trans s3)⟩
    rw [keyOf_rep ek ru]
    exact DPut.k hp2 lz
/-- d[k] += e, whole numbers, d one's own -/
def sAugO (i : Nat) (g f : E) : SF := fun Γ => M.bind (M.opt (ownK i Γ)) fun kd => M.bind (g Γ) fun y => M.bind (M.opt ((keyOf y).bind fun k => (getK kd.1 kd.2 k).bind fun d => (asI d).map fun n => (k, n))) fun kn => M.bind (f Γ) fun z => M.bind (M.opt (asI z)) fun z => if kd.1.length < 16777216 then M.pure (.nx (Γ.set i (.o (.dk (putKs kd.1 kn.1) (putVs kd.1 kd.2 kn.1 (.int (kn.2 + z))))))) else M.bad
theorem ds_augO (i : Nat) {x : Str} {np tp : Pos} (hu : X.A.units + 64 < cLine) (hb : DE X S W b g) (ha : DE X S W a f) (hN : X.N[i]? = some x := by rfl) (hv : Vis X.env.scope x := by first | exact Or.inl rfl | exact Or.inr (Or.inl rfl) | exact Or.inr (Or.inr rfl)) (hd : (x == ("__debug__" : Str)) = false := by decide)
    (hcd : (x == ("__classdict__" : Str)) = false := by decide) (hst : ∀ ov iv new, augStore b ov iv new = (do holding [new, ov, iv] (setItem ov iv new); release [new, ov, iv] []; pure .next) := by intro _ _ _; rfl) :
    DS X S W (.AugAssign (.Subscript (.Name x np) b tp) .Add a pos) (sAugO i g f) :=
  psI (ps_daug (by omega) (pe_var hN hv hd hcd) hb ha in_add hst) fun Z σ H ⟨H0, O0, O, Γ, μ, m, g0⟩ => by
    obtain ⟨kd, e, g0⟩ := good_opt g0
    obtain ⟨eΓ, p, vs, eσ, hO, h0, hp, hl, hr⟩ := ownK_some m.sl e
    refine ⟨_, eσ, O, (st_run m g0).mono fun y H1 _ _ w f' w' ⟨μ1, f1, m1, g1⟩ u ru => ?_⟩
    obtain ⟨kn, e2, g2⟩ := good_opt g1
    obtain ⟨k, ek, e3⟩ := Option.bind_eq_some_iff.mp e2
    obtain ⟨d, ed, e4⟩ := Option.bind_eq_some_iff.mp e3
    obtain ⟨n, en, e5⟩ := Option.map_eq_some_iff.mp e4
    subst e5
    obtain ⟨v, ev, rv⟩ := (m.wd.reps f1 hr).getK ed
    have evn : v = .int n := asI_some en rv
    subst evn
    have hp1 : H1 p = some (.dK (kd.1.zip vs)) := f1.keep _ _ hp (fun z => h0 (m.sl.hb _ z)) nt_dK
    refine ⟨p, _, rfl, by rw [keyOf_rep ek ru, ← ev, ← valV_zip]; exact DGet.k hp1, O, (st_run m1 g2).mono fun z H2 _ _ w2 f2' w2' ⟨μ2, f2, m2, g3⟩ v2 rv2 => ?_⟩
    obtain ⟨zn, ez, g4⟩ := good_opt g3
    obtain ⟨hlt, g5⟩ := good_if g4
    have f12 := f1.trans f2
    have hp2 : H2 p = some (.dK (kd.1.zip vs)) := f12.keep _ _ hp (fun z => h0 (m.sl.hb _ z)) nt_dK
    have lz : (kd.1.zip vs).length < sizeLine := by rw [List.length_zip, ← hl, Nat.min_self, sizeLine_def]; exact hlt
    have r2 : Reps X.K S (del H2 O) (putVs kd.1 vs k (.int (n + zn))) (putVs kd.1 kd.2 k (.int (n + zn))) := (m.wd.reps f12 hr).putV (.int _)
    obtain ⟨m3, s3⟩ := m2.write (o := .dK (putK (kd.1.zip vs) k (.int (n + zn)))) (d' := .dk (putKs kd.1 k) (putVs kd.1 kd.2 k (.int (n + zn)))) eΓ eσ hO h0 hp2 rfl ⟨_, by rw [upd_same, putK_zip k _ hl], put_len hl k _, r2.mono (keep_write hO)⟩
    have ev2 : v2 = .int zn := asI_some ez rv2
    subst ev2
    refine ⟨n, zn, rfl, rfl, _, ?_, g5 _ _ _ m3 ((Stp.of f12 m.wd).trans s3)⟩
    rw [keyOf_rep ek ru]
    exact DPut.k hp2 lz
end
end Dd
namespace Dd
open PySem PySem.Spec L2

section
variable {K : PySem.W.Frag} {S : Sg} {X : Cx} {W : XK} {pos : Pos} {a b : Expr} {f g : E}
/-! ### data that are less -/
def rLtD (K : PySem.W.Frag) : R2 := fun x y H Q => ∃ d e, Dp K H x d ∧ Dp K H y e ∧ PySem.W.alike d e = true ∧ d ≠ .none ∧ d.depth ≤ 8 ∧ Q (.bl (PySem.W.dataLt d e)) H
theorem op_ltD (hu : X.A.units + 64 < cLine) : OpR X (compareOp .Lt) (rLtD X.K) := by
  intro pins s σ H x y v u Q I rx ry h
  obtain ⟨d, e, hd, he, al, ne, dp, q⟩ := h
  obtain ⟨as, r1⟩ := Dp.reads I d x v hd rx
  obtain ⟨bs, r2⟩ := Dp.reads I e y u he ry
  have := Nat.min_le_left d.depth e.depth
  exact PySem.W.lt_data r1 r2 al ne (by omega) ⟨.bl _, H, I, rfl, q⟩
def ltD (x y : D) : Bool := PySem.W.dataLt (toPy x) (toPy y)
def dLtD (x y : D) : Option D := if isPy 8 x = true ∧ isPy 8 y = true ∧ PySem.W.alike (toPy x) (toPy y) = true ∧ isNon x = false then some (.bl (ltD x y)) else none
theorem toPy_non {x : D} (h : isNon x = false) : toPy x ≠ .none := by
  cases x <;> first | (cases h; done) | (intro z; rw [toPy] at z; cases z)
theorem hd_ltD : OpD K S (rLtD K) dLtD := by
  intro O H μ x y v w z Q wd rx ry e q
  unfold dLtD at e
  split at e
  · rename_i hc
    cases e
    obtain ⟨a1, a2, a3⟩ := (dp_seen rx).py hc.1
    obtain ⟨b1, b2, b3⟩ := (dp_seen ry).py hc.2.1
    exact ⟨_, _, a1, b1, hc.2.2.1, toPy_non hc.2.2.2, a3, q _ H (Fr.refl _ _) wd (.bl _)⟩
  · cases e

/-! ### x not in a list of data -/
def inL (x : D) (ds : List D) : Bool := ds.any fun z => PyData.eqv (toPy z) (toPy x)
def dNotInL : D → D → Option D
  | x, .lst ds => if isPy 8 x = true ∧ isPy 8 (.lst ds) = true then some (.bl (!inL x ds)) else none
  | _, _ => none
theorem any_toPys (x : D) : ∀ ds : List D, ((toPys ds).any fun z => PyData.eqv z (toPy x)) = inL x ds
  | [] => rfl
  | d :: ds => by
    unfold inL
    rw [toPys, List.any_cons, List.any_cons, any_toPys x ds]
    rfl
theorem hd_notInL : OpD K S (rNotInD K) dNotInL := by
  intro O H μ x y v w z Q wd rx ry e q
  cases y with
  | lst ds =>
    have e : (if isPy 8 x = true ∧ isPy 8 (.lst ds) = true then some (D.bl (!inL x ds)) else none) = some z := e
    split at e
    · rename_i hc
      cases e
      obtain ⟨a1, a2, a3⟩ := (dp_seen rx).py hc.1
      obtain ⟨b1, b2, b3⟩ := (dp_seen ry).py hc.2
      have hp : toPy (.lst ds) = .list (toPys ds) := by rw [toPy]
      rw [hp] at b1 b2 b3
      refine ⟨_, _, a1, b1, ?_, ?_, ?_⟩
      · unfold SeqAt.shaped
        rw [a2, decide_eq_true (by omega)]
        rfl
      · unfold SeqAt.shaped
        rw [b2, decide_eq_true (by omega)]
        rfl
      · rw [any_toPys]
        exact q _ H (Fr.refl _ _) wd (.bl _)
    · cases e
  | _ => cases e

/-! ### the least of a list of data -/
def argD (ds : List D) : Nat := argBest (fun i j => PySem.W.dataLt ((toPys ds).getD i .none) ((toPys ds).getD j .none)) (ds.length - 1)
def alikeD (ds : List D) : Bool := ds.all fun x => !isNon x && ds.all fun y => PySem.W.alike (toPy x) (toPy y)
def minD (ds : List D) : Option D := if arePy 8 ds = true ∧ alikeD ds = true ∧ 0 < ds.length then ds[argD ds]? else none
theorem toPys_map : ∀ ds : List D, toPys ds = ds.map toPy
  | [] => rfl
  | d :: ds => by rw [toPys, List.map_cons, toPys_map ds]
theorem alikeD_all {ds : List D} (h : alikeD ds = true) : PySem.W.AlikeAll (toPys ds) := by
  unfold alikeD at h
  rw [List.all_eq_true] at h
  rw [toPys_map]
  refine ⟨fun x hx y hy => ?_, fun x hx => ?_⟩
  · obtain ⟨x', h1, rfl⟩ := List.mem_map.mp hx
    obtain ⟨y', h2, rfl⟩ := List.mem_map.mp hy
    have q := h x' h1
    rw [Bool.and_eq_true, List.all_eq_true] at q
    exact q.2 y' h2
  · obtain ⟨x', h1, rfl⟩ := List.mem_map.mp hx
    have q := h x' h1
    rw [Bool.and_eq_true] at q
    exact toPy_non (by simpa using q.1)
def rMinD (A : Around) (K : PySem.W.Frag) : List V → Hp → VK → Prop := fun vs H Q => ∃ (p : Addr) (xs : List V) (ds : List D) (v : V), vs = [V.ref p] ∧ SqL K H p xs ∧ DpAll K H xs (toPys ds) ∧ xs.length = ds.length ∧ 0 < ds.length ∧ PySem.W.AlikeAll (toPys ds) ∧ PyData.depthAll (toPys ds) ≤ 8 ∧ xs[argD ds]? = some v ∧ Q v H
theorem cr_minD (hu : X.A.units + 64 < cLine) (hc : X.calm = true) : CallR X (.builtin "min") (rMinD X.A X.K) := by
  intro pins s σ H vs us Q I r h
  obtain ⟨p, xs, ds, v, rfl, hs, hd, hl, hn, al, dp, hv, q⟩ := h
  obtain ⟨its, rv, hil, _⟩ := I.list hs
  rw [Vals.ref1 r]
  obtain ⟨as, hr⟩ := Dp.readsAll I (toPys ds) xs its hd rv
  have hr' : ReadsAll s.heap its.toArray.toList (toPys ds) as := by simpa using hr
  have lits : its.toArray.size = ds.length := by rw [List.size_toArray, ← rv.length, hl]
  have hh : X.A.handled = none := I.ok.hd hc
  refine PySem.call_min_walkH (PySem.W.iter_listW (A := X.A.in1) hh hil.isList fun s₂ e W st hfp hw hk => ?_)
  refine ⟨_, _, _, _, _, _, _, s.heap, _, rfl, W, st, hfp, by omega, hw, hk, PySem.W.cmpIn_lt (A := X.A.in1) hr' al (by show X.A.units + 1 + _ < _; omega), fun u s' hP m => ?_⟩
  obtain ⟨h', tk, rfl, hk'⟩ := PySem.W.moved_old e rfl m
  have hP : its.toArray[argBest (fun i j => PySem.W.dataLt ((toPys ds).getD i .none) ((toPys ds).getD j .none)) (its.toArray.size - 1)]? = some u := hP
  rw [lits] at hP
  have hP : its.toArray[argD ds]? = some u := hP
  obtain ⟨u', hu', ru⟩ := rv.get hv
  have e3 : its.toArray[argD ds]? = some u' := by simpa using hu'
  rw [e3] at hP
  cases hP
  exact ⟨v, H, I.kept hk', ru, q⟩
def dMin : List D → Option D
  | [.lst ds] => minD ds
  | _ => none
theorem hd_minD {A : Around} : CallD K S (rMinD A K) dMin := by
  intro O H μ xs vs z Q wd rs e q
  match xs, rs, e with
  | [.lst ds], .cons r .nil, e =>
    have e : minD ds = some z := e
    unfold minD at e
    split at e
    · rename_i hc
      have r0 := dp_seen r
      cases r with | lst h1 h2 h3 =>
      rename_i p us
      obtain ⟨b1, b2, b3⟩ := Reps.py (h3.mono fun b o e _ => seen e) hc.1
      obtain ⟨v, hv, rv⟩ := h3.get e
      exact ⟨p, us, ds, v, rfl, .inl (.inl (seen h1)), b1, h3.length, hc.2.2, alikeD_all hc.2.1, b3, hv, q v H (Fr.refl _ _) wd rv⟩
    · cases e
/-- min(x), x a list of one's own -/
def eMinO (i : Nat) : E := fun Γ => M.bind (M.opt (ownL i Γ)) fun ds => M.opt (minD ds)
theorem de_minO (i : Nat) {x : Str} {p px : Pos} (hu : X.A.units + 64 < cLine) (hc : X.calm = true) (hm : X.mg "min" = none) (hv : bootBuiltins "min" = some (.builtin "min")) (hN : X.N[i]? = some x := by rfl) (hvx : Vis X.env.scope x := by first | exact Or.inl rfl | exact Or.inr (Or.inl rfl) | exact Or.inr (Or.inr rfl)) (hd : (x == ("__debug__" : Str)) = false := by decide)
    (hcd : (x == ("__classdict__" : Str)) = false := by decide) (hg : Gl X "min" := by rfl) (hs : starEach [.Name x px] X.env = (false, eval (.Name x px) X.env) :: starEach [] X.env := by rfl) (hpl : (backTo pos (starEach [] X.env)).any (·.1) = false := by rfl) :
    DE X S W (.Call (.Name "min" p) [.Name x px] [] pos) (eMinO i) :=
  peI (pe_callB (cr_minD hu hc) hg hm hv (pa_cons (pe_var hN hvx hd hcd) pa_nil hs)) fun σ H Q ⟨O, Γ, μ, w, ⟨Ob, s⟩, hq⟩ => by
    obtain ⟨ds, e1, g1⟩ := good_opt hq
    obtain ⟨eΓ, p', vs, eσ, hO, h0, hp, hl, hr⟩ := ownL_some s e1
    cases e : minD ds with
    | none => rw [e] at g1; exact False.elim g1
    | some z =>
      rw [e] at g1
      have g1 : ∀ H', Fr S H H' → Wd X.K S O H' μ → ∀ v, Rep X.K S (del H' O) v z → Q v H' := g1
      unfold minD at e
      split at e
      · rename_i hcc
        obtain ⟨b1, b2, b3⟩ := Reps.py (hr.mono fun b o e _ => seen e) hcc.1
        obtain ⟨v, hv, rv⟩ := hr.get e
        exact ⟨_, eσ, p', vs, ds, v, rfl, .inl (.inl hp), b1, hr.length, hcc.2.2, alikeD_all hcc.2.1, b3, hv, g1 H (Fr.refl _ _) w v rv⟩
      · cases e
/-- len(d), d a dict of one's own -/
def eLenDO (i : Nat) : E := fun Γ => M.bind (M.opt (ownK i Γ)) fun kd => M.pure (.int kd.1.length)
theorem de_lenDO (i : Nat) {x : Str} {p px : Pos} (hm : X.mg "len" = none) (hv : bootBuiltins "len" = some (.builtin "len")) (hN : X.N[i]? = some x := by rfl) (hvx : Vis X.env.scope x := by first | exact Or.inl rfl | exact Or.inr (Or.inl rfl) | exact Or.inr (Or.inr rfl)) (hd : (x == ("__debug__" : Str)) = false := by decide)
    (hcd : (x == ("__classdict__" : Str)) = false := by decide) (hg : Gl X "len" := by rfl) (hs : starEach [.Name x px] X.env = (false, eval (.Name x px) X.env) :: starEach [] X.env := by rfl) :
    DE X S W (.Call (.Name "len" p) [.Name x px] [] pos) (eLenDO i) :=
  peI (pe_callB call_lenD hg hm hv (pa_cons (pe_var hN hvx hd hcd) pa_nil hs)) fun σ H Q ⟨O, Γ, μ, w, ⟨Ob, s⟩, hq⟩ => by
    obtain ⟨kd, e1, g1⟩ := good_opt hq
    obtain ⟨eΓ, p', vs, eσ, hO, h0, hp, hl, hr⟩ := ownK_some s e1
    have g1 : ∀ H', Fr S H H' → Wd X.K S O H' μ → ∀ v, Rep X.K S (del H' O) v (.int kd.1.length) → Q v H' := g1
    refine ⟨_, eσ, p', kd.1.zip vs, rfl, hp, ?_⟩
    rw [List.length_zip, ← hl, Nat.min_self]
    exact g1 H (Fr.refl _ _) w _ (.int _)
/-- e != d, d a dict of one's own that is no other -/
def sameDk (ks : List Key) (ds : List D) (ls : List Key) (es : List D) : Bool := decide (ks.length = ls.length) && decide (ks.length = ds.length) && ((ks.zip ds).all fun p => match p.2, getK ls es p.1 with
  | .int i, some (.int j) => decide (i = j)
  | _, _ => false)
def eNeDO (f : E) (i : Nat) : E := fun Γ => M.bind (M.opt (ownK i Γ)) fun le => M.bind (f Γ) fun x => M.opt (match x with
  | .dk ks ds => if sameDk ks ds le.1 le.2 = true then some (.bl false) else none
  | _ => none)
theorem same_at {H H' : Hp} {ls : List Key} {es : List D} {ws : List V} (re : Reps K S H' ws es) : ∀ {ks : List Key} {vs : List V} {ds : List D}, Reps K S H vs ds → ks.length = ds.length → ((ks.zip ds).all fun p => match p.2, getK ls es p.1 with
  | .int i, some (.int j) => decide (i = j)
  | _, _ => false) = true → ∀ p ∈ ks.zip vs, valV (ls.zip ws) p.1 = some p.2 ∧ flatB p.2 = true
  | [], vs, ds, _, _, _ => fun p hp => by simp at hp
  | k :: ks, _, _, .nil, h, _ => by cases h
  | k :: ks, _, _, .cons (v := v) (vs := vs) (d := d) (ds := ds) r rs, hl, h => fun p hp => by
    rw [List.zip_cons_cons, List.all_cons, Bool.and_eq_true] at h
    rw [List.zip_cons_cons] at hp
    rcases List.mem_cons.mp hp with rfl | hp
    · have h1 := h.1
      cases d with
      | int i =>
        cases r
        cases e : getK ls es k with
        | none => simp only [e] at h1; cases h1
        | some z =>
          simp only [e] at h1
          cases z with
          | int j =>
            have ij : i = j := by simpa using h1
            subst ij
            obtain ⟨v', e1, r1⟩ := re.getK e
            cases r1
            exact ⟨by rw [valV_zip]; exact e1, rfl⟩
          | _ => cases h1
      | _ => cases h1
    · exact same_at re rs (Nat.succ.inj hl) h.2 p hp
theorem de_neDO (i : Nat) {x : Str} {px : Pos} (hu : X.A.units + 64 < cLine) (ha : DE X S W a f) (hN : X.N[i]? = some x := by rfl) (hvx : Vis X.env.scope x := by first | exact Or.inl rfl | exact Or.inr (Or.inl rfl) | exact Or.inr (Or.inr rfl)) (hd : (x == ("__debug__" : Str)) = false := by decide)
    (hcd : (x == ("__classdict__" : Str)) = false := by decide) (hm : behindInMarks .NotEq (.Name x px) = false := by rfl) : DE X S W (.Compare a [.NotEq] [.Name x px] pos) (eNeDO f i) :=
  peI (pe_cmpR (op_ne_dictA (by omega)) ha (pe_var hN hvx hd hcd) hm) fun σ H Q ⟨O, Γ, μ, w, ⟨Ob, s⟩, hq⟩ => by
    obtain ⟨le, e1, g1⟩ := good_opt hq
    obtain ⟨eΓ, p', ws, eσ, hO, h0, hp, hl, hr⟩ := ownK_some s e1
    refine ⟨O, Γ, μ, w, ⟨Ob, s⟩, (good_bind g1).imp (fun y μ1 g2 H1 f1 w1 v rv => ?_) fun _ _ z => z⟩
    have hp1 : H1 p' = some (.dK (le.1.zip ws)) := f1.keep _ _ hp (fun z => h0 (s.hb _ z)) nt_dK
    cases y with
    | dk ks ds =>
      by_cases hc : sameDk ks ds le.1 le.2 = true
      · simp only [hc, if_true] at g2
        have g2 : ∀ H', Fr S H1 H' → Wd X.K S O H' μ1 → ∀ v, Rep X.K S (del H' O) v (.bl false) → Q v H' := fun H' f' w' v rv => g2 H' (f1.trans f') w' v rv
        unfold sameDk at hc
        rw [Bool.and_eq_true, Bool.and_eq_true] at hc
        obtain ⟨⟨c1, c2⟩, c3⟩ := hc
        have c1 : ks.length = le.1.length := by simpa using c1
        have c2 : ks.length = ds.length := by simpa using c2
        cases rv with | dk q1 q2 q3 =>
        rename_i ad vs
        refine ⟨_, eσ, ad, p', ks.zip vs, le.1.zip ws, rfl, rfl, seen q1, hp1, ?_, same_at hr q3 c2 c3, g2 H1 (Fr.refl _ _) w1 _ (.bl _)⟩
        rw [List.length_zip, List.length_zip, ← q2, ← hl, Nat.min_self, Nat.min_self]
        exact c1
      · simp only [hc, if_false] at g2
        exact False.elim g2
    | _ => exact False.elim g2
end
end Dd
namespace Dd
open PySem PySem.Spec L2 LiI

/-! ### a new thing of one's own, made on the way -/
theorem Fm.own2 {K : PySem.W.Frag} {S : Sg} {H0 : Hp} {O0 O : Addr → Prop} {σ : St} {H H' : Hp} {Γ : Env} {μ μ' : List D} (m : Fm K S H0 O0 O σ H Γ μ) {i : Nat} {p : Addr} {d : D} (hp : H p = none) (f : Fr S H H') (w : Wd K S (With O p) H' μ') (c : CellIs K S (del H' (With O p)) H' p d) :
    Fm K S H0 O0 (With O p) (σ.set i (some (.ref p))) H' (Γ.set i (.o d)) μ' ∧ Stp O H (With O p) H' := by
  have nO : ¬ O p := m.wd.fresh hp
  have n0 : ¬ O0 p := fun z => nO (m.up _ z)
  have kp : ∀ b o, del H O b = some o → NT o → del H' (With O p) b = some o := fun b o e n => by
    obtain ⟨h1, h2⟩ := del_some e
    rw [del_out (fun z => z.elim h2 (ne_of_none h1 hp))]
    exact f.keep b o h1 (fun z => h2 (m.wd.rho b z)) n
  refine ⟨⟨w, ⟨by rw [List.length_set, List.length_set, m.sl.len], m.sl.hb, fun j z e => ?_, fun j k a q r e1 e2 e3 e4 => ?_⟩, m.fr.trans f, fun a h => .inl (m.up a h), fun a h => h.elim (m.nw a) fun z => .inr (by
    cases q : H0 p with
    | none => rw [z]; exact q
    | some u => exact absurd hp (m.fr.dom p (by rw [q]; intro e; cases e)))⟩, ⟨fun b o e n t => f.keep b o e (fun z => n (m.wd.rho b z)) t, f.dom, fun _ h => .inl h, fun a h => h.elim .inl fun z => .inr (by rw [z]; exact hp)⟩⟩
  · by_cases h : i = j
    · subst h
      by_cases hi : i < Γ.length
      · rw [List.getElem?_set_self hi] at e
        cases e
        exact ⟨p, by rw [List.getElem?_set_self (by rw [m.sl.len]; exact hi)], .inr rfl, n0, c⟩
      · rw [List.getElem?_eq_none (by rw [List.length_set]; omega)] at e
        cases e
    · rw [List.getElem?_set_ne h] at e ⊢
      have q := m.sl.at_ j z e
      cases z with
      | no => trivial
      | v dd => obtain ⟨x, e, r⟩ := q; exact ⟨x, e, r.mono kp⟩
      | o dd =>
        obtain ⟨a, e, h1, h2, c'⟩ := q
        obtain ⟨o, ho, hm⟩ := c'.there
        exact ⟨a, e, .inl h1, h2, c'.mono kp ((f.keep a o ho (fun z => h2 (m.sl.hb a z)) (mutK_nt hm)).trans ho.symm)⟩
  · have old : ∀ (j : Nat) (d' : D), Γ[j]? = some (.o d') → σ[j]? ≠ some (some (.ref p)) := fun j d' e1 e2 => by
      obtain ⟨a, e3, _, _, c'⟩ := m.sl.at_ j _ e1
      rw [e3] at e2
      cases e2
      obtain ⟨o, e4, _⟩ := c'.there
      rw [hp] at e4
      cases e4
    by_cases h : i = j
    · subst h
      by_cases h' : i = k
      · exact h'
      · exfalso
        rw [List.getElem?_set_ne h'] at e2 e4
        by_cases hi : i < σ.length
        · rw [List.getElem?_set_self hi] at e3
          cases e3
          exact old k r e2 e4
        · rw [List.getElem?_eq_none (by rw [List.length_set]; omega)] at e3
          cases e3
    · rw [List.getElem?_set_ne h] at e1 e3
      by_cases h' : i = k
      · subst h'
        exfalso
        by_cases hi : i < σ.length
        · rw [List.getElem?_set_self hi] at e4
          cases e4
          exact old j q e1 e3
        · rw [List.getElem?_eq_none (by rw [List.length_set]; omega)] at e4
          cases e4
      · rw [List.getElem?_set_ne h'] at e2 e4
        exact m.sl.dis j k a q r e1 e2 e3 e4

/-! ### y = {k: v for t in it}: a dict of one's own -/
section
variable {X : Cx}
/-- it holds wherever the block of a comprehension runs -/
abbrev InBlk (X : Cx) (scope : Scope) (p : Cx → Prop) : Prop := ∀ (s : Shared) (H : Hp) (C : Addr) (cl : List (Str × Addr)) (fp : List Addr), p (X.blk s H scope (compEnvC scope cl C X.env) fp)
/-- a local name is given what a block has made, and the block's frame is let go -/
theorem name_made {i : Nat} {y : Str} {py : Pos} {pins : List (Addr × Obj)} {s : Shared} {σ : St} {H : Hp} {L C : Addr} {m : Str → Option Value} {D : Ends} (I : Inv X pins σ H s) (nd : X.N.Nodup) (at_ : X.N[i]? = some y) (loc : X.env.scope.names.lookup y = some .local)
    (ns : s.heap.Ns C m) (free : FpOk X pins H C) (q : D.nx (σ.set i (some (.ref L))) H) :
    wpAny (model X.prog X.w) X.A (assign (.Name y py) X.env (.ref L)) (fun _ s1 => ∃ m2, s1.heap.Ns C m2 ∧ ∀ h2, Heap.SameBut C s1.heap h2 → SP X pins D .next { s1 with heap := h2 }) X.xe s := by
  have ⟨f0, f1, f2, f3, f4, f5⟩ := free
  refine wpAny_assign_Name (store_ok2 (v := V.ref L) I nd at_ (.inl loc) rfl (fun s1 I1 ⟨a, sb, ha⟩ => ⟨m, ns.sameBut sb ?_, fun h2 sb2 => ?_⟩) (.inr loc))
  · exact ha.elim (fun e => e ▸ f1) fun e z => f4 y a e z.symm
  · exact ⟨_, H, I1.turned (t' := s1.toks) (fun b o ne e => sb2.2 b ne ▸ e) f0 f1 f3 f4 f5, q⟩
theorem ps_setDc {i : Nat} {y : Str} {py : Pos} {kx vx tg iter : Expr} {ifs : List Expr} {scope : Scope} {own : List (Str × Nat)} {pos spos : Pos} {wi : TI} {g : TG} {tt : TT} {tk tv : TE} (hc : X.calm = true) (hN : X.N.Nodup) (hy : X.N[i]? = some y) (hyl : X.env.scope.names.lookup y = some .local)
    (hsw : swapsWith (.DictComp kx vx [⟨tg, iter, ifs, 0⟩] scope pos) (some (.Name y py)) spos.line X.env = pure true) (hi : PI X tg iter wi) (ok : BlkOk X.N X.env.scope scope own)
    (hg : InBlk X scope fun Y => PG Y tg g) (ht : InBlk X scope fun Y => PTs Y ifs tt) (hk : InBlk X scope fun Y => PE Y kx tk) (he : InBlk X scope fun Y => PE Y vx tv) (hs : ∀ x, foldedSetIterable iter X.env x = pure x := by intro _; rfl) :
    PS X (.Assign [.Name y py] (.DictComp kx vx [⟨tg, iter, ifs, 0⟩] scope pos) spos) (tAsg (tDc wi g tt tk tv (own.map (·.2))) (gName i)) where
  run := fun pins s σ H D I h => by
    rw [exec_Assign_Name_used _ _ _ _ hsw]
    refine wpAny_bind (wpAny_standAt (wpAny_bind ?_))
    refine wpAny_bind (m := comprehension _ _ _ _ _ _ _ _) (thn (dc_core (Q := fun x H1 => gName i x σ H1 D.nx) (Qf := fun _ s1 => SP X pins D .next s1) hc hN I hi ok hg ht hk he hs h fun L C s1 m H1 I1 q ns f => ?_) fun _ _ r => wpAny_pure (wpAny_pure r))
    exact name_made I1 hN hy hyl ns f q
theorem sw_trueD {kx vx : Expr} {gs : List Comprehension} {scope : Scope} {pos py : Pos} {y : Str} {l : Nat} {env : PySem.Env} (hk : env.scope.kind = .function) (hy : env.scope.names.lookup y = some .local) (hl : (py.line == pos.line) = true)
    (ha : (scope.names.any fun (n, k) => n == y && (k == .local || k == .cell)) = false) : swapsWith (.DictComp kx vx gs scope pos) (some (.Name y py)) l env = pure true := by
  have k1 : env.blockKind = ScopeKind.function := by simp [Env.blockKind, hk]
  have k2 : env.kindOf y = some NameKind.local := hy
  simp only [swapsWith, Expr.pos, k1, k2, ha, hl]
  rfl
end
def dcF (T : Tgt) (fk fv : E) (Γ : Env) : KD → List D → M KD
  | acc, [] => M.pure acc
  | acc, d :: ds => M.bind (M.opt (T d Γ)) fun Γ1 => M.bind (fk Γ1) fun x => M.bind (fv Γ1) fun y => M.bind (M.opt (keyOf x)) fun k => if acc.1.length < 16777216 then dcF T fk fv Γ (putKs acc.1 k, putVs acc.1 acc.2 k y) ds else M.bad
theorem dc_turns {K : PySem.W.Frag} {S : Sg} {O : Addr → Prop} {σ : St} {Γ : Env} {H1 : Hp} {μ : List D} {J : It} {ds : List D} {T : Tgt} {is vs : List Nat} {fk fv : E} {Dn : Addr} {Q : VK} (hD : H1 Dn = none) (w : Wd K S O H1 μ) (s : Sls K S O H1 σ Γ) (it : ItOk K S O H1 J ds) (hiv : ∀ i ∈ is, i ∈ vs)
    (g : Good (dcF T fk fv (wipeG Γ vs) ([], []) ds μ) (fun kd μ' => ∀ H', Fr S H1 H' → Wd K S (With O Dn) H' μ' → CellIs K S (del H' (With O Dn)) H' Dn (.dk kd.1 kd.2) → Q (.ref Dn) H') (fun _ _ => False)) :
    ∃ W : Nat → Nat → Hp → Prop, (∃ m, W 0 m (upd H1 Dn (.dK []))) ∧ ∀ i m H, W i m H →
      (J.stop i H ∧ Q (.ref Dn) H) ∨ (J.go i H ∧ ∃ Nx : Hp → Prop, (∀ H', Nx H' → ∃ m', m' < m ∧ W (i + 1) m' H') ∧ ∀ x H', J.yld i H x H' → tG K S T is x (wipe σ vs) H' fun σ2 H2 => wipe σ2 vs = wipe σ vs ∧ tB K S E0' bYes σ2 H2 fun b H3 =>
        if b = true then tD K S E0' fk σ2 H3 fun y H4 => tD K S E0' fv σ2 H4 fun z H5 => ∃ kvs k, y = kV k ∧ H5 Dn = some (.dK kvs) ∧ kvs.length < sizeLine ∧ Nx (upd H5 Dn (.dK (putK kvs k z))) else Nx H3) := by
  obtain ⟨Ob, s⟩ := s
  have hOD : ¬ O Dn := w.fresh hD
  have nr : Dn ∉ S.ρ := fun z => hOD (w.rho _ z)
  have hD' : With O Dn Dn := .inr rfl
  refine ⟨fun i m H => m = ds.length - i ∧ i ≤ ds.length ∧ ∃ (ks : List Key) (us : List V) (es μi : List D), Stp O H1 (With O Dn) H ∧ Fr S H1 H ∧ Wd K S (With O Dn) H μi ∧ SlsB K S Ob (With O Dn) H (wipe σ vs) (wipeG Γ vs) ∧ H Dn = some (.dK (ks.zip us)) ∧ ks.length = us.length ∧ Reps K S (del H (With O Dn)) us es ∧
      Good (dcF T fk fv (wipeG Γ vs) (ks, es) (ds.drop i) μi) (fun kd μ' => ∀ H', Fr S H1 H' → Wd K S (With O Dn) H' μ' → CellIs K S (del H' (With O Dn)) H' Dn (.dk kd.1 kd.2) → Q (.ref Dn) H') (fun _ _ => False), ⟨ds.length, by simp, Nat.zero_le _, [], [], [], μ, ⟨fun b o h n t => by rw [upd_ne (ne_of_none h hD)]; exact h, upd_dom, fun a h => .inl h, fun a h => h.elim .inl fun z => .inr (z ▸ hD)⟩, Fr.add hD, w.more hD, (s.wipe vs).more hD, upd_same, rfl, .nil, g⟩, ?_⟩
  rintro i m H ⟨rfl, hi, ks, us, es, μi, st, fr, wi, si, ea, hl, ra, gi⟩
  by_cases hlt : i < ds.length
  · obtain ⟨go, yl⟩ := it.go i H (With O Dn) μi st wi hlt
    refine .inr ⟨go, _, fun H' h => ⟨ds.length - (i + 1), by omega, h⟩, fun x H' hy => ?_⟩
    obtain ⟨f3, w3, d, ed, rd⟩ := yl x H' hy
    have edr : ds.drop i = d :: ds.drop (i + 1) := by
      obtain ⟨h1, h2⟩ := List.getElem?_eq_some_iff.mp ed
      rw [← h2]
      exact List.drop_eq_getElem_cons h1
    rw [edr] at gi
    unfold dcF at gi
    cases eT : T d (wipeG Γ vs) with
    | none => rw [eT] at gi; exact False.elim gi
    | some Γ1 =>
      rw [eT] at gi
      simp only [M.opt_some, M.pure_bind] at gi
      refine ⟨Ob, With O Dn, wipeG Γ vs, μi, d, Γ1, w3, si.fr wi f3, rd, eT, fun H4 σ4 f4 w4 s4 hw => ⟨(hw vs hiv).trans wipe_wipe, ?_⟩⟩
      refine ⟨With O Dn, Γ1, μi, w4, ⟨Ob, s4⟩, fun H5 f5 w5 => ?_⟩
      simp only [if_true]
      refine ⟨With O Dn, Γ1, μi, w5, ⟨Ob, s4.fr w4 f5⟩, (good_bind gi).imp (fun x μ6 g6 H6 f6 w6 v rv => ?_) (fun _ _ z => z.elim)⟩
      refine ⟨With O Dn, Γ1, μ6, w6, ⟨Ob, (s4.fr w4 f5).fr w5 f6⟩, (good_bind g6).imp (fun y μ7 g7 H7 f7 w7 u ru => ?_) (fun _ _ z => z.elim)⟩
      obtain ⟨k, ek, g8⟩ := good_opt g7
      obtain ⟨hlt2, g9⟩ := good_if g8
      have f07 := f3.trans (f4.trans (f5.trans (f6.trans f7)))
      have ea7 : H7 Dn = some (.dK (ks.zip us)) := f07.keep _ _ ea nr nt_dK
      have frr : Fr S H1 (upd H7 Dn (.dK (putK (ks.zip us) k u))) := ⟨fun b o h n t => by
        rw [upd_ne (ne_of_none h hD)]
        exact (fr.trans f07).keep b o h n t, fun b h => upd_dom b ((fr.trans f07).dom b h)⟩
      refine ⟨ks.zip us, k, keyOf_rep ek rv, ea7, by rw [List.length_zip, ← hl, Nat.min_self, sizeLine_def]; exact hlt2, by first | rfl | trivial, hlt, putKs ks k, putVs ks us k u, putVs ks es k y, μ7, ?_, frr, w7.write hD' nr ea7 rfl, ?_, ?_, put_len hl k u, ?_, g9⟩
      · refine (st.trans (Stp.of f07 wi)).trans ⟨fun b o h n t => ?_, upd_dom, fun _ h => h, fun _ h => .inl h⟩
        rw [upd_ne (fun z => n (by rw [z]; exact hD'))]
        exact h
      · have s6 := si.fr wi f07
        refine ⟨s6.len, s6.hb, fun j z e => ?_, s6.dis⟩
        have q := s6.at_ j z e
        cases z with
        | no => trivial
        | v dd => obtain ⟨x, e, r⟩ := q; exact ⟨x, e, r.mono (keep_write hD')⟩
        | o dd =>
          obtain ⟨a, e, h1, h2, c⟩ := q
          refine ⟨a, e, h1, h2, c.mono (keep_write hD') ?_⟩
          rw [upd_ne]
          rintro rfl
          have e0 := (s.wipe vs).at_ j _ (by assumption)
          obtain ⟨a', e', h1', _, c'⟩ := e0
          rw [e'] at e
          cases e
          exact hOD h1'
      · rw [upd_same, putK_zip k u hl]
      · exact (((wi.reps f07 ra).putV ru)).mono (keep_write hD')
  · have ei : i = ds.length := by omega
    subst ei
    refine .inl ⟨it.stop _ H (With O Dn) μi st wi (Nat.le_refl _), ?_⟩
    rw [List.drop_length] at gi
    exact gi H fr wi ⟨us, ea, hl, ra⟩
section
variable {X : Cx} {S : Sg} {W : XK} {pos : Pos} {a b : Expr} {f g : E}
def sOwnDc (i : Nat) (fi : Env → M (List D)) (T : Tgt) (fk fv : E) (vs : List Nat) : SF := fun Γ => M.bind (fi Γ) fun ds => M.bind (nox (dcF T fk fv (wipeG Γ vs) ([], []) ds)) fun kd => M.pure (.nx (Γ.set i (.o (.dk kd.1 kd.2))))
theorem ds_ownDc (i : Nat) {y : Str} {py : Pos} {kx vx tg iter : Expr} {scope : Scope} {own : List (Str × Nat)} {lpos : Pos} {fi : Env → M (List D)} {T : Tgt} {is : List Nat} {fk fv : E} (hc : X.calm = true) (hN : X.N.Nodup)
    (hsw : swapsWith (.DictComp kx vx [⟨tg, iter, [], 0⟩] scope lpos) (some (.Name y py)) pos.line X.env = pure true) (hi : DI X S W tg iter fi) (ok : BlkOk X.N X.env.scope scope own) (hiv : ∀ i ∈ is, i ∈ own.map (·.2))
    (hg : ∀ (s : Shared) (H : Hp) (C : Addr) (cl : List (Str × Addr)) (fp : List Addr), DG (X.blk s H scope (compEnvC scope cl C X.env) fp) S tg T is)
    (hk : ∀ (s : Shared) (H : Hp) (C : Addr) (cl : List (Str × Addr)) (fp : List Addr), DE (X.blk s H scope (compEnvC scope cl C X.env) fp) S E0' kx fk)
    (he : ∀ (s : Shared) (H : Hp) (C : Addr) (cl : List (Str × Addr)) (fp : List Addr), DE (X.blk s H scope (compEnvC scope cl C X.env) fp) S E0' vx fv) (hy : X.N[i]? = some y := by rfl) (hyl : X.env.scope.names.lookup y = some .local := by rfl) (hs : ∀ x, foldedSetIterable iter X.env x = pure x := by intro _; rfl) :
    DS X S W (.Assign [.Name y py] (.DictComp kx vx [⟨tg, iter, [], 0⟩] scope lpos) pos) (sOwnDc i fi T fk fv (own.map (·.2))) :=
  psI (ps_setDc hc hN hy hyl hsw hi ok hg (fun s H C cl fp => dts_nil (S := S) (W := E0')) hk he hs) fun Z σ H ⟨H0, O0, O, Γ, μ, m, g⟩ => ⟨O, (st_run m g).mono fun ds H1 _ _ w f' w' ⟨μ1, f1, m1, g1⟩ J it Dn hD => by
    refine dc_turns (fk := fk) (fv := fv) (T := T) (Q := fun x H1 => gName i x σ H1 Z.nx) hD m1.wd ⟨O0, m1.sl⟩ it hiv ?_
    refine (good_nox (good_bind g1)).imp (fun kd μ2 g2 H' f2 w2 c => ?_) fun _ _ z => z
    obtain ⟨m3, s3⟩ := m1.own2 (i := i) hD f2 w2 c
    exact g2 _ _ _ m3 ((Stp.of f1 w).trans s3)⟩

/-! ### list(d.items()), dict(pairs) -/
def keyD : Key → D
  | .inl i => .int i
  | .inr s => .str s
def keyOk : Key → Bool
  | .inl _ => true
  | .inr s => decide (s.length ≤ 16777216) && PyData.strOk s
theorem keyD_rep {K : PySem.W.Frag} {H : Hp} {k : Key} (h : keyOk k = true) : Rep K S H (kV k) (keyD k) := by
  cases k with
  | inl i => exact .int i
  | inr s =>
    unfold keyOk at h
    rw [Bool.and_eq_true] at h
    exact .str s (by rw [sizeLine_def]; simpa using h.1) h.2
theorem Wd.ext {K : PySem.W.Frag} {O : Addr → Prop} {H H' : Hp} {μ : List D} (w : Wd K S O H μ) (e : ∀ b o, H b = some o → H' b = some o) : Wd K S O H' μ ∧ Fr S H H' := by
  have fr : Fr S H H' := ⟨fun b o h _ _ => e b o h, fun b h => by
    cases q : H b with
    | none => exact absurd q h
    | some o => rw [e b o q]; intro z; cases z⟩
  refine ⟨⟨w.tabs.ext e, fun a h => fr.dom a (w.hid a h), fun a h => (let ⟨o, h1, h2⟩ := w.hm a h; ⟨o, e _ _ h1, h2⟩), w.rho, w.len, fun j c h => ?_⟩, fr⟩
  obtain ⟨a, h1, h2⟩ := w.amb j c h
  obtain ⟨o, ho, _⟩ := h2.there
  exact ⟨a, h1, h2.mono (w.keep fr) ((e _ _ ho).trans ho.symm)⟩
def itemsD (ks : List Key) (ds : List D) : List D := (ks.zip ds).map fun p => .tup [keyD p.1, p.2]
theorem items_rep {K : PySem.W.Frag} {H H' : Hp} {ks : List Key} (hk : ks.all keyOk = true) : ∀ {ts : List Addr} {vs : List V} {ds : List D}, (∀ t ∈ ts, ∀ o, H' t = some o → H t = some o) → ks.length = vs.length → Reps K S H vs ds → Paired (fun (t : Addr) (q : Key × V) => H' t = some (.tup [kV q.1, q.2])) ts (ks.zip vs) → Reps K S H (ts.map V.ref) (itemsD ks ds) := by
  induction ks with
  | nil =>
    intro ts vs ds _ hl _ p
    cases vs with
    | nil => cases p; exact .nil
    | cons _ _ => cases hl
  | cons k ks ih =>
    intro ts vs ds hh hl r p
    cases r with
    | nil => cases hl
    | cons r1 r2 =>
      rw [List.zip_cons_cons] at p
      cases p with
      | cons p1 p2 =>
        rw [List.all_cons, Bool.and_eq_true] at hk
        rw [List.map_cons]
        unfold itemsD
        rw [List.zip_cons_cons, List.map_cons]
        refine .cons (.tup (.inl (.inl (hh _ List.mem_cons_self _ p1))) (by rw [sizeLine_def]; exact (show 2 ≤ 16777216 by decide)) (.cons (keyD_rep hk.1) (.cons r1 .nil))) (ih hk.2 (fun t ht => hh t (List.mem_cons_of_mem _ ht)) (Nat.succ.inj hl) r2 p2)
def eListItems (f : E) : E := fun Γ => M.bind (f Γ) fun x => M.opt (match x with
  | .dk ks ds => if ks.all keyOk = true ∧ ks.length ≤ 16777216 then some (.lst (itemsD ks ds)) else none
  | _ => none)
theorem paired_len {α β : Type} {R : α → β → Prop} {xs : List α} {ys : List β} (p : Paired R xs ys) : xs.length = ys.length := Paired.length p
theorem de_listItems {p cpos apos : Pos} (hc : X.calm = true) (he : DE X S W a f) (hm : X.mg "list" = none) (hv : bootBuiltins "list" = some (.type "list")) (hg : Gl X "list" := by rfl) (hbase : attributeBase a "items" X.env (eval a X.env) = eval a X.env := by rfl) (hline : (apos.endLine == cpos.line) = true := by rfl)
    (hs : starEach [.Call (.Attribute a "items" apos) [] [] cpos] X.env = (false, eval (.Call (.Attribute a "items" apos) [] [] cpos) X.env) :: starEach [] X.env := by rfl) :
    DE X S W (.Call (.Name "list" p) [.Call (.Attribute a "items" apos) [] [] cpos] [] pos) (eListItems f) :=
  peI (LiI.pe_listItems hc he hg hm hv hbase hline hs) fun σ H Q ⟨O, hq⟩ => ⟨O, (Run.bind hq).mono fun x H1 μ μ1 w0 f1 w1 h1 v rv => by
    obtain ⟨z, μ4, e, w4, q⟩ := Run.opt h1
    cases x with
    | dk ks ds =>
      have e : (if ks.all keyOk = true ∧ ks.length ≤ 16777216 then some (D.lst (itemsD ks ds)) else none) = some z := e
      split at e
      · rename_i hk
        cases e
        cases rv with | dk p1 p2 p3 =>
        rename_i ad vs
        refine ⟨ad, ks.zip vs, rfl, seen p1, fun H' pn ts ext np nts npt hp pr => ?_⟩
        obtain ⟨w5, f5⟩ := w4.ext ext
        have tO : ∀ t ∈ ts, ¬ O t := fun t ht => w4.fresh (nts t ht)
        refine q H' f5 w5 _ (.lst (vs := ts.map V.ref) ?_ ?_ (items_rep (H' := H') hk.1 (fun t ht o e => by rw [del_out (tO t ht)]; exact e) p2 (w4.reps f5 p3) pr))
        · rw [del_out (w4.fresh np)]
          exact hp
        · have l1 := Paired.length pr
          rw [List.length_map, l1, List.length_zip, ← p2, Nat.min_self, sizeLine_def]
          exact hk.2
      · cases e
    | _ => cases e⟩
def pairsOf : List D → Option KD
  | [] => some ([], [])
  | .tup [x, y] :: r => (keyOf x).bind fun k => (pairsOf r).map fun kd => (k :: kd.1, y :: kd.2)
  | _ :: _ => none
theorem pairs_rep {K : PySem.W.Frag} {O : Addr → Prop} {H : Hp} : ∀ {ps : List D} {vs : List V} {kd : KD}, pairsOf ps = some kd → Reps K S (del H O) vs ps → ∃ (ts : List Addr) (us : List V), vs = ts.map V.ref ∧ kd.1.length = us.length ∧ kd.1.length = kd.2.length ∧ Reps K S (del H O) us kd.2 ∧ Paired (fun (p : Addr) (kv : Key × V) => SqT K H p [kV kv.1, kv.2]) ts (kd.1.zip us)
  | [], _, _, e, r => by
    cases e
    cases r
    exact ⟨[], [], rfl, rfl, rfl, .nil, .nil⟩
  | d :: ps, _, kd, e, .cons r1 r2 => by
    unfold pairsOf at e
    split at e
    · rename_i h; cases h
    · rename_i x y r h
      cases h
      obtain ⟨k, ek, e2⟩ := Option.bind_eq_some_iff.mp e
      obtain ⟨kd', e3, e4⟩ := Option.map_eq_some_iff.mp e2
      subst e4
      obtain ⟨ts, us, h1, h2, h3, h4, h5⟩ := pairs_rep e3 r2
      cases r1 with | tup q1 q2 q3 =>
      rename_i ta vs2
      cases q3 with | cons a1 b1 =>
      cases b1 with | cons a2 b2 =>
      cases b2
      rename_i v1 v2
      have ev := keyOf_rep ek a1
      subst ev
      exact ⟨ta :: ts, v2 :: us, by rw [h1]; rfl, by rw [List.length_cons, List.length_cons, h2], by rw [List.length_cons, List.length_cons, h3], .cons a2 h4, by rw [List.zip_cons_cons]; exact .cons (seenT q1) h5⟩
    · cases e
def dDictP : List D → Option D
  | [.lst ps] => (pairsOf ps).bind fun kd => if kd.1.Nodup then some (.dk kd.1 kd.2) else none
  | _ => none
def rDictP (K : PySem.W.Frag) : List V → Hp → VK → Prop := fun xs H Q => ∃ (a : Addr) (ps : List Addr) (kvs : List (Key × V)), xs = [.ref a] ∧ SqL K H a (ps.map V.ref) ∧ Paired (fun p kv => SqT K H p [kV kv.1, kv.2]) ps kvs ∧ ∀ p, H p = none → Q (.ref p) (upd H p (.dK (mergeK [] kvs)))
theorem hd_dictP {K : PySem.W.Frag} : CallD K S (rDictP K) dDictP := by
  intro O H μ xs vs z Q wd rs e q
  match xs, rs, e with
  | [.lst ps], .cons r .nil, e =>
    obtain ⟨kd, e1, e2⟩ := Option.bind_eq_some_iff.mp (show (pairsOf ps).bind (fun kd => if kd.1.Nodup then some (D.dk kd.1 kd.2) else none) = some z from e)
    split at e2
    · rename_i nd
      cases e2
      cases r with | lst h1 h2 h3 =>
      rename_i ad us0
      obtain ⟨ts, us, q1, q2, q3, q4, q5⟩ := pairs_rep e1 h3
      refine ⟨ad, ts, kd.1.zip us, rfl, .inl (.inl (by rw [← q1]; exact seen h1)), q5, fun p hp => ?_⟩
      rw [merge_zip q2 nd]
      exact q _ _ (Fr.add hp) (wd.add hp) (.dk (by rw [del_out (wd.fresh hp)]; exact upd_same) q2 (wd.reps (Fr.add hp) q4))
    · cases e2
/-- x = dict(pairs), a dict of one's own -/
def sOwnDict (i : Nat) (fs : Env → M (List D)) : SF := fun Γ => M.bind (fs Γ) fun xs => M.bind (M.opt (match xs with
  | [.lst ps] => (pairsOf ps).bind fun kd => if kd.1.Nodup then some kd else none
  | _ => none)) fun kd => M.pure (.nx (Γ.set i (.o (.dk kd.1 kd.2))))
theorem ds_ownDict (i : Nat) {x : Str} {px pp cpos : Pos} {e : Expr} {fs : Env → M (List D)} (hc : X.calm = true) (hN : X.N.Nodup) (ha : DA X S W [e] fs) (hm : X.mg "dict" = none) (hv : bootBuiltins "dict" = some (.type "dict")) (hi : X.N[i]? = some x := by rfl) (hx : Loc X.env.scope x := by first | exact Or.inl rfl | exact Or.inr rfl)
    (hs : swapsWith (.Call (.Name "dict" pp) [e] [] cpos) (some (.Name x px)) pos.line X.env = pure false := by rfl) (hf : X.fn x = true ∨ X.env.scope.names.lookup x = some .local := by first | exact .inl rfl | exact .inr rfl) (hg : Gl X "dict" := by rfl)
    (hst : starEach [e] X.env = (false, eval e X.env) :: starEach [] X.env := by rfl) (hpl : (backTo cpos (starEach [] X.env)).any (·.1) = false := by rfl) : DS X S W (.Assign [.Name x px] (.Call (.Name "dict" pp) [e] [] cpos) pos) (sOwnDict i fs) :=
  psI (ps_set hN hi hx (pe_callTy (call_dictP hc) hg hm hv ha (by decide) (by decide) hst hpl) hs hf) fun Z σ H ⟨H0, O0, O, Γ, μ, m, g⟩ => ⟨O, (st_run m g).mono fun xs H1 _ _ w f' w' ⟨μ1, f1, m1, g1⟩ vs rs => by
    obtain ⟨kd, e, g2⟩ := good_opt g1
    match xs, rs, e with
    | [.lst ps], .cons r .nil, e =>
      obtain ⟨kd', e1, e2⟩ := Option.bind_eq_some_iff.mp (show (pairsOf ps).bind (fun kd => if kd.1.Nodup then some kd else none) = some kd from e)
      split at e2
      · rename_i nd
        cases e2
        cases r with | lst h1 h2 h3 =>
        rename_i ad us0
        obtain ⟨ts, us, q1, q2, q3, q4, q5⟩ := pairs_rep e1 h3
        refine ⟨ad, ts, kd.1.zip us, rfl, .inl (.inl (by rw [← q1]; exact seen h1)), q5, fun p hp => ?_⟩
        rw [merge_zip q2 nd]
        exact g2 _ _ _ (m1.own hp ⟨us, upd_same, q2, q4.mono (keep_with hp)⟩) ((Stp.of f1 w).trans (stp_more hp))
      · cases e2
    | [], _, e => cases e
    | .lst _ :: _ :: _, _, e => cases e⟩
end
end Dd
namespace Dd
open PySem PySem.Spec L2 PyProof.Rows

/-! ### enumerate of a tuple -/
def IteT (K : PySem.W.Frag) (a : Addr) : It :=
  ⟨fun i H => ∃ (xs : List V) (x : V), SqT K H a xs ∧ xs[i]? = some x, fun i H v H' => ∃ T x, v = .ref T ∧ H T = none ∧ H' = upd H T (.tup [.int (i : Nat), x]) ∧ ∀ xs, SqT K H a xs → xs[i]? = some x, fun i H => ∃ xs : List V, SqT K H a xs ∧ xs.length ≤ i⟩
theorem turn_enumT {P : Program} {w : World} {K : PySem.W.Frag} {elts : List Expr} {kk : Nat} {tpos : Pos} (a e it : Addr) (hai : a ≠ it) (hae : a ≠ e) :
    Turn P w K (.Tuple elts kk tpos) (IteT K a) [e, it] e (fun i h => (∃ old, IsEnum h e it ((i : Nat) : Int) old) ∧ h.IsTupleIter it a i ∧ e ≠ it) where
  mem := .head _
  obj := fun i h ⟨⟨_, he⟩, ⟨o, ho, _, hd⟩, _⟩ => by
    simp only [List.mem_cons, List.not_mem_nil, or_false, forall_eq_or_imp, forall_eq]
    exact ⟨⟨_, he, fun _ q => nomatch q⟩, o, ho, fun _ q => by rw [hd] at q; cases q⟩
  keep := fun i h h' ⟨⟨old, he⟩, hi, hne⟩ k => ⟨⟨old, k e (.head _) _ he⟩, hi.at (k it (.tail _ (.head _))), hne⟩
  item := by
    rintro X rfl rfl rfl hc i pins s σ H E I hf ⟨⟨old, he⟩, hit, hne⟩ ⟨xs, x, hq, hx⟩
    have ⟨its, rv, p, _⟩ := I.tuple hq
    have ⟨u, hu, ru⟩ := rv.get hx
    have lt_e : e < s.heap.objs.size := Heap.lt_size he
    have lt_it : it < s.heap.objs.size := let ⟨_, q, _⟩ := hit; Heap.lt_size q
    have hu2 : its.toArray[i]? = some u := by rw [List.getElem?_toArray]; exact hu
    have apart : e ∉ [it, a] := by simp [hne, hae.symm]
    have drawn := PySem.Draws.tuple (prog := X.prog) (w := X.w) (A := X.A.in1) (I.ok.hd hc) it a hai its.toArray
    refine wpAny_pyNext_enum_itemD drawn he ⟨hit, p⟩ (Array.getElem?_eq_some_iff.mp hu2).1 hne apart fun v h' tk hv ho st' hT hsz hk => ?_
    have same : v = u := Option.some.inj (Eq.trans (Eq.symm (show its.toArray[i]? = some v from hv)) hu2)
    subst same
    refine ⟨_, rfl, wpAny_letOwnedTupleGo_enum (s := { s with heap := h', toks := tk + 1 }) ho fun h'' he' sb => ?_⟩
    have atT : h''.get? s.heap.objs.size = some { cls := .type "tuple", data := .seq #[.int i tk, v] } := (sb.2 _ (Nat.ne_of_gt lt_e)).trans hT
    have kept : ∀ b ob, b ∉ [e, it] → s.heap.get? b = some ob → h''.get? b = some ob := fun b ob nb q => by
      have ⟨n1, n2⟩ := not_or.mp (fun z => nb (List.mem_cons.mpr z))
      exact (sb.2 b n1).trans (hk b ob n1 (fun z => n2 (z ▸ .head _)) q)
    refine ⟨.ref s.heap.objs.size, _, I.turnedNew (ch := [e, it]) (ob := .tup [.int (i : Nat), x]) kept hf (Nat.le_refl _) ⟨by show 2 ≤ sizeLine; decide, _, .cons ⟨tk, rfl⟩ (.cons ru .nil), _, atT, rfl, 0, rfl⟩, rfl,
      ⟨_, x, rfl, I.hok.fresh (Nat.le_refl _), rfl, fun ys hy => I.tuple_inj hy hq ▸ hx⟩, ⟨⟨v, by rw [Int.natCast_succ]; exact he'⟩, st'.1.at fun o q => (sb.2 it hne.symm).trans q, hne⟩, fun b hb => ?_⟩
    refine (upd_ne (show b ≠ s.heap.objs.size from Nat.ne_of_lt ?_)).trans (hf b hb).1
    rcases List.mem_cons.mp hb with rfl | hb
    · exact lt_e
    · exact List.mem_singleton.mp hb ▸ lt_it
  done := by
    rintro X rfl rfl rfl hc i pins s σ H E I hf ⟨⟨old, he⟩, hit, hne⟩ ⟨xs, hq, hx⟩
    have ⟨its, rv, p, _⟩ := I.tuple hq
    have over : its.toArray[i]? = none := by
      rw [List.getElem?_toArray]
      exact List.getElem?_eq_none (rv.length ▸ hx)
    have ⟨f0, f1, f2, f3, f4, f5⟩ := hf it (.tail _ (.head _))
    have Dr : PySem.Draws X.prog X.w X.A.in1 it [it, a] i (fun _ _ => False) (fun j h => j = i ∧ h.IsTupleIter it a i ∧ h.IsTuple a its.toArray) :=
      { live := fun _ _ ⟨_, ⟨o, ho, _⟩, _⟩ => ⟨o, ho⟩
        frame := fun _ _ _ ⟨q, q1, q2⟩ k => ⟨q, q1.at (k it (.head _)), q2.at (k a (.tail _ (.head _)))⟩
        item := fun j s Q E lt ⟨q, _⟩ _ => absurd q (Nat.ne_of_lt lt)
        done := fun s Q E ⟨_, q1, q2⟩ hE => wpAny_nextOf_tuple_end (I.ok.hd hc) q1 q2 over hE }
    exact wpAny_pyNext_enum_endD Dr he ⟨rfl, hit, p⟩ fun h' eb => ⟨rfl, I.turned (t' := s.toks) (fun b o nb q => eb b o nb q) f0 f1 f3 f4 f5⟩
  self := fun A i s Q E ⟨⟨_, he⟩, _⟩ h => wpAny_pyIter_enum he h

/-- enumerate(v) where iter(v) is a new object: no start is written -/
theorem enum_new {v : Value} {o : Obj} {G : Heap → Prop} (B : Begins v o G) :
    Meets (Builtin.«enumerate.__new__» ⟨[.type "enumerate", v], []⟩) (fun _ R s => G s.heap ∧
      R (.ok (.ret (.ref (s.heap.objs.size + 1)))) { s with heap := (s.heap.push o).push { cls := .type "enumerate", data := .fields #[.none, .bool false, .ref s.heap.objs.size, rawInt 0, .none, .none] } }) :=
  .of_wp fun prog w A R s hs => by
    rcases s with ⟨h0, gens, dr, t0, os⟩
    obtain ⟨stands, q⟩ := hs
    rw [show h0.objs.size + 1 = (h0.push o).objs.size from (Heap.size_push ..).symm] at q
    have _ := sub_enumerate
    have it : ∀ {A2 : Around} {E2 : Value → Shared → Prop} {Q2 : Value → Shared → Prop}, Q2 (.ref h0.objs.size) ⟨h0.push o, gens, dr, t0, os⟩ → wpAny (model prog w) A2 (pyIter v) Q2 E2 ⟨h0, gens, dr, t0, os⟩ :=
      B.iter prog w _ _ ⟨h0, gens, dr, t0, os⟩ _ stands
    wp_walk using it
    apply wpAny_stack_any
    intro st
    apply wpAny_pure
    split
    · rename_i c _ _ _ _ _
      rcases (c == Value.type "enumerate") with _ | _ <;> wp_walk using it <;> exact ⟨_, rfl, q⟩
    · wp_walk using it
      exact ⟨_, rfl, q⟩
theorem call_enumT {prog : Program} {w : World} {A : Around} {E : Value → Shared → Prop} {s : Shared} {a : Addr} {items : Array Value} {Q : Value → Shared → Prop} (T : s.heap.IsTuple a items)
    (q : ∀ h2, IsEnum h2 (s.heap.objs.size + 1) s.heap.objs.size 0 .none → h2.IsTupleIter s.heap.objs.size a 0 → (∀ b o, s.heap.get? b = some o → h2.get? b = some o) → Q (.ref (s.heap.objs.size + 1)) { s with heap := h2 }) :
    wpAny (model prog w) A (call (.type "enumerate") [.ref a]) Q E s := by
  have two : ∀ (o1 o2 : Obj), o2.isFreed = false → ((s.heap.push o1).push o2).get? (s.heap.objs.size + 1) = some o2 := fun o1 o2 live => by
    rw [← Heap.size_push s.heap o1]
    exact Heap.get?_push_size _ live
  have e := two { cls := .type "tuple_iterator", data := .fields #[.ref a, .int 0 0] } { cls := .type "enumerate", data := .fields #[.none, .bool false, .ref s.heap.objs.size, rawInt 0, .none, .none] } rfl
  exact callType_new F.called_enumerate (by decide) (F.typeCall_enumerate_1 _) (F.newCall_enumerate_1 _) (fun ob => F.args_object_init_2 ob _) F.entry_enumerate_new (enum_new (begins_tuple a items))
    ⟨T, ⟨_, e, rfl⟩, q _ e ⟨_, Heap.get?_push_of_some _ (Heap.get?_push_size _ rfl), rfl, rfl⟩ fun b o x => Heap.get?_push_of_some _ (Heap.get?_push_of_some _ x)⟩
def iEnumT (K : PySem.W.Frag) (ta : TA) : TI := fun σ H R => ta σ H fun vs H1 => ∃ a xs, vs = [.ref a] ∧ ((SqL K H1 a xs ∧ R (Ite K a) H1) ∨ (SqT K H1 a xs ∧ R (IteT K a) H1))
theorem pi_enumT {X : Cx} {e : Expr} {ta : TA} {p pos tpos : Pos} {elts : List Expr} {kk : Nat} (hg : Gl X "enumerate") (hm : X.mg "enumerate" = none) (ha : PA X [e] ta) (hs : starEach [e] X.env = [(false, eval e X.env)] := by rfl) :
    PI X (.Tuple elts kk tpos) (.Call (.Name "enumerate" p) [e] [] pos) (iEnumT X.K ta) where
  run := fun pins s σ H R I h => Call_ (ld_blt I hg hm boot_enumerate (PyProof.Rows.callWith_type1 (thn (ha.run pos pins s σ H _ I h) fun us s1 ⟨vs, H1, I1, r1, a, xs, ex, q1⟩ => by
    subst ex
    obtain _ | ⟨r, _ | _⟩ := r1
    cases r
    -- the two new objects lie behind all that stood
    have behind : ∀ b, b ∈ [s1.heap.objs.size + 1, s1.heap.objs.size] → FpOk X pins H1 b := fun b hb => by
      have le : s1.heap.objs.size ≤ b := by
        rcases List.mem_cons.mp hb with z | z
        · exact z ▸ Nat.le_succ _
        · exact Nat.le_of_eq (List.mem_singleton.mp z).symm
      exact I1.fpOk le (I1.hok.fresh le)
    rcases q1 with ⟨sq, q⟩ | ⟨sq, q⟩
    · obtain ⟨_, _, L, _⟩ := I1.list sq
      exact call_enumerate_list L.isList fun h2 he hit _ hk => wpAny_pyIter_enum he ⟨s1.heap.objs.size + 1, [s1.heap.objs.size + 1, s1.heap.objs.size], _, _, H1, rfl, I1.kept (t' := s1.toks) hk, turn_enum a _ _, ⟨⟨.none, he⟩, hit, Nat.succ_ne_self _⟩, behind, q⟩
    · obtain ⟨its, _, T, _⟩ := I1.tuple sq
      have lt : a < s1.heap.objs.size := let ⟨_, ho, _⟩ := T; Heap.lt_size ho
      exact call_enumT (show s1.heap.IsTuple a its.toArray from T) fun h2 he hit hk => wpAny_pyIter_enum he
        ⟨s1.heap.objs.size + 1, [s1.heap.objs.size + 1, s1.heap.objs.size], _, _, H1, rfl, I1.kept (t' := s1.toks) hk, turn_enumT a _ _ (Nat.ne_of_lt lt) (Nat.ne_of_lt (Nat.lt_succ_of_lt lt)), ⟨⟨.none, he⟩, hit, Nat.succ_ne_self _⟩, behind, q⟩) hs rfl))
def enumF (ds : List D) : List D := (List.range ds.length).map fun i => .tup [.int (i : Nat), ds.getD i .non]
theorem enumF_len (ds : List D) : (enumF ds).length = ds.length := by unfold enumF; rw [List.length_map, List.length_range]
theorem enumF_at {ds : List D} {i : Nat} {d : D} (h : ds[i]? = some d) : (enumF ds)[i]? = some (.tup [.int (i : Nat), d]) := by
  have hi := (List.getElem?_eq_some_iff.mp h).1
  unfold enumF
  rw [List.getElem?_map, List.getElem?_range hi]
  show some (D.tup [.int (i : Nat), ds.getD i .non]) = _
  rw [List.getD_eq_getElem?_getD, h]
  rfl
theorem it_enumL {K : PySem.W.Frag} {S : Sg} {O : Addr → Prop} {H1 : Hp} {a : Addr} {ds : List D} (r : Rep K S (del H1 O) (.ref a) (.lst ds)) : ItOk K S O H1 (Ite K a) (enumF ds) := by
  cases r with | lst h1 h2 h3 =>
  refine ⟨by rw [enumF_len, ← h3.length, ← sizeLine_def]; exact h2, fun i H2 O2 μ st w hi => ?_, fun i H2 O2 μ st w hi => ?_⟩
  · have e := seen (st.lift _ _ h1 nt_lst)
    rw [enumF_len, ← h3.length] at hi
    refine ⟨⟨_, _, .inl (.inl e), List.getElem?_eq_getElem hi⟩, fun v H3 y => ?_⟩
    obtain ⟨T, x, ev, hT, eH, y⟩ := y
    subst ev eH
    obtain ⟨d, e2, rd⟩ := h3.getV (y _ (.inl (.inl e)))
    refine ⟨Fr.add hT, w.add hT, _, enumF_at e2, .tup (vs := [.int (i : Nat), x]) (.inl (.inl (by rw [del_out (w.fresh hT)]; exact upd_same))) (by rw [sizeLine_def]; exact (show 2 ≤ 16777216 by decide)) (.cons (.int _) (.cons (w.rep (Fr.add hT) (rd.mono st.lift)) .nil))⟩
  · have e := seen (st.lift _ _ h1 nt_lst)
    rw [enumF_len] at hi
    exact ⟨_, .inl (.inl e), by rw [h3.length]; exact hi⟩
theorem it_enumT {K : PySem.W.Frag} {S : Sg} {O : Addr → Prop} {H1 : Hp} {a : Addr} {ds : List D} (r : Rep K S (del H1 O) (.ref a) (.tup ds)) : ItOk K S O H1 (IteT K a) (enumF ds) := by
  cases r with | tup h1 h2 h3 =>
  refine ⟨by rw [enumF_len, ← h3.length, ← sizeLine_def]; exact h2, fun i H2 O2 μ st w hi => ?_, fun i H2 O2 μ st w hi => ?_⟩
  · have e := seenT (sqT_mono st.lift h1)
    rw [enumF_len, ← h3.length] at hi
    refine ⟨⟨_, _, e, List.getElem?_eq_getElem hi⟩, fun v H3 y => ?_⟩
    obtain ⟨T, x, ev, hT, eH, y⟩ := y
    subst ev eH
    obtain ⟨d, e2, rd⟩ := h3.getV (y _ e)
    refine ⟨Fr.add hT, w.add hT, _, enumF_at e2, .tup (vs := [.int (i : Nat), x]) (.inl (.inl (by rw [del_out (w.fresh hT)]; exact upd_same))) (by rw [sizeLine_def]; exact (show 2 ≤ 16777216 by decide)) (.cons (.int _) (.cons (w.rep (Fr.add hT) (rd.mono st.lift)) .nil))⟩
  · have e := seenT (sqT_mono st.lift h1)
    rw [enumF_len] at hi
    exact ⟨_, e, by rw [h3.length]; exact hi⟩
def enumD : List D → Option (List D)
  | [.lst ds] => some (enumF ds)
  | [.tup ds] => some (enumF ds)
  | _ => none
section
variable {X : Cx} {S : Sg} {W : XK} {a : Expr} {pos : Pos}
theorem di_enum {p tpos : Pos} {elts : List Expr} {kk : Nat} {fs : Env → M (List D)} (hm : X.mg "enumerate" = none) (ha : DA X S W [a] fs) (hg : Gl X "enumerate" := by rfl) (hs : starEach [a] X.env = [(false, eval a X.env)] := by rfl) :
    DI X S W (.Tuple elts kk tpos) (.Call (.Name "enumerate" p) [a] [] pos) (fun Γ => M.bind (fs Γ) fun xs => M.opt (enumD xs)) :=
  piI (pi_enumT hg hm ha hs) fun σ H R ⟨O, h⟩ => ⟨O, (Run.bind h).mono fun xs H1 μ μ1 w0 f1 w1 h1 vs rv => by
    obtain ⟨z, μ4, e, w4, q⟩ := Run.opt h1
    match xs, rv, e with
    | [.lst ds], .cons r .nil, e =>
      cases e
      have r' := r
      cases r with | lst h1 h2 h3 =>
      exact ⟨_, _, rfl, .inl ⟨.inl (.inl (seen h1)), q H1 (Fr.refl _ _) w4 _ (it_enumL r')⟩⟩
    | [.tup ds], .cons r .nil, e =>
      cases e
      have r' := r
      cases r with | tup h1 h2 h3 =>
      exact ⟨_, _, rfl, .inr ⟨seenT h1, q H1 (Fr.refl _ _) w4 _ (it_enumT r')⟩⟩⟩
end
end Dd
namespace Dd
open PySem PySem.Spec L2 PyProof.Rows

/-! ### zip of two texts -/
def ItzS (x y : Str) : It :=
  ⟨fun i _ => i < x.cps.size ∧ i < y.cps.size, fun i H v H' => ∃ T c d, v = .ref T ∧ H T = none ∧ H' = upd H T (.tup [.str ⟨#[c]⟩, .str ⟨#[d]⟩]) ∧ x.cps[i]? = some c ∧ y.cps[i]? = some d, fun i _ => x.cps.size ≤ i ∨ y.cps.size ≤ i⟩
/-- five places: what holds of all of them -/
theorem all5 {p : Addr → Prop} {a b c d e : Addr} : (∀ z ∈ [a, b, c, d, e], p z) ↔ p a ∧ p b ∧ p c ∧ p d ∧ p e := by simp
theorem none5 {a b c d e z : Addr} (h : z ∉ [a, b, c, d, e]) : z ≠ a ∧ z ≠ b ∧ z ≠ c ∧ z ≠ d ∧ z ≠ e := by simpa using h
theorem turn_zipS {P : Program} {w : World} {K : PySem.W.Frag} {elts : List Expr} {kk : Nat} {tpos : Pos} {x y : Str} {tx ty : Tok} {z TI TO i1 i2 : Addr} (D : ZipSep2 z TI TO i1 i2 [i1] [i2]) :
    Turn P w K (.Tuple elts kk tpos) (ItzS x y) [z, TI, TO, i1, i2] z (fun i h => IsZip h z TI TO .none ∧ IsTupOf2 h TI (.ref i1) (.ref i2) ∧ (∃ a b, IsTupOf2 h TO a b) ∧ h.IsStrIter i1 (strIterType x) x tx i ∧ h.IsStrIter i2 (strIterType y) y ty i ∧ i ≤ x.cps.size ∧ i ≤ y.cps.size) where
  mem := .head _
  obj := fun i h ⟨gz, gI, ⟨_, _, gO⟩, ⟨u1, g1, _, k1⟩, ⟨u2, g2, _, k2⟩, _⟩ => all5.mpr
    ⟨⟨_, gz, fun _ q => nomatch q⟩, ⟨_, gI, fun _ q => nomatch q⟩, ⟨_, gO, fun _ q => nomatch q⟩, ⟨u1, g1, fun _ q => by rw [k1] at q; cases q⟩, ⟨u2, g2, fun _ q => by rw [k2] at q; cases q⟩⟩
  keep := fun i h h2 ⟨gz, gI, ⟨a, b, gO⟩, ⟨u1, g1, r1⟩, ⟨u2, g2, r2⟩, le⟩ k => by
    obtain ⟨kz, kI, kO, m1, m2⟩ := all5.mp k
    exact ⟨kz _ gz, kI _ gI, ⟨a, b, kO _ gO⟩, ⟨u1, m1 _ g1, r1⟩, ⟨u2, m2 _ g2, r2⟩, le⟩
  item := by
    rintro X rfl rfl rfl hc i pins s σ H E I hf ⟨gz, gI, ⟨a0, b0, gO⟩, g1, g2, le1, le2⟩ ⟨more1, more2⟩
    have D1 := PySem.Draws.text (prog := X.prog) (w := X.w) (A := X.A.in1) (I.ok.hd hc) i1 x tx
    have D2 := PySem.Draws.text (prog := X.prog) (w := X.w) (A := X.A.in1) (I.ok.hd hc) i2 y ty
    have below := all5 (p := fun c => c < s.heap.objs.size).mpr ⟨Heap.lt_size gz, Heap.lt_size gI, Heap.lt_size gO, let ⟨_, g, _⟩ := g1; Heap.lt_size g, let ⟨_, g, _⟩ := g2; Heap.lt_size g⟩
    refine wpAny_pyNext_zipD2_item D D1 D2 gz gI gO g1 g2 more1 more2 fun v1 v2 h2 tk ⟨c, u, ec, e1⟩ ⟨d, u', ed, e2⟩ z2 O2 n1 n2 hT _ hk => ⟨_, rfl, wpAny_letOwnedTupleGo_zip (s := { s with heap := h2, toks := tk }) z2 fun h3 z3 sb => ?_⟩
    subst e1 e2
    have atT := (sb.2 _ (Nat.ne_of_gt (Heap.lt_size gz))).trans hT
    have old : ∀ b o, b ∉ [z, TI, TO, i1, i2] → s.heap.get? b = some o → h3.get? b = some o := fun b o nb q => by
      obtain ⟨q1, q2, q3, q4, q5⟩ := none5 nb
      exact (sb.2 b q1).trans (hk b o q1 q3 q4 q5 q)
    have onI : h3.get? TI = _ := (sb.2 TI D.TIz).trans (hk TI _ D.TIz D.TITO D.TIi1 D.TIi2 gI)
    have onO := (sb.2 TO D.TOz).trans O2
    have past : ∀ {j : Addr} {tp : String} {t : Str} {q : Tok} {m : Nat}, z ≠ j → h2.IsStrIter j tp t q m → h3.IsStrIter j tp t q m := fun ne ⟨o, g, r⟩ => ⟨o, (sb.2 _ ne.symm).trans g, r⟩
    refine ⟨.ref s.heap.objs.size, _, I.turnedNew (t' := tk) (ch := [z, TI, TO, i1, i2]) (ob := .tup [.str ⟨#[c]⟩, .str ⟨#[d]⟩]) old hf (Nat.le_refl _) ⟨by show 2 ≤ sizeLine; decide, _, .cons ⟨u, rfl⟩ (.cons ⟨u', rfl⟩ .nil), _, atT, rfl, 0, rfl⟩, rfl,
      ⟨_, c, d, rfl, I.hok.fresh (Nat.le_refl _), rfl, ec, ed⟩, ⟨z3, onI, ⟨_, _, onO⟩, past D.zi1 n1, past D.zi2 n2, more1, more2⟩, fun b hb => (upd_ne (Nat.ne_of_lt (below b hb))).trans (hf b hb).1⟩
  done := by
    rintro X rfl rfl rfl hc i pins s σ H E I hf ⟨gz, gI, ⟨a0, b0, gO⟩, g1, g2, le1, le2⟩ (over : x.cps.size ≤ i ∨ y.cps.size ≤ i)
    refine wpAny_pyNext_zipD2_end D (PySem.Draws.text (prog := X.prog) (w := X.w) (A := X.A.in1) (I.ok.hd hc) i1 x tx) (PySem.Draws.text (prog := X.prog) (w := X.w) (A := X.A.in1) (I.ok.hd hc) i2 y ty) gz gI gO g1 g2 le1 le2
      (over.imp (Nat.le_antisymm le1) (Nat.le_antisymm le2)) fun h2 tk hk => ⟨rfl, I.turnedL (t' := tk) (ch := [z, TI, TO, i1, i2]) (fun b o nb q => ?_) hf⟩
    obtain ⟨q1, q2, q3, q4, q5⟩ := none5 nb
    exact hk b o q1 q3 q4 q5 q
  self := fun A i s Q E ⟨g, _⟩ h => wpAny_pyIter_zip g h

def iZipB (K : PySem.W.Frag) (ta : TA) : TI := fun σ H R => ta σ H fun vs H1 => (∃ a b xs ys, vs = [.ref a, .ref b] ∧ ((SqL K H1 a xs ∧ SqL K H1 b ys ∧ R (Itz K a b) H1) ∨ (SqT K H1 a xs ∧ SqT K H1 b ys ∧ R (RZ.ItzT K a b) H1))) ∨ ∃ x y, vs = [.str x, .str y] ∧ R (ItzS x y) H1
/-- the five places of a zip object that is made behind n objects -/
abbrev zip5 (n : Nat) : List Addr := [n + 4, n + 2, n + 3, n, n + 1]
theorem pi_zipB {X : Cx} {e e2 : Expr} {ta : TA} {p pos tpos : Pos} {elts : List Expr} {kk : Nat} (hg : Gl X "zip") (hm : X.mg "zip" = none) (ha : PA X [e, e2] ta)
    (star : starEach [e, e2] X.env = (false, eval e X.env) :: starEach [e2] X.env := by rfl) (plain : (backTo pos (starEach [e2] X.env)).any (·.1) = false := by rfl) :
    PI X (.Tuple elts kk tpos) (.Call (.Name "zip" p) [e, e2] [] pos) (iZipB X.K ta) where
  run := fun pins s σ H R I h => Call_ (ld_blt I hg hm PyProof.Rows.boot_zip (PyProof.Rows.callWith_type1 (thn (ha.run pos pins s σ H _ I h) fun us s1 ⟨vs, H1, I1, r1, q1⟩ => by
    have behind : ∀ c ∈ zip5 s1.heap.objs.size, FpOk X pins H1 c := by
      have far : ∀ k, FpOk X pins H1 (s1.heap.objs.size + k) := fun k => I1.fpOk (Nat.le_add_right _ k) (I1.hok.fresh (Nat.le_add_right _ k))
      exact all5.mpr ⟨far 4, far 2, far 3, far 0, far 1⟩
    rcases q1 with ⟨a, b, xs, ys, ex, ⟨sx, sy, q⟩ | ⟨sx, sy, q⟩⟩ | ⟨x, y, ex, q⟩ <;> subst ex <;> obtain _ | ⟨ra, _ | ⟨rb, _ | _⟩⟩ := r1
    · cases ra
      cases rb
      obtain ⟨_, _, L, _⟩ := I1.list sx
      obtain ⟨_, _, L2, _⟩ := I1.list sy
      exact call_zip_2 L.isList L2.isList fun h2 gz gI gO g1 g2 _ hk => wpAny_pyIter_zip gz
        ⟨_, zip5 s1.heap.objs.size, _, _, H1, rfl, I1.kept (t' := s1.toks) hk, turn_zip (PySem.W.ktu_apart s1.heap.objs.size a b L.lt L2.lt), ⟨gz, gI, ⟨_, _, gO⟩, g1, g2⟩, behind, q⟩
    · cases ra
      cases rb
      obtain ⟨xs', _, T, _⟩ := I1.tuple sx
      obtain ⟨ys', _, T2, _⟩ := I1.tuple sy
      have la : a < s1.heap.objs.size := let ⟨_, g, _⟩ := T; Heap.lt_size g
      have lb : b < s1.heap.objs.size := let ⟨_, g, _⟩ := T2; Heap.lt_size g
      exact RZ.call_zipT (show s1.heap.IsTuple a xs'.toArray from T) (show s1.heap.IsTuple b ys'.toArray from T2) fun h2 gz gI gO g1 g2 _ hk => wpAny_pyIter_zip gz
        ⟨_, zip5 s1.heap.objs.size, _, _, H1, rfl, I1.kept (t' := s1.toks) hk, RZ.turn_zipT (PySem.W.ktu_apart s1.heap.objs.size a b la lb), ⟨gz, gI, ⟨_, _, gO⟩, g1, g2⟩, behind, q⟩
    · obtain ⟨t, rfl⟩ := ra
      obtain ⟨t2, rfl⟩ := rb
      exact zip_begins2 (begins_text x t) (begins_text y t2) trivial trivial fun h2 gz gI gO g1 g2 _ hk => wpAny_pyIter_zip gz
        ⟨_, zip5 s1.heap.objs.size, _, _, H1, rfl, I1.kept (t' := s1.toks) hk, turn_zipS (x := x) (y := y) (tx := t) (ty := t2) (zip_sep2 (N := s1.heap.objs.size) (fp1 := []) (fp2 := []) (fun _ h => nomatch h) fun _ h => nomatch h), ⟨gz, gI, ⟨_, _, gO⟩, ⟨_, g1, rfl, rfl⟩, ⟨_, g2, rfl, rfl⟩, Nat.zero_le _, Nat.zero_le _⟩, behind, q⟩) star plain))

def zipF (xs ys : List D) : List D := (xs.zip ys).map fun p => .tup [p.1, p.2]
def zipDB : List D → Option (List D)
  | [.lst xs, .lst ys] => some (zipF xs ys)
  | [.tup xs, .tup ys] => some (zipF xs ys)
  | [.str x, .str y] => some (zipF (x.cps.toList.map signD) (y.cps.toList.map signD))
  | _ => none
theorem it_zipT {K : PySem.W.Frag} {S : Sg} {O : Addr → Prop} {H1 : Hp} {a b : Addr} {ds es : List D} (r : Rep K S (del H1 O) (.ref a) (.tup ds)) (r' : Rep K S (del H1 O) (.ref b) (.tup es)) : ItOk K S O H1 (RZ.ItzT K a b) (zipF ds es) := by
  cases r with | tup h1 h2 h3 =>
  cases r' with | tup h4 h5 h6 =>
  have hl : (zipF ds es).length = min ds.length es.length := by unfold zipF; rw [List.length_map, List.length_zip]
  have hlim := h2
  rw [h3.length, sizeLine_def] at hlim
  refine ⟨by rw [hl]; omega, fun i H2 O2 μ st w hi => ?_, fun i H2 O2 μ st w hi => ?_⟩
  · have e := seenT (sqT_mono st.lift h1)
    have e' := seenT (sqT_mono st.lift h4)
    rw [hl] at hi
    have i1 : i < ds.length := by omega
    have i2 : i < es.length := by omega
    obtain ⟨x, hx, rx⟩ := h3.get (List.getElem?_eq_getElem i1)
    obtain ⟨y, hy, ry⟩ := h6.get (List.getElem?_eq_getElem i2)
    refine ⟨⟨_, _, x, y, e, e', hx, hy⟩, fun v H3 yl => ?_⟩
    obtain ⟨T, x', y', ev, hT, eH, q1, q2⟩ := yl
    subst ev eH
    have ex : x' = x := Option.some.inj ((q1 _ e).symm.trans hx)
    have ey : y' = y := Option.some.inj ((q2 _ e').symm.trans hy)
    subst ex ey
    refine ⟨Fr.add hT, w.add hT, .tup [ds[i], es[i]], ?_, ?_⟩
    · unfold zipF
      rw [List.getElem?_map, show (ds.zip es)[i]? = some (ds[i], es[i]) from List.getElem?_zip_eq_some.mpr ⟨List.getElem?_eq_getElem i1, List.getElem?_eq_getElem i2⟩]
      rfl
    · exact .tup (.inl (.inl (by rw [del_out (w.fresh hT)]; exact upd_same))) (by rw [sizeLine_def]; exact (show 2 ≤ 16777216 by decide)) (w.reps (Fr.add hT) (.cons (rx.mono st.lift) (.cons (ry.mono st.lift) .nil)))
  · have e := seenT (sqT_mono st.lift h1)
    have e' := seenT (sqT_mono st.lift h4)
    rw [hl] at hi
    refine ⟨_, _, e, e', ?_⟩
    rw [h3.length, h6.length]
    omega
theorem it_zipS {K : PySem.W.Frag} {S : Sg} {O : Addr → Prop} {H1 : Hp} {x y : Str} (h1 : x.length ≤ sizeLine) (h2 : PyData.strOk x = true) (h3 : y.length ≤ sizeLine) (h4 : PyData.strOk y = true) : ItOk K S O H1 (ItzS x y) (zipF (x.cps.toList.map signD) (y.cps.toList.map signD)) := by
  have hl : (zipF (x.cps.toList.map signD) (y.cps.toList.map signD)).length = min x.cps.size y.cps.size := by
    unfold zipF
    rw [List.length_map, List.length_zip, List.length_map, List.length_map, Array.length_toList, Array.length_toList]
  have hx : x.cps.size ≤ 16777216 := by rw [sizeLine_def] at h1; exact h1
  have one : ∀ {c : Nat} {z : Str} {i : Nat}, PyData.strOk z = true → z.cps[i]? = some c → ∀ {H : Hp}, Rep K S H (.str ⟨#[c]⟩) (signD c) := fun {c z i} ok e {H} =>
    .str _ (by rw [sizeLine_def]; exact (show 1 ≤ 16777216 by decide)) (strOk_sub ok (l := [c]) fun d hd => by
      rw [List.mem_singleton.mp hd]
      exact Array.mem_toList_iff.mpr (Array.mem_of_getElem? e))
  refine ⟨by rw [hl]; omega, fun i H2 O2 μ st w hi => ?_, fun i H2 O2 μ st w hi => ?_⟩
  · rw [hl] at hi
    refine ⟨⟨by omega, by omega⟩, fun v H3 yl => ?_⟩
    obtain ⟨T, c, d, ev, hT, eH, q1, q2⟩ := yl
    subst ev eH
    refine ⟨Fr.add hT, w.add hT, .tup [signD c, signD d], ?_, ?_⟩
    · unfold zipF
      rw [List.getElem?_map, show ((x.cps.toList.map signD).zip (y.cps.toList.map signD))[i]? = some (signD c, signD d) from List.getElem?_zip_eq_some.mpr ⟨by rw [List.getElem?_map, Array.getElem?_toList, q1]; rfl, by rw [List.getElem?_map, Array.getElem?_toList, q2]; rfl⟩]
      rfl
    · exact .tup (.inl (.inl (by rw [del_out (w.fresh hT)]; exact upd_same))) (by rw [sizeLine_def]; exact (show 2 ≤ 16777216 by decide)) (.cons (one h2 q1) (.cons (one h4 q2) .nil))
  · rw [hl] at hi
    show x.cps.size ≤ i ∨ y.cps.size ≤ i
    omega
section
variable {X : Cx} {S : Sg} {W : XK} {a b c : Expr} {pos : Pos}
theorem di_zipB {p tpos : Pos} {elts : List Expr} {kk : Nat} {fs : Env → M (List D)} (hm : X.mg "zip" = none) (ha : DA X S W [a, b] fs) (hg : Gl X "zip" := by rfl)
    (hs : starEach [a, b] X.env = (false, eval a X.env) :: starEach [b] X.env := by rfl) (hpl : (backTo pos (starEach [b] X.env)).any (·.1) = false := by rfl) :
    DI X S W (.Tuple elts kk tpos) (.Call (.Name "zip" p) [a, b] [] pos) (fun Γ => M.bind (fs Γ) fun xs => M.opt (zipDB xs)) :=
  piI (pi_zipB hg hm ha hs hpl) fun σ H R ⟨O, h⟩ => ⟨O, (Run.bind h).mono fun xs H1 μ μ1 w0 f1 w1 h1 vs rv => by
    obtain ⟨z, μ4, e, w4, q⟩ := Run.opt h1
    match xs, rv, e with
    | [.lst xs, .lst ys], .cons r1 (.cons r2 .nil), e =>
      cases e
      have r1' := r1
      have r2' := r2
      cases r1 with | lst h1 h2 h3 =>
      cases r2 with | lst h4 h5 h6 =>
      exact .inl ⟨_, _, _, _, rfl, .inl ⟨.inl (.inl (seen h1)), .inl (.inl (seen h4)), q H1 (Fr.refl _ _) w4 _ (it_zip r1' r2')⟩⟩
    | [.tup xs, .tup ys], .cons r1 (.cons r2 .nil), e =>
      cases e
      have r1' := r1
      have r2' := r2
      cases r1 with | tup h1 h2 h3 =>
      cases r2 with | tup h4 h5 h6 =>
      exact .inl ⟨_, _, _, _, rfl, .inr ⟨seenT h1, seenT h4, q H1 (Fr.refl _ _) w4 _ (it_zipT r1' r2')⟩⟩
    | [.str x, .str y], .cons r1 (.cons r2 .nil), e =>
      cases e
      cases r1 with | str _ h1 h2 =>
      cases r2 with | str _ h3 h4 =>
      exact .inr ⟨x, y, rfl, q H1 (Fr.refl _ _) w4 _ (it_zipS h1 h2 h3 h4)⟩⟩

/-! ### range with a step, the step from 1 on -/
def stepN (i j c : Int) : Nat := (if i < j then (j - i - 1) / c + 1 else 0).toNat
def stepD (i c : Int) (n : Nat) : List D := (List.range n).map fun k => .int (i + (k : Nat) * c)
def range3D : List D → Option (List D)
  | [.int i, .int j, .int c] => if 0 < c ∧ c < 1073741824 ∧ Builtin.Range.small i j c = true ∧ stepN i j c ≤ 16777216 then some (stepD i c (stepN i j c)) else none
  | _ => none
theorem stepD_len (i c : Int) (n : Nat) : (stepD i c n).length = n := by unfold stepD; rw [List.length_map, List.length_range]
theorem it_rangeC {K : PySem.W.Frag} {O : Addr → Prop} {H1 : Hp} {lo c : Int} {n : Nat} (hn : n ≤ 16777216) : ItOk K S O H1 (Itc lo c n) (stepD lo c n) := by
  refine ⟨by rw [stepD_len]; exact hn, fun i H2 O2 μ st w hi => ?_, fun i H2 O2 μ st w hi => ?_⟩
  · rw [stepD_len] at hi
    refine ⟨hi, fun x H3 y => ?_⟩
    obtain ⟨e1, e2⟩ := y
    subst e1 e2
    refine ⟨Fr.refl _ _, w, .int (lo + (i : Nat) * c), ?_, .int _⟩
    unfold stepD
    rw [List.getElem?_map, List.getElem?_range hi]
    rfl
  · rw [stepD_len] at hi
    exact hi
theorem di_range3 {p : Pos} {tg : Expr} {fs : Env → M (List D)} (hm : X.mg "range" = none) (ha : DA X S W [a, b, c] fs) (hg : Gl X "range" := by rfl) (hs : starEach [a, b, c] X.env = (false, eval a X.env) :: starEach [b, c] X.env := by rfl) (hpl : (backTo pos (starEach [b, c] X.env)).any (·.1) = false := by rfl) :
    DI X S W tg (.Call (.Name "range" p) [a, b, c] [] pos) (fun Γ => M.bind (fs Γ) fun xs => M.opt (range3D xs)) :=
  piI (pi_range3 hg hm ha hs hpl) fun σ H R ⟨O, h⟩ => ⟨O, (Run.bind h).mono fun xs H1 μ μ1 w0 f1 w1 h1 vs rv => by
    obtain ⟨z, μ4, e, w4, q⟩ := Run.opt h1
    match xs, rv, e with
    | [.int i, .int j, .int k], .cons r1 (.cons r2 (.cons r3 .nil)), e =>
      have e : (if 0 < k ∧ k < 1073741824 ∧ Builtin.Range.small i j k = true ∧ stepN i j k ≤ 16777216 then some (stepD i k (stepN i j k)) else none) = some z := e
      split at e
      · rename_i hc
        cases e
        cases r1
        cases r2
        cases r3
        refine ⟨i, j, k, stepN i j k, rfl, ⟨by omega, by omega, hc.2.2.1, ?_⟩, q H1 (Fr.refl _ _) w4 _ (it_rangeC hc.2.2.2)⟩
        unfold Builtin.Range.rangeSize stepN
        rw [if_pos hc.1]
        by_cases h : i < j
        · rw [if_pos h]
          have : 0 ≤ (j - i - 1) / k := Int.ediv_nonneg (by omega) (by omega)
          omega
        · rw [if_neg h]
          rfl
      · cases e⟩
end
end Dd
namespace Dd
open PySem PySem.Spec L2 PyProof.Rows

/-! ### while -/
def whileF (fb : Env → M Bool) (F : SF) : Nat → SF
  | 0, _ => M.bad
  | n + 1, Γ => M.bind (fb Γ) fun c => if c = true then M.bind (F Γ) fun r => match r with
    | .nx Γ2 => whileF fb F n Γ2
    | .ct Γ2 => whileF fb F n Γ2
    | .bk Γ2 => M.pure (.nx Γ2)
    | .ret d => M.pure (.ret d)
    else M.pure (.nx Γ)
section
variable {X : Cx} {S : Sg} {W : XK} {c : Expr} {body : List Stmt} {fb : Env → M Bool} {F : SF} {pos : Pos}
theorem ds_while (N : Nat) (hp : PassesOwn (model X.prog X.w) X.A X.env X.xe) (hc : DT X S W c fb) (hb : DSs X S W body F) : DS X S W (.While c body [] pos) (whileF fb F N) :=
  psI (ps_while hp hc hb) fun Z σ H ⟨H0, O0, O, Γ, μ, m, g⟩ => by
    refine ⟨fun n σ' H' => ∃ O' Γ' μ', Fm X.K S H0 O0 O' σ' H' Γ' μ' ∧ Stp O H O' H' ∧ Good (whileF fb F n Γ' μ') (Post X.K S H0 O0 O H Z) (Exc X.K S W H0 O0), ⟨N, O, Γ, μ, m, Stp.refl _ _, g⟩, ?_⟩
    rintro n σ' H' ⟨O', Γ', μ', m', st, g'⟩
    cases n with
    | zero => exact False.elim g'
    | succ n =>
      refine ⟨O', (st_run m' (A := Post X.K S H0 O0 O H Z) g').mono fun b H2 _ _ w f' w' ⟨μ1, f1, m1, g1⟩ => ?_⟩
      have st1 : Stp O H O' H2 := st.trans (Stp.of f1 w)
      cases b with
      | false =>
        simp only [Bool.false_eq_true, if_false] at g1 ⊢
        exact g1 σ' H2 O' m1 st1
      | true =>
        simp only [if_true] at g1 ⊢
        refine ⟨fun σ2 H3 => ∃ O' Γ' μ', Fm X.K S H0 O0 O' σ2 H3 Γ' μ' ∧ Stp O H O' H3 ∧ Good (whileF fb F n Γ' μ') (Post X.K S H0 O0 O H Z) (Exc X.K S W H0 O0), fun σ2 H3 h => ⟨n, Nat.lt_succ_self _, h⟩, H0, O0, O', Γ', μ1, m1, (good_bind g1).imp (fun r μ5 g5 => ?_) fun _ _ q => q⟩
        cases r with
        | nx Γ2 => exact fun σ5 H5 O5 m5 s5 => ⟨O5, Γ2, μ5, m5, st1.trans s5, g5⟩
        | ct Γ2 => exact fun σ5 H5 O5 m5 s5 => ⟨O5, Γ2, μ5, m5, st1.trans s5, g5⟩
        | bk Γ2 => exact fun σ5 H5 O5 m5 s5 => g5 σ5 H5 O5 m5 (st1.trans s5)
        | ret d => exact g5
end

/-! ### [e for a in xs for b in ys] -/
theorem SlsB.base {K : PySem.W.Frag} {S : Sg} {Ob O : Addr → Prop} {H : Hp} {σ : L2.St} {Γ : Env} {p : Addr} {o : HO} (s : SlsB K S Ob O H σ Γ) (hp : H p = none) (w : ¬ O p) : SlsB K S (With Ob p) (With O p) (upd H p o) σ Γ :=
  have s2 := s.more (o := o) hp
  ⟨s2.len, fun a h => .inl (s2.hb a h), fun i z e => by
    have q := s2.at_ i z e
    have q0 := s.at_ i z e
    cases z with
    | no => trivial
    | v d => exact q
    | o d =>
      obtain ⟨a, e1, h1, h2, c⟩ := q
      obtain ⟨a', e1', h1', _, _⟩ := q0
      rw [e1'] at e1
      cases e1
      exact ⟨_, e1', h1, fun z => z.elim h2 fun z => w (z ▸ h1'), c⟩, s2.dis⟩
theorem SlsB.updb {K : PySem.W.Frag} {S : Sg} {Ob O : Addr → Prop} {H : Hp} {σ : L2.St} {Γ : Env} {p : Addr} {o : HO} (s : SlsB K S Ob O H σ Γ) (hb : Ob p) (ho : O p) : SlsB K S Ob O (upd H p o) σ Γ :=
  ⟨s.len, s.hb, fun i z e => by
    have q := s.at_ i z e
    cases z with
    | no => trivial
    | v d => obtain ⟨x, e, r⟩ := q; exact ⟨x, e, r.mono (keep_write ho)⟩
    | o d =>
      obtain ⟨a, e1, h1, h2, c⟩ := q
      exact ⟨a, e1, h1, h2, c.mono (keep_write ho) (upd_ne fun z => h2 (z ▸ hb))⟩, s.dis⟩
def lcF2 (T : Tgt) (fi : Env → M (List D)) (T1 : Tgt) (fe : E) (Γ : Env) (vs1 : List Nat) : Nat → List D → M (List D)
  | _, [] => M.pure []
  | n, d :: ds => M.bind (M.opt (T d Γ)) fun Γ1 => M.bind (fi Γ1) fun es => if n + es.length ≤ 16777216 then M.bind (lcF T1 bYes fe (wipeG Γ1 vs1) es) fun ys => M.bind (lcF2 T fi T1 fe Γ vs1 (n + ys.length) ds) fun zs => M.pure (ys ++ zs) else M.bad
def eLc2 (fi0 : Env → M (List D)) (T : Tgt) (fi : Env → M (List D)) (T1 : Tgt) (fe : E) (vs vs1 : List Nat) : E := fun Γ => M.bind (fi0 Γ) fun ds => M.bind (nox (lcF2 T fi T1 fe (wipeG Γ vs) vs1 0 ds)) fun ys => M.pure (.lst ys)
theorem lc2_turns {K : PySem.W.Frag} {S : Sg} {O : Addr → Prop} {σ : L2.St} {Γ : Env} {H1 : Hp} {μ : List D} {J : It} {ds : List D} {T T1 : Tgt} {is is1 vs vs1 : List Nat} {fi : Env → M (List D)} {fe : E} {Dn : Addr} {Q : VK} (hD : H1 Dn = none) (w : Wd K S O H1 μ) (s : Sls K S O H1 σ Γ) (it : ItOk K S O H1 J ds) (hiv : ∀ i ∈ is, i ∈ vs) (hiv1 : ∀ i ∈ is1, i ∈ vs1)
    (g : Good (lcF2 T fi T1 fe (wipeG Γ vs) vs1 0 ds μ) (fun ys μ' => ∀ H', Fr S H1 H' → Wd K S O H' μ' → ∀ v, Rep K S (del H' O) v (.lst ys) → Q v H') (fun _ _ => False)) :
    ∃ W : Nat → Nat → Hp → Prop, (∃ m, W 0 m (upd H1 Dn (.lst []))) ∧ ∀ i m H, W i m H → (J.stop i H ∧ Q (.ref Dn) H) ∨ (J.go i H ∧ ∃ Nx : Hp → Prop, (∀ H', Nx H' → ∃ m', m' < m ∧ W (i + 1) m' H') ∧ ∀ x H', J.yld i H x H' → tG K S T is x (wipe σ vs) H' fun σ2 H2 => wipe σ2 vs = wipe σ vs ∧ tB K S E0' bYes σ2 H2 fun b H3 => if b = true then
      tI K S E0' fi σ2 H3 fun J1 H4 => ∃ W1 : Nat → Nat → Hp → Prop, (∃ m, W1 0 m H4) ∧ ∀ j k H, W1 j k H → (J1.stop j H ∧ Nx H) ∨ (J1.go j H ∧ ∃ Nx1 : Hp → Prop, (∀ H', Nx1 H' → ∃ k', k' < k ∧ W1 (j + 1) k' H') ∧ ∀ x H', J1.yld j H x H' → tG K S T1 is1 x (wipe σ2 vs1) H' fun σ3 H5 => wipe σ3 vs1 = wipe σ2 vs1 ∧ tB K S E0' bYes σ3 H5 fun b H6 => if b = true then
        tD K S E0' fe σ3 H6 fun y H7 => ∃ acc, H7 Dn = some (.lst acc) ∧ acc.length < sizeLine ∧ Nx1 (upd H7 Dn (.lst (acc ++ [y]))) else Nx1 H6) else Nx H3) := by
  obtain ⟨Ob, s⟩ := s
  have hOD : ¬ O Dn := w.fresh hD
  have hlim := it.lim
  have nr : Dn ∉ S.ρ := fun z => hOD (w.rho _ z)
  have hD' : With O Dn Dn := .inr rfl
  have hB' : With Ob Dn Dn := .inr rfl
  have stw : ∀ {H : Hp} {u : List V}, Stp (With O Dn) H (With O Dn) (upd H Dn (.lst u)) := fun {H u} => ⟨fun b o h n t => by rw [upd_ne (fun z => n (by rw [z]; exact hD'))]; exact h, upd_dom, fun _ h => h, fun _ h => .inl h⟩
  have frw : ∀ {H : Hp} {u : List V}, Fr S H1 H → Fr S H1 (upd H Dn (.lst u)) := fun {H u} f => ⟨fun b o h n t => by rw [upd_ne (ne_of_none h hD)]; exact f.keep b o h n t, fun b h => upd_dom b (f.dom b h)⟩
  refine ⟨fun i m H => m = ds.length - i ∧ i ≤ ds.length ∧ ∃ acc ysd μi, Stp O H1 (With O Dn) H ∧ Fr S H1 H ∧ Wd K S (With O Dn) H μi ∧ SlsB K S (With Ob Dn) (With O Dn) H (wipe σ vs) (wipeG Γ vs) ∧ H Dn = some (.lst acc) ∧ acc.length ≤ sizeLine ∧ Reps K S (del H (With O Dn)) acc ysd ∧
      Good (lcF2 T fi T1 fe (wipeG Γ vs) vs1 acc.length (ds.drop i) μi) (fun ys μ' => ∀ H', Fr S H1 H' → Wd K S O H' μ' → ∀ v, Rep K S (del H' O) v (.lst (ysd ++ ys)) → Q v H') (fun _ _ => False),
      ⟨ds.length, by simp, Nat.zero_le _, [], [], μ, ⟨fun b o h n t => by rw [upd_ne (ne_of_none h hD)]; exact h, upd_dom, fun a h => .inl h, fun a h => h.elim .inl fun z => .inr (z ▸ hD)⟩, Fr.add hD, w.more hD, (s.wipe vs).base hD hOD, upd_same, Nat.zero_le _, .nil, g⟩, ?_⟩
  rintro i m H ⟨rfl, hi, acc, ysd, μi, st, fr, wi, si, ea, hacc, ra, gi⟩
  by_cases hlt : i < ds.length
  · obtain ⟨go, yl⟩ := it.go i H (With O Dn) μi st wi hlt
    refine .inr ⟨go, _, fun H' h => ⟨ds.length - (i + 1), by omega, h⟩, fun x H' hy => ?_⟩
    obtain ⟨f3, w3, d, ed, rd⟩ := yl x H' hy
    have edr : ds.drop i = d :: ds.drop (i + 1) := by
      obtain ⟨h1, h2⟩ := List.getElem?_eq_some_iff.mp ed
      rw [← h2]
      exact List.drop_eq_getElem_cons h1
    rw [edr] at gi
    unfold lcF2 at gi
    cases eT : T d (wipeG Γ vs) with
    | none => rw [eT] at gi; exact False.elim gi
    | some Γ1 =>
      rw [eT] at gi
      simp only [M.opt_some, M.pure_bind] at gi
      refine ⟨With Ob Dn, With O Dn, wipeG Γ vs, μi, d, Γ1, w3, si.fr wi f3, rd, eT, fun H4 σ4 f4 w4 s4 hw => ⟨(hw vs hiv).trans wipe_wipe, ?_⟩⟩
      refine ⟨With O Dn, Γ1, μi, w4, ⟨_, s4⟩, fun H5 f5 w5 => ?_⟩
      simp only [if_true]
      have s5 := s4.fr w4 f5
      refine ⟨With O Dn, Γ1, μi, w5, ⟨_, s5⟩, (good_bind gi).imp (fun es μ6 g6 H6 f6 w6 J1 it1 => ?_) (fun _ _ z => z.elim)⟩
      obtain ⟨hes, g7⟩ := good_if g6
      have f06 := ((f3.trans f4).trans f5).trans f6
      have s6 := (s5.fr w5 f6).wipe vs1
      refine ⟨fun j k H => k = es.length - j ∧ j ≤ es.length ∧ ∃ acc' ysd' μj, Stp (With O Dn) H6 (With O Dn) H ∧ Stp O H1 (With O Dn) H ∧ Fr S H1 H ∧ Wd K S (With O Dn) H μj ∧ SlsB K S (With Ob Dn) (With O Dn) H (wipe σ vs) (wipeG Γ vs) ∧ SlsB K S (With Ob Dn) (With O Dn) H (wipe σ4 vs1) (wipeG Γ1 vs1) ∧ H Dn = some (.lst (acc ++ acc')) ∧ acc'.length ≤ j ∧ Reps K S (del H (With O Dn)) (acc ++ acc') (ysd ++ ysd') ∧ acc'.length = ysd'.length ∧
          Good (lcF T1 bYes fe (wipeG Γ1 vs1) (es.drop j) μj) (fun ys μ' => Good (lcF2 T fi T1 fe (wipeG Γ vs) vs1 (acc.length + (ysd' ++ ys).length) (ds.drop (i + 1)) μ') (fun zs μ' => ∀ H', Fr S H1 H' → Wd K S O H' μ' → ∀ v, Rep K S (del H' O) v (.lst (ysd ++ ((ysd' ++ ys) ++ zs))) → Q v H') (fun _ _ => False)) (fun _ _ => False),
          ⟨es.length, by simp, Nat.zero_le _, [], [], μ6, Stp.refl _ _, st.trans (Stp.of f06 wi), fr.trans f06, w6, si.fr wi f06, s6, ?_, Nat.le_refl _, ?_, rfl, ?_⟩, ?_⟩
      · rw [List.append_nil]
        exact f06.keep _ _ ea nr nt_lst
      · rw [List.append_nil, List.append_nil]
        exact wi.reps f06 ra
      · rw [List.drop_zero]
        exact (good_bind g7).imp (fun ys μ8 g8 => (good_bind g8).imp (fun zs μ9 g9 => g9) fun _ _ z => z) fun _ _ z => z
      · rintro j k Hj ⟨rfl, hj, acc', ysd', μj, stj, stj1, frj, wj, sj, sj1, eaj, haccj, raj, hll, gj⟩
        by_cases hlt1 : j < es.length
        · obtain ⟨go1, yl1⟩ := it1.go j Hj (With O Dn) μj stj wj hlt1
          refine .inr ⟨go1, _, fun H' h => ⟨es.length - (j + 1), by omega, h⟩, fun x H' hy => ?_⟩
          obtain ⟨f7, w7, d1, ed1, rd1⟩ := yl1 x H' hy
          have edr1 : es.drop j = d1 :: es.drop (j + 1) := by
            obtain ⟨h1, h2⟩ := List.getElem?_eq_some_iff.mp ed1
            rw [← h2]
            exact List.drop_eq_getElem_cons h1
          rw [edr1] at gj
          unfold lcF at gj
          cases eT1 : T1 d1 (wipeG Γ1 vs1) with
          | none => rw [eT1] at gj; exact False.elim gj
          | some Γ2 =>
            rw [eT1] at gj
            simp only [M.opt_some, M.pure_bind] at gj
            refine ⟨With Ob Dn, With O Dn, wipeG Γ1 vs1, μj, d1, Γ2, w7, sj1.fr wj f7, rd1, eT1, fun H8 σ8 f8 w8 s8 hw8 => ⟨(hw8 vs1 hiv1).trans wipe_wipe, ?_⟩⟩
            refine ⟨With O Dn, Γ2, μj, w8, ⟨_, s8⟩, fun H9 f9 w9 => ?_⟩
            simp only [if_true]
            have gj : Good (M.bind (fe Γ2) (fun y => M.bind (lcF T1 bYes fe (wipeG Γ1 vs1) (es.drop (j + 1))) fun ys => M.pure (y :: ys)) μj) _ _ := gj
            refine ⟨With O Dn, Γ2, μj, w9, ⟨_, s8.fr w8 f9⟩, (good_bind gj).imp (fun y μ10 g10 H10 f10 w10 v rv => ?_) (fun _ _ z => z.elim)⟩
            have f710 := ((f7.trans f8).trans f9).trans f10
            have ea10 : H10 Dn = some (.lst (acc ++ acc')) := f710.keep _ _ eaj nr nt_lst
            have ra10 : Reps K S (del H10 (With O Dn)) ((acc ++ acc') ++ [v]) ((ysd ++ ysd') ++ [y]) := Reps.append (wj.reps f710 raj) (.cons rv .nil)
            refine ⟨acc ++ acc', ea10, ?_, by first | rfl | trivial, hlt1, acc' ++ [v], ysd' ++ [y], μ10, (stj.trans (Stp.of f710 wj)).trans stw, (stj1.trans (Stp.of f710 wj)).trans stw, frw (frj.trans f710), w10.write hD' nr ea10 rfl, (sj.fr wj f710).updb hB' hD', (sj1.fr wj f710).updb hB' hD', ?_, ?_, ?_, ?_, ?_⟩
            · rw [List.length_append, sizeLine_def]
              omega
            · rw [upd_same, List.append_assoc]
            · rw [List.length_append, List.length_singleton]
              omega
            · rw [← List.append_assoc, ← List.append_assoc]
              exact ra10.mono (keep_write hD')
            · rw [List.length_append, List.length_append, hll]
              rfl
            · refine (good_bind g10).imp (fun ys μ11 g11 => ?_) fun _ _ z => z
              have g11 : Good (lcF2 T fi T1 fe (wipeG Γ vs) vs1 (acc.length + (ysd' ++ (y :: ys)).length) (ds.drop (i + 1)) μ11) (fun zs μ' => ∀ H', Fr S H1 H' → Wd K S O H' μ' → ∀ v, Rep K S (del H' O) v (.lst (ysd ++ ((ysd' ++ (y :: ys)) ++ zs))) → Q v H') (fun _ _ => False) := g11
              rw [show (ysd' ++ [y]) ++ ys = ysd' ++ (y :: ys) by rw [List.append_assoc]; rfl]
              exact g11
        · have ej : j = es.length := by omega
          subst ej
          rw [List.drop_length] at gj
          have gj : Good (lcF2 T fi T1 fe (wipeG Γ vs) vs1 (acc.length + (ysd' ++ []).length) (ds.drop (i + 1)) μj) (fun zs μ' => ∀ H', Fr S H1 H' → Wd K S O H' μ' → ∀ v, Rep K S (del H' O) v (.lst (ysd ++ ((ysd' ++ []) ++ zs))) → Q v H') (fun _ _ => False) := gj
          rw [List.append_nil] at gj
          refine .inl ⟨it1.stop _ Hj (With O Dn) μj stj wj (Nat.le_refl _), by first | rfl | trivial, hlt, acc ++ acc', ysd ++ ysd', μj, stj1, frj, wj, sj, eaj, ?_, raj, ?_⟩
          · rw [List.length_append, sizeLine_def]
            omega
          · rw [List.length_append, hll]
            exact gj.imp (fun zs μ' q H' f' w' v rv => q H' f' w' v (by rw [← List.append_assoc]; exact rv)) fun _ _ z => z
  · have ei : i = ds.length := by omega
    subst ei
    refine .inl ⟨it.stop _ H (With O Dn) μi st wi (Nat.le_refl _), ?_⟩
    rw [List.drop_length] at gi
    have q : ∀ H', Fr S H1 H' → Wd K S O H' μi → ∀ v, Rep K S (del H' O) v (.lst (ysd ++ [])) → Q v H' := gi
    refine q H fr (wi.less (fun a h => .inl h) w.rho) _ ?_
    rw [List.append_nil]
    exact .lst (by rw [del_out hOD]; exact ea) hacc (reps_less (fun a h => .inl h) ra)
section
variable {X : Cx} {S : Sg} {W : XK} {pos : Pos}
theorem tLc2_of {K : PySem.W.Frag} {fi0 fi : Env → M (List D)} {T T1 : Tgt} {is is1 vs vs1 : List Nat} {fe : E} (hiv : ∀ i ∈ is, i ∈ vs) (hiv1 : ∀ i ∈ is1, i ∈ vs1) {σ : L2.St} {H : Hp} {Q : VK} (h : tD K S W (eLc2 fi0 T fi T1 fe vs vs1) σ H Q) : tLc2 (tI K S W fi0) (tG K S T is) (tB K S E0' bYes) (tI K S E0' fi) (tG K S T1 is1) (tB K S E0' bYes) (tD K S E0' fe) vs vs1 σ H Q := by
  obtain ⟨O, h⟩ := h
  refine ⟨O, (Run.bind h).mono fun ds H1 μ μ1 w0 f1 w1 h1 J it Dn hD => ?_⟩
  obtain ⟨Γ, μ2, w2, s2, g2⟩ := h1
  refine lc2_turns hD w2 s2 it hiv hiv1 ?_
  exact (good_nox (good_bind g2)).imp (fun ys μ3 g3 H' f' w' v rv => g3 H' f' w' v rv) (fun _ _ z => z)
theorem ds_setLc2 (i : Nat) {y : Str} {py : Pos} {elt tg iter tg1 iter1 : Expr} {scope : Scope} {own : List (Str × Nat)} {vs1 : List Nat} {lpos : Pos} {fi0 fi : Env → M (List D)} {T T1 : Tgt} {is is1 : List Nat} {fe : E} (hc : X.calm = true) (hN : X.N.Nodup)
    (hsw : swapsWith (.ListComp elt [⟨tg, iter, [], 0⟩, ⟨tg1, iter1, [], 0⟩] scope lpos) (some (.Name y py)) pos.line X.env = pure true) (hi : DI X S W tg iter fi0) (ok : BlkOk X.N X.env.scope scope own) (hv : ∀ i ∈ vs1, i ∈ own.map (·.2)) (hiv : ∀ i ∈ is, i ∈ own.map (·.2)) (hiv1 : ∀ i ∈ is1, i ∈ vs1)
    (hg : ∀ (s : Shared) (H : Hp) (C : Addr) (cl : List (Str × Addr)) (fp : List Addr), DG (X.blk s H scope (compEnvC scope cl C X.env) fp) S tg T is)
    (hi1 : ∀ (s : Shared) (H : Hp) (C : Addr) (cl : List (Str × Addr)) (fp : List Addr), DI (X.blk s H scope (compEnvC scope cl C X.env) fp) S E0' tg1 iter1 fi)
    (hg1 : ∀ (s : Shared) (H : Hp) (C : Addr) (cl : List (Str × Addr)) (fp : List Addr), DG (X.blk s H scope (compEnvC scope cl C X.env) fp) S tg1 T1 is1)
    (he : ∀ (s : Shared) (H : Hp) (C : Addr) (cl : List (Str × Addr)) (fp : List Addr), DE (X.blk s H scope (compEnvC scope cl C X.env) fp) S E0' elt fe) (hy : X.N[i]? = some y := by rfl) (hyl : X.env.scope.names.lookup y = some .local := by rfl) (hs : ∀ x, foldedSetIterable iter X.env x = pure x := by intro _; rfl) (hs1 : ∀ env x, foldedSetIterable iter1 env x = pure x := by intro _ _; rfl) :
    DS X S W (.Assign [.Name y py] (.ListComp elt [⟨tg, iter, [], 0⟩, ⟨tg1, iter1, [], 0⟩] scope lpos) pos) (sSet i (eLc2 fi0 T fi T1 fe (own.map (·.2)) vs1)) :=
  psI (ps_setLc2 hc hN hy hyl hsw hi ok hv hg (fun s H C cl fp => dts_nil (S := S) (W := E0')) hi1 hg1 (fun s H C cl fp => dts_nil (S := S) (W := E0')) he hs hs1) fun Z σ H ⟨H0, O0, O, Γ, μ, m, g⟩ => by
    refine tLc2_of (Q := fun x H1 => gName i x σ H1 Z.nx) hiv hiv1 ⟨O, (st_run m g).mono fun d H1 _ _ w f' w' ⟨μ1, f1, m1, g1⟩ v rv => g1 _ _ O (m1.set rv) (Stp.of f1 w)⟩
end
end Dd
namespace Dd
open PySem PySem.Spec L2 PyProof.Rows GenW

/-! ### tuple(e for t in it) -/
theorem tup_loop {Y : Cx} {a L : Addr} {go : Obj} {g : Nat} {fp : List Addr} {tn : Nat → Heap → Prop} {σw : L2.St} {W : Unit → Nat → Nat → Hp → Prop} {QF : Hp → Prop} {B : Around} {R : Result → Shared → Prop}
    (hh : B.handled = none) (hroom : B.depth < recursionLimit) (hpn : (a, go) ∈ Y.pn) (hgo : ∀ h' : Heap, h'.get? a = some go → h'.IsGen a g) (hLf : L ∉ fp) (hkeep : ∀ i h h', tn i h → (∀ b ∈ fp, ∀ o, h.get? b = some o → h'.get? b = some o) → tn i h')
    (hF : ∀ s1 H' o, Inv Y [(a, o)] σw H' s1 → QF H' → R (.ok (.ret (.ref L))) s1) :
    ∀ (n : Nat) (s : Shared), s.heap.get? a = some go → s.heap.NoLimit → (∃ gs, s.gens[g]? = some gs ∧ gs.Goes (model Y.prog Y.w) B.in1.in1 (GRe (γ := Unit) Y a (fun _ _ => True) σw fun _ => QF)
      (GYe Y a (fun _ _ => True) fp tn σw W fun _ i m y H3 => ∃ acc, H3 L = some (.lst acc) ∧ acc.length < sizeLine ∧ ∃ m', m' < m ∧ W () (i + 1) m' (upd H3 L (.lst (acc ++ [y])))) n (.send .none) (s.setGen g .running)) →
      codeAny (model Y.prog Y.w) B (.builtin "list.extend.loop" ⟨[.ref L, .ref a, .ref L], []⟩) R s := by
  have standing : ∀ {ps : List (Addr × Obj)} {H' : Hp} {s1 : Shared}, Inv Y ps σw H' s1 → s1.heap.get? a = some go := fun I => (I.pin (a, go) (List.mem_append_left _ hpn)).1
  intro n
  induction n using Nat.strongRecOn with | _ n ih =>
  intro s hg hl ⟨gs, hgs, hgoes⟩
  have old : g < s.gens.size := Array.getElem?_eq_some_iff.mp hgs |>.1
  apply codeAny_builtin F.entry_extend_loop
  simp only [Around.under_plainId F.plain_extend_loop]
  show wpAny _ B.in1 (pyNext (.ref a) >>= _) _ _ s
  refine wpAny_bind (wpAny_gsz (n := g + 1) old (wpAny_pyNext_genexpQ (A := B.in1) (P := fun _ _ s1 => ∃ (_ : Unit) (H' : Hp) (o : Obj), True ∧ Inv Y [(a, o)] σw H' s1 ∧ QF H') hh hl hroom (hgo _ hg) hgs hgoes
    (fun v s1 gs2 hbare ⟨c, i, m, y, H3, o, hm, _, I, st, nf, rv, ⟨acc, hL, hz, m', hm', w'⟩, kap⟩ room => ?_) (fun s1 ⟨_, H', o, _, I, q⟩ h' hk _ => ?_)))
  · -- one item more, laid behind the list's
    obtain ⟨hz', its, n0, ri, e0⟩ := I.hok L _ hL
    have z0 : its.toArray.size < sizeLine := by
      rw [List.size_toArray, ← ri.length]
      exact hz
    have e1 : (s1.heap.update L (Obj.mapSeq (·.push v))).get? L = some { cls := .type "list", data := .seq (its ++ [v]).toArray (n0 + 1) } := by
      rw [Heap.get?_update_self _ e0 rfl]
      simp [Obj.mapSeq]
    have oth : ∀ b, L ≠ b → (s1.heap.update L (Obj.mapSeq (·.push v))).get? b = s1.heap.get? b := fun b ne => Heap.get?_update_other _ _ ne
    have I2 : Inv Y [(a, o)] σw (upd H3 L (.lst (acc ++ [y]))) { s1 with heap := s1.heap.update L (Obj.mapSeq (·.push v)), gens := s1.gens, toks := s1.toks } :=
      I.write (x := L) (e := L) (t' := s1.toks) (by rw [hL]; trivial) (.inl rfl) (fun b u ne q => (oth b ne.symm).trans q) ⟨_, e1⟩ ⟨by rw [List.length_append]; exact hz, its ++ [v], n0 + 1, ri.append (.cons rv .nil), e1⟩
    have st2 : tn (i + 1) (s1.heap.update L (Obj.mapSeq (·.push v))) := hkeep _ _ _ st fun b hb _ e => (oth b fun q => hLf (q ▸ hb)).trans e
    have nf2 : ∀ b ∈ fp, (upd H3 L (.lst (acc ++ [y]))) b = none := fun b hb => (upd_ne (show b ≠ L from fun q => hLf (q ▸ hb))).trans (nf b hb)
    show wpAny _ B.in1 (updateSeq L (·.push v) >>= _) _ _ _
    refine wpAny_bind (wpAny_updateSeq (s := s1.setGen g gs2) e0 rfl (wpAny_pure ⟨plainId_quiet F.plain_extend_loop _, ?_⟩) (Nat.le_of_lt z0) (by rw [Array.size_push]; exact Nat.succ_le_succ (Nat.le_of_lt z0)))
    rcases n with _ | n
    · exact (kap (({ s1 with heap := s1.heap.update L (Obj.mapSeq (·.push v)), gens := s1.gens, toks := s1.toks } : Shared).setGen g .running) () m' _ ⟨by omega, o, trivial, inv_gens I2 (allBare_setGen I2.bare rfl), st2, nf2, w'⟩).elim
    · have here : g < s1.gens.size := by
        rw [← setGen_size s1 g gs2]
        exact room
      have I3 : Inv Y [(a, o)] σw (upd H3 L (.lst (acc ++ [y]))) { s1.setGen g gs2 with heap := s1.heap.update L (Obj.mapSeq (·.push v)) } := inv_gens I2 (allBare_setGen I.bare hbare)
      exact ih n (Nat.lt_succ_self n) { s1.setGen g gs2 with heap := s1.heap.update L (Obj.mapSeq (·.push v)) } (show (s1.heap.update L (Obj.mapSeq (·.push v))).get? a = some go from standing I2) (show (s1.heap.update L (Obj.mapSeq (·.push v))).NoLimit from I2.nolimit) ⟨gs2, setGen_at here,
        kap (({ s1.setGen g gs2 with heap := s1.heap.update L (Obj.mapSeq (·.push v)) } : Shared).setGen g .running) () m' _ ⟨by omega, o, trivial, inv_gens I3 (allBare_setGen I3.bare rfl), st2, nf2, w'⟩⟩
  · exact wpAny_pure (hF _ H' o (I.call' (ch := []) rfl (Un.kept hk) (I.hok.kept hk) (allBare_setGen I.bare rfl) fun _ z => nomatch z) q)

section
variable {prog : Program} {w : World} {A : Around} {E : Value → Shared → Prop} {s : Shared} {a L : Addr} {g c : Nat}
/-- room made in an empty list: the list is empty as before, all else stands -/
theorem touched {Q : Unit → Shared → Prop} (e : s.heap.get? L = some { cls := .type "list", data := .seq #[] c })
    (q : ∀ h2 c2, h2.get? L = some { cls := .type "list", data := .seq #[] c2 } → (∀ b, L ≠ b → h2.get? b = s.heap.get? b) → Q () { s with heap := h2 }) : wpAny (model prog w) A (Builtin.List.listTouch (.ref L)) Q E s := by
  have e1 := Heap.get?_update_self (Obj.mapSeq (·.push Value.none)) e rfl
  have e2 := Heap.get?_update_self (Obj.mapSeq (·.pop)) e1 rfl
  unfold Builtin.List.listTouch
  exact wpAny_bind (wpAny_updateSeq e rfl (wpAny_updateSeq e1 rfl (q _ _ e2 fun b ne => (Heap.get?_update_other _ _ ne).trans (Heap.get?_update_other _ _ ne))))
/-- an empty list that a generator is to fill: all that comes ahead of the first item -/
theorem extend_by {Q : Fin → Shared → Prop} (e : s.heap.get? L = some { cls := .type "list", data := .seq #[] c }) (gen : s.heap.IsGen a g) (ne : L ≠ a)
    (q : ∀ h2 c2, h2.get? L = some { cls := .type "list", data := .seq #[] c2 } → (∀ b, L ≠ b → h2.get? b = s.heap.get? b) → Q (.again (.builtin "list.extend.loop" ⟨[.ref L, .ref a, .ref L], []⟩)) { s with heap := h2 }) :
    wpAny (model prog w) A (Builtin.List.listExtendWith (.ref L) (.ref a) (.ref L)) Q E s := by
  have ty : s.TypeIs (.ref a) "generator" := gen.typeIs
  have two : Builtin.List.listSameRef (.ref L) (.ref a) = false := beq_eq_false_iff_ne.mpr ne
  have kind : ((Value.type "generator" == Value.type "list") = false) ∧ ((Value.type "generator" == Value.type "tuple") = false) := by decide
  unfold Builtin.List.listExtendWith
  refine wpAny_bind (wpAny_typeOf ty ?_)
  simp only [two, kind.1, kind.2, Bool.or_self, Bool.false_eq_true, if_false]
  refine wpAny_bind (wpAny_pyIter_gen gen (wpAny_bind (wpAny_holding ?_)))
  unfold Builtin.List.listLengthHint
  refine wpAny_bind (wpAny_specialOf ty F.gen_no_len ?_)
  show wpAny _ A (specialOf (Value.ref a) (Str.ofString "__length_hint__") >>= _) _ _ _
  refine wpAny_bind (wpAny_specialOf ty F.gen_no_hint (wpAny_pure ?_))
  simp only [Bool.true_or, if_true]
  exact wpAny_bind (wpAny_rule (wpAny_bind (touched e fun h2 c2 e2 oth => wpAny_pure (q h2 c2 e2 oth))))
theorem collect_by {Q : List Value → Shared → Prop} (hgen : ∀ h' : Heap, (∀ b o, s.heap.get? b = some o → h'.get? b = some o) → h'.IsGen a g) (ha : a < s.heap.objs.size)
    (h : ∀ (h4 : Heap) (c : Nat) (R : Result → Shared → Prop), (∀ b o, s.heap.get? b = some o → h4.get? b = some o) → h4.get? s.heap.objs.size = some { cls := .type "list", dict := none, data := .seq #[] c, slots := #[] } →
      (∀ s' acc c', s'.heap.get? s.heap.objs.size = some { cls := .type "list", dict := none, data := .seq acc c', slots := #[] } → Q acc.toList s' → R (.ok (.ret (.ref s.heap.objs.size))) s') →
      codeAny (model prog w) A (.builtin "list.extend.loop" ⟨[.ref s.heap.objs.size, .ref a, .ref s.heap.objs.size], []⟩) R { s with heap := h4 }) : wpAny (model prog w) A (collect (.ref a)) Q E s := by
  have behind : ∀ b o, s.heap.get? b = some o → (s.heap.push { cls := .type "list", data := .seq #[] }).get? b = some o := fun _ _ => Heap.get?_push_of_some _
  unfold collect
  apply wpAny_bind
  apply wpAny_runValue
  apply codeAny_builtin F.entry_proto_collect
  simp only [Around.under_plainId F.plain_proto_collect]
  refine wpAny_bind (m := newList []) (wpAny_newObj_type (wpAny_pure ⟨plainId_quiet F.plain_list_iadd _, ?_⟩))
  apply codeAny_builtin F.entry_list_iadd
  simp only [Around.under_plainId F.plain_list_iadd]
  refine extend_by (L := s.heap.objs.size) (s := { s with heap := s.heap.push { cls := .type "list", data := .seq #[] } }) (Heap.get?_push_size _ rfl) (hgen _ behind) (Nat.ne_of_gt ha) fun h2 c2 e2 oth =>
    ⟨plainId_quiet F.plain_extend_loop _, h h2 c2 _ (fun b o e => (oth b (Nat.ne_of_gt (Heap.lt_size e))).trans (behind b o e)) e2 fun s' acc c' e q => ?_⟩
  exact wpAny_bind (m := load s.heap.objs.size) (wpAny_load e (wpAny_pure q))
theorem tuple_by {Q : Value → Shared → Prop} {G : List Value → Shared → Prop} (ty : s.TypeIs (.ref a) "generator")
    (col : ∀ (Q' : List Value → Shared → Prop) (E' : Value → Shared → Prop), (∀ l s', G l s' → Q' l s') → wpAny (model prog w) A.in1.in1 (collect (.ref a)) Q' E' s)
    (h : ∀ l s', G l s' → l.length ≤ sizeLine ∧ Q (.ref s'.heap.objs.size) { s' with heap := s'.heap.push { cls := .type "tuple", data := .seq l.toArray } }) : wpAny (model prog w) A (call (.type "tuple") [.ref a]) Q E s := by
  refine callType_codes (Q₁ := fun ob s1 => s1.TypeIs ob "tuple" ∧ Q ob s1) F.called_tuple (F.typeCall_tuple_1 _) F.entry_object_init (codeAny_of_tree ?_) fun ob s1 ⟨t1, q1⟩ =>
    ⟨t1, F.args_object_init_2 ob _, object_init_meets F.called_tuple.init.lookup F.called_tuple.made (by decide) prog w A.in1 _ s1 ⟨t1, rfl, q1⟩⟩
  refine wpAny_bind (m := checkBuiltinCall "tuple.__new__" _) (wpAny_of_eq (F.newCall_tuple_1 (.ref a)) (wpAny_pure ⟨plainId_quiet F.plain_tuple_new _, ?_⟩))
  apply codeAny_builtin F.entry_tuple_new
  simp only [Around.under_plainId F.plain_tuple_new]
  have _ := sub_tuple_self
  have _ := init_tuple_lookup
  have _ := madeHere_tuple
  wp_walk using wpAny_typeOf ty, col
  intro l s' lg
  obtain ⟨short, q⟩ := h l s' lg
  exact wpAny_bind (m := Builtin.Tuple.tupleExact l.toArray) (wpAny_newObj_type (wpAny_pure ⟨⟨_, Heap.get?_push_size _ rfl, rfl⟩, q⟩) (by show l.toArray.size ≤ sizeLine; rw [List.size_toArray]; exact short))
end

def tTupG (P : Addr) (wi : TI) (g : TG) (te : TE) (vs : List Nat) : TE := fun σ H Q => wi σ H fun J H1 => GxR.TabG H1 P ∧ ∀ H1', GxR.Tabbed P H1 H1' → ∀ L, H1' L = none → ∃ W : Unit → Nat → Nat → Hp → Prop, (∃ m, W () 0 m (upd H1' L (.lst []))) ∧
  GTurn J g te (wipe σ vs) vs W (fun _ H => ∃ acc, H L = some (.lst acc) ∧ acc.length ≤ sizeLine ∧ ∀ p, H p = none → Q (.ref p) (upd H p (.tup acc))) (fun _ i m y H3 => ∃ acc, H3 L = some (.lst acc) ∧ acc.length < sizeLine ∧ ∃ m', m' < m ∧ W () (i + 1) m' (upd H3 L (.lst (acc ++ [y]))))
section
variable {X : Cx}
theorem pe_tupG {c P : Addr} {elt tg iter : Expr} {scope : Scope} {p pos gpos : Pos} {own : List (Str × Nat)} {wi : TI} {g : TG} {te : TE} {k : Nat}
    (hr : Room (k + 1) X.A) (hg : Gl X "tuple") (hm : X.mg "tuple" = none) (hbt : bootBuiltins "tuple" = some (.type "tuple")) (TB : GxR.TabB X.base X.mg c P) (hcode : X.env.code = .ref c) (hco : scope.isCoroutine = false) (h0 : scope.names.lookup (".0" : Str) = some NameKind.local) (hi : PI X tg iter wi) (ok : BlkOk X.N X.env.scope scope own) (hN : X.N.Nodup)
    (hgt : ∀ (A : Around) (s : Shared) (H : Hp) (code : Value) (fp : List Addr) (pn : List (Addr × Obj)), PG (gCx X A s H scope code builtinsNs fp pn) tg g)
    (hel : ∀ (A : Around) (s : Shared) (H : Hp) (code : Value) (fp : List Addr) (pn : List (Addr × Obj)), Room k A → PE (gCx X A s H scope code builtinsNs fp pn) elt te)
    (hs : ∀ v, genFold iter X.env v = pure v := by intro _; rfl)
    (he : starEach [.GeneratorExp elt [⟨tg, iter, [], 0⟩] scope gpos] X.env = (false, eval (.GeneratorExp elt [⟨tg, iter, [], 0⟩] scope gpos) X.env) :: starEach [] X.env := by rfl) :
    PE X (.Call (.Name "tuple" p) [.GeneratorExp elt [⟨tg, iter, [], 0⟩] scope gpos] [] pos) (tTupG P wi g te (own.map (·.2))) := by
  refine ⟨fun pins s σ H Q I h => ?_⟩
  refine wpAny_Call_Name_kw (ld_blt I hg hm hbt ?_)
  refine PyProof.Rows.callWith_type1 ?_ he (by rfl)
  rw [he]
  show wpAny _ _ (spliced ((false, eval (.GeneratorExp elt [⟨tg, iter, [], 0⟩] scope gpos) X.env) :: backTo pos (starEach [] X.env))) _ _ s
  refine Calls.spliced_cons (gen_create (R := fun J H1' => ∀ L, H1' L = none → ∃ W : Unit → Nat → Nat → Hp → Prop, (∃ m, W () 0 m (upd H1' L (.lst []))) ∧
    GTurn J g te (wipe σ (own.map (·.2))) (own.map (·.2)) W (fun _ H => ∃ acc, H L = some (.lst acc) ∧ acc.length ≤ sizeLine ∧ ∀ p, H p = none → Q (.ref p) (upd H p (.tup acc))) (fun _ i m y H3 => ∃ acc, H3 L = some (.lst acc) ∧ acc.length < sizeLine ∧ ∃ m', m' < m ∧ W () (i + 1) m' (upd H3 L (.lst (acc ++ [y]))))) hr TB hcode hco h0 hi ok hN hs I h
    fun J it fp tn H2 s4 s5 code a go gn I4 T hfp hlt hW ha hos hb hgo hgen hgc hgs hst st5 => ?_)
  refine Calls.spliced_nil ?_
  have back : ∀ {s1 : Shared} {H' : Hp} {o : Obj} {A' : Around}, Inv (gCx X A' s4 H2 scope code builtinsNs fp [(a, go)]) [(a, o)] (wipe σ (own.map (·.2))) H' s1 → Inv X pins σ H' s1 := fun {s1 H' o A'} J =>
    I4.call' (ch := fp) J.os J.base J.hok J.bare fun b hb => ⟨(hfp b hb).2.2.2.1, (hfp b hb).2.1, (hfp b hb).2.2.2.2.1, (hfp b hb).2.2.2.2.2⟩
  have hAo : ∀ (A0 : Around), Around.over A0 (.compLoop (.GeneratorExp elt [⟨tg, iter, [], 0⟩] scope gpos) 0 (.ref it) .none (gEnv scope (cellsFrom (s4.heap.objs.size + 1) scope.names (cloFrom X.env.cells scope.names [])) s4.heap.objs.size code builtinsNs X.env)) [] = A0.deeper (gEnv scope (cellsFrom (s4.heap.objs.size + 1) scope.names (cloFrom X.env.cells scope.names [])) s4.heap.objs.size code builtinsNs X.env) := fun A0 => over_gen
  have hrA : Room k (X.A.in1.in1.in1.in1.deeper (gEnv scope (cellsFrom (s4.heap.objs.size + 1) scope.names (cloFrom X.env.cells scope.names [])) s4.heap.objs.size code builtinsNs X.env)) :=
    ⟨hr.hd, by have := hr.dp; show X.A.depth + 1 + 3 * k + 5 < _; omega, by have := hr.un; show X.A.units + 1 + 1 + 1 + 1 + 3 + 16 * k + 200 < _; omega⟩
  have I5 := hst (X.A.in1.in1.in1.in1.deeper (gEnv scope (cellsFrom (s4.heap.objs.size + 1) scope.names (cloFrom X.env.cells scope.names [])) s4.heap.objs.size code builtinsNs X.env)) hr.hd (Around.frames_deeper I4.ok.frames)
  have naf : a ∉ fp := fun z => absurd (Nat.lt_of_lt_of_le (hlt a z) ha) (Nat.lt_irrefl _)
  have I5' := I5.pins_of (pins' := [(a, go)]) fun p hp => by
    rw [List.mem_singleton.mp hp]
    exact I5.pin (a, go) (List.mem_append_left _ (List.mem_singleton.mpr rfl))
  have hal : a < s5.heap.objs.size := Heap.lt_size hgo
  have hsz : s4.heap.objs.size ≤ s5.heap.objs.size := Nat.le_trans ha (Nat.le_of_lt hal)
  have nL : H2 s5.heap.objs.size = none := I5'.hok.fresh (Nat.le_refl _)
  have hLf : s5.heap.objs.size ∉ fp := fun z => absurd (Nat.lt_of_lt_of_le (hlt _ z) hsz) (Nat.lt_irrefl _)
  obtain ⟨W, ⟨m, w0⟩, turn⟩ := hW _ nL
  refine tuple_by (Heap.IsGen.typeIs (s := s5) (hgen _ hgo)) (G := fun l s' => ∃ (acc : List V) (H' : Hp), Inv X pins σ H' s' ∧ Vals acc l ∧ acc.length ≤ sizeLine ∧ ∀ p, H' p = none → Q (.ref p) (upd H' p (.tup acc))) (fun Q' E' hQ' => ?_) fun l s' ⟨acc, H', I6, rv, hz, q⟩ => ?_
  · refine collect_by (g := gn) (fun h' k => hgen _ (k _ _ hgo)) hal fun h4 c4 R kp hL4 hR => ?_
    have I6 : Inv (gCx X (X.A.in1.in1.in1.in1.deeper (gEnv scope (cellsFrom (s4.heap.objs.size + 1) scope.names (cloFrom X.env.cells scope.names [])) s4.heap.objs.size code builtinsNs X.env)) s4 H2 scope code builtinsNs fp [(a, go)]) [(a, go)] (wipe σ (own.map (·.2))) (upd H2 s5.heap.objs.size (.lst [])) { s5 with heap := h4 } :=
      I5'.laid (t' := s5.toks) kp (Nat.le_refl _) ⟨Nat.zero_le _, [], c4, .nil, hL4⟩
    refine tup_loop (B := X.A.in1.in1) (Y := gCx X (X.A.in1.in1.in1.in1.deeper (gEnv scope (cellsFrom (s4.heap.objs.size + 1) scope.names (cloFrom X.env.cells scope.names [])) s4.heap.objs.size code builtinsNs X.env)) s4 H2 scope code builtinsNs fp [(a, go)]) (fp := fp) (tn := tn) (W := W) (g := gn) (QF := fun H => ∃ acc, H s5.heap.objs.size = some (.lst acc) ∧ acc.length ≤ sizeLine ∧ ∀ p, H p = none → Q (.ref p) (upd H p (.tup acc))) (σw := wipe σ (own.map (·.2)))
      hr.hd (by have := hr.dp; show X.A.depth < _; omega) (List.mem_singleton.mpr rfl) hgen hLf (fun i h h' st k => T.keep i h h' st k) (fun s1 H' o J q => ?_) m { s5 with heap := h4 } (kp _ _ hgo) I6.nolimit ⟨_, hgs, rfl, ?_⟩
    · obtain ⟨acc, hL, hz, q⟩ := q
      obtain ⟨_, its, n0, ri, e0⟩ := J.hok _ _ hL
      exact hR s1 its.toArray n0 e0 (hQ' _ _ ⟨acc, H', back J, ri, hz, q⟩)
    · exact seg_gstart (Y := gCx X (X.A.in1.in1.in1.in1.deeper (gEnv scope (cellsFrom (s4.heap.objs.size + 1) scope.names (cloFrom X.env.cells scope.names [])) s4.heap.objs.size code builtinsNs X.env)) s4 H2 scope code builtinsNs fp [(a, go)]) rfl (hAo _).symm (fun b hb => hb) (fun p hp => by rw [List.mem_singleton.mp hp]; exact naf) naf hco (fun _ _ z => z) T
        (hgt _ s4 H2 code fp _) (hel _ s4 H2 code fp _ hrA) turn m () m (upd H2 s5.heap.objs.size (.lst [])) _ _ ⟨Nat.le_refl _, go, trivial, inv_gens I6 (allBare_setGen I6.bare rfl), T.keep _ _ _ st5 fun b _ o e => kp b o e, fun b hb => (by
          rw [upd_ne (fun z : b = s5.heap.objs.size => hLf (z ▸ hb))]
          exact (hfp b hb).1), w0⟩
  · have hp := I6.hok.fresh (Nat.le_refl s'.heap.objs.size)
    have ln := rv.length
    refine ⟨by rw [← ln]; exact hz, .ref s'.heap.objs.size, _, I6.laid (t' := s'.toks) (o := .tup acc) (fun b ob q => Heap.get?_push_of_some _ q) (Nat.le_refl _) ⟨hz, l, rv, IsTup.new _ _⟩, rfl, q _ hp⟩
end
end Dd
namespace Dd
open PySem PySem.Spec L2 PyProof.Rows GenW

def eTupG (fi : Env → M (List D)) (T : Tgt) (fe : E) (vs : List Nat) : E := fun Γ => M.bind (fi Γ) fun ds => M.bind (nox (lcF T bYes fe (wipeG Γ vs) ds)) fun ys => M.pure (.tup ys)
theorem tup_turns {K : PySem.W.Frag} {S : Sg} {O : Addr → Prop} {σ : L2.St} {Γ : Env} {H1 : Hp} {μ : List D} {J : It} {ds : List D} {T : Tgt} {is vs : List Nat} {fe : E} {L : Addr} {Q : VK} (hL : H1 L = none) (w : Wd K S O H1 μ) (s : Sls K S O H1 σ Γ) (it : ItOk K S O H1 J ds) (hiv : ∀ i ∈ is, i ∈ vs)
    (g : Good (lcF T bYes fe (wipeG Γ vs) ds μ) (fun ys μ' => ∀ H', Fr S H1 H' → Wd K S O H' μ' → ∀ v, Rep K S (del H' O) v (.tup ys) → Q v H') (fun _ _ => False)) :
    ∃ W : Unit → Nat → Nat → Hp → Prop, (∃ m, W () 0 m (upd H1 L (.lst []))) ∧ GTurn J (tG K S T is) (tD K S E0' fe) (wipe σ vs) vs W (fun _ H => ∃ acc, H L = some (.lst acc) ∧ acc.length ≤ sizeLine ∧ ∀ p, H p = none → Q (.ref p) (upd H p (.tup acc))) (fun _ i m y H3 => ∃ acc, H3 L = some (.lst acc) ∧ acc.length < sizeLine ∧ ∃ m', m' < m ∧ W () (i + 1) m' (upd H3 L (.lst (acc ++ [y])))) := by
  obtain ⟨Ob, s⟩ := s
  have hOL : ¬ O L := w.fresh hL
  have hlim := it.lim
  have nr : L ∉ S.ρ := fun z => hOL (w.rho _ z)
  have hO' : With O L L := .inr rfl
  have hB' : With Ob L L := .inr rfl
  refine ⟨fun _ i m H => m = ds.length - i ∧ i ≤ ds.length ∧ ∃ acc ysd μi, Stp O H1 (With O L) H ∧ Fr S H1 H ∧ Wd K S (With O L) H μi ∧ SlsB K S (With Ob L) (With O L) H (wipe σ vs) (wipeG Γ vs) ∧ H L = some (.lst acc) ∧ acc.length ≤ i ∧ Reps K S (del H (With O L)) acc ysd ∧
      Good (lcF T bYes fe (wipeG Γ vs) (ds.drop i) μi) (fun ys μ' => ∀ H', Fr S H1 H' → Wd K S O H' μ' → ∀ v, Rep K S (del H' O) v (.tup (ysd ++ ys)) → Q v H') (fun _ _ => False),
    ⟨ds.length, by simp, Nat.zero_le _, [], [], μ, ⟨fun b o h n t => by rw [upd_ne (ne_of_none h hL)]; exact h, upd_dom, fun a h => .inl h, fun a h => h.elim .inl fun z => .inr (z ▸ hL)⟩, Fr.add hL, w.more hL, (s.wipe vs).base hL hOL, upd_same, Nat.le_refl _, .nil, g⟩, ?_⟩
  rintro ⟨⟩ i m H ⟨rfl, hi, acc, ysd, μi, st, fr, wi, si, ea, hacc, ra, gi⟩
  by_cases hlt : i < ds.length
  · obtain ⟨go, yl⟩ := it.go i H (With O L) μi st wi hlt
    refine .inr ⟨by omega, go, fun x H' hy => ?_⟩
    obtain ⟨f3, w3, d, ed, rd⟩ := yl x H' hy
    have edr : ds.drop i = d :: ds.drop (i + 1) := by
      obtain ⟨h1, h2⟩ := List.getElem?_eq_some_iff.mp ed
      rw [← h2]
      exact List.drop_eq_getElem_cons h1
    rw [edr] at gi
    unfold lcF at gi
    cases eT : T d (wipeG Γ vs) with
    | none => rw [eT] at gi; exact False.elim gi
    | some Γ1 =>
      rw [eT] at gi
      have gi : Good (M.bind (fe Γ1) (fun y => M.bind (lcF T bYes fe (wipeG Γ vs) (ds.drop (i + 1))) fun ys => M.pure (y :: ys)) μi) _ _ := gi
      refine ⟨With Ob L, With O L, wipeG Γ vs, μi, d, Γ1, w3, si.fr wi f3, rd, eT, fun H4 σ4 f4 w4 s4 hw => ⟨(hw vs hiv).trans wipe_wipe, ?_⟩⟩
      refine ⟨With O L, Γ1, μi, w4, ⟨_, s4⟩, (good_bind gi).imp (fun y μ6 g6 H6 f6 w6 v rv => ?_) (fun _ _ z => z.elim)⟩
      have f06 := (f3.trans f4).trans f6
      have ea6 : H6 L = some (.lst acc) := f06.keep _ _ ea nr nt_lst
      refine ⟨acc, ea6, by rw [sizeLine_def]; omega, ds.length - (i + 1), by omega, rfl, hlt, acc ++ [v], ysd ++ [y], μ6, ?_, ?_, w6.write hO' nr ea6 rfl, (si.fr wi f06).updb hB' hO', upd_same, by rw [List.length_append, List.length_singleton]; omega, ?_, ?_⟩
      · refine (st.trans (Stp.of f06 wi)).trans ⟨fun b o h n t => ?_, upd_dom, fun _ h => h, fun _ h => .inl h⟩
        rw [upd_ne (fun z => n (by rw [z]; exact hO'))]
        exact h
      · refine ⟨fun b o h n t => ?_, fun b h => upd_dom b ((fr.trans f06).dom b h)⟩
        rw [upd_ne (ne_of_none h hL)]
        exact (fr.trans f06).keep b o h n t
      · exact (Reps.append (wi.reps f06 ra) (.cons rv .nil)).mono (keep_write hO')
      · refine (good_bind g6).imp (fun ys μ7 g8 H' f' w' u ru => ?_) (fun _ _ z => z)
        refine g8 H' f' w' u ?_
        rw [List.append_assoc] at ru
        exact ru
  · have ei : i = ds.length := by omega
    subst ei
    rw [List.drop_length] at gi
    have q : ∀ H', Fr S H1 H' → Wd K S O H' μi → ∀ v, Rep K S (del H' O) v (.tup (ysd ++ [])) → Q v H' := gi
    have hz : acc.length ≤ sizeLine := by rw [sizeLine_def]; omega
    refine .inl ⟨it.stop _ H (With O L) μi st wi (Nat.le_refl _), acc, ea, hz, fun p hp => ?_⟩
    have w0 : Wd K S O H μi := wi.less (fun a h => .inl h) w.rho
    refine q _ (fr.trans (Fr.add hp)) (w0.add hp) _ ?_
    rw [List.append_nil]
    exact .tup (.inl (.inl (by rw [del_out (w0.fresh hp)]; exact upd_same))) hz (w0.reps (Fr.add hp) (reps_less (fun a h => .inl h) ra))
section
variable {X : Cx} {S : Sg} {W : XK}
theorem de_tupG {c P : Addr} {elt tg iter : Expr} {scope : Scope} {p pos gpos : Pos} {own : List (Str × Nat)} {fi : Env → M (List D)} {T : Tgt} {is : List Nat} {fe : E} {k : Nat}
    (TB : TbG X.base X.mg S c P) (hr : Room (k + 1) X.A) (hm : X.mg "tuple" = none) (hbt : bootBuiltins "tuple" = some (.type "tuple")) (hN : X.N.Nodup) (hi : DI X S W tg iter fi) (ok : BlkOk X.N X.env.scope scope own) (hiv : ∀ i ∈ is, i ∈ own.map (·.2))
    (hgt : ∀ (A : Around) (s : Shared) (H : Hp) (code : Value) (fp : List Addr) (pn : List (Addr × Obj)), DG (gCx X A s H scope code builtinsNs fp pn) S tg T is)
    (hel : ∀ (A : Around) (s : Shared) (H : Hp) (code : Value) (fp : List Addr) (pn : List (Addr × Obj)), Room k A → DE (gCx X A s H scope code builtinsNs fp pn) S E0' elt fe)
    (hcode : X.env.code = .ref c := by rfl) (hco : scope.isCoroutine = false := by rfl) (h0 : scope.names.lookup (".0" : Str) = some NameKind.local := by rfl) (hg : Gl X "tuple" := by rfl) (hs : ∀ v, genFold iter X.env v = pure v := by intro _; rfl)
    (he : starEach [.GeneratorExp elt [⟨tg, iter, [], 0⟩] scope gpos] X.env = (false, eval (.GeneratorExp elt [⟨tg, iter, [], 0⟩] scope gpos) X.env) :: starEach [] X.env := by rfl) :
    DE X S W (.Call (.Name "tuple" p) [.GeneratorExp elt [⟨tg, iter, [], 0⟩] scope gpos] [] pos) (eTupG fi T fe (own.map (·.2))) :=
  peI (pe_tupG hr hg hm hbt TB.tb hcode hco h0 hi ok hN hgt hel hs he) fun σ H Q ⟨O, h⟩ => ⟨O, (Run.bind h).mono fun ds H1 μ μ1 w0 f1 w1 h1 J it => by
    obtain ⟨Γ, μ2, w2, s2, g2⟩ := h1
    have t0 : GxR.TabG H1 P := w2.tabs _ TB.mem
    refine ⟨t0, fun H1' tb L hL => ?_⟩
    obtain ⟨w3, f3⟩ := wd_tabbed w2 t0 tb TB.uni
    refine tup_turns (fe := fe) (T := T) (is := is) (Γ := Γ) hL w3 (s2.fr w2 f3) (it.step (Stp.of f3 w2)) hiv ?_
    refine (good_nox (good_bind g2)).imp (fun ys μ3 g3 H' f' w' v rv => ?_) fun _ _ z => z
    have g3 : ∀ H', Fr S H1 H' → Wd X.K S O H' μ3 → ∀ v, Rep X.K S (del H' O) v (.tup ys) → Q v H' := g3
    exact g3 H' (f3.trans f') w' v rv⟩

/-! ### any over a list of one's own -/
structure ItF (K : PySem.W.Frag) (S : Sg) (O : Addr → Prop) (H1 : Hp) (J : It) (ds : List D) : Prop where
  go : ∀ (i : Nat) (H2 : Hp) (μ : List D), Fr S H1 H2 → Wd K S O H2 μ → i < ds.length → J.go i H2 ∧ ∀ x H3, J.yld i H2 x H3 → Fr S H2 H3 ∧ Wd K S O H3 μ ∧ ∃ d, ds[i]? = some d ∧ Rep K S (del H3 O) x d
  stop : ∀ (i : Nat) (H2 : Hp) (μ : List D), Fr S H1 H2 → Wd K S O H2 μ → ds.length ≤ i → J.stop i H2
theorem any_turnsF {K : PySem.W.Frag} {S : Sg} {O : Addr → Prop} {σ : L2.St} {Γ : Env} {H1 : Hp} {μ : List D} {J : It} {ds : List D} {T : Tgt} {is vs : List Nat} {fe : E} {Q : VK} (w : Wd K S O H1 μ) (s : Sls K S O H1 σ Γ) (it : ItF K S O H1 J ds) (hiv : ∀ i ∈ is, i ∈ vs)
    (g : Good (anyF T fe (wipeG Γ vs) ds μ) (fun b μ' => ∀ H', Fr S H1 H' → Wd K S O H' μ' → Q (.bl b) H') (fun _ _ => False)) :
    ∃ W : Unit → Nat → Nat → Hp → Prop, (∃ m, W () 0 m H1) ∧ GTurn J (tG K S T is) (tD K S E0' fe) (wipe σ vs) vs W (fun _ H => Q (.bl false) H) (fun _ i m y H3 => ∃ b, y = .bl b ∧ (b = true → Q (.bl true) H3) ∧ (b = false → ∃ m', m' < m ∧ W () (i + 1) m' H3)) := by
  obtain ⟨Ob, s⟩ := s
  refine ⟨fun _ i m H => m = ds.length - i ∧ i ≤ ds.length ∧ ∃ μi, Fr S H1 H ∧ Wd K S O H μi ∧ SlsB K S Ob O H (wipe σ vs) (wipeG Γ vs) ∧ Good (anyF T fe (wipeG Γ vs) (ds.drop i) μi) (fun b μ' => ∀ H', Fr S H1 H' → Wd K S O H' μ' → Q (.bl b) H') (fun _ _ => False),
    ⟨ds.length, by simp, Nat.zero_le _, μ, Fr.refl _ _, w, s.wipe vs, g⟩, ?_⟩
  rintro ⟨⟩ i m H ⟨rfl, hi, μi, fr, wi, si, gi⟩
  by_cases hlt : i < ds.length
  · obtain ⟨go, yl⟩ := it.go i H μi fr wi hlt
    refine .inr ⟨by omega, go, fun x H' hy => ?_⟩
    obtain ⟨f3, w3, d, ed, rd⟩ := yl x H' hy
    have edr : ds.drop i = d :: ds.drop (i + 1) := by
      obtain ⟨h1, h2⟩ := List.getElem?_eq_some_iff.mp ed
      rw [← h2]
      exact List.drop_eq_getElem_cons h1
    rw [edr] at gi
    unfold anyF at gi
    cases eT : T d (wipeG Γ vs) with
    | none => rw [eT] at gi; exact False.elim gi
    | some Γ1 =>
      rw [eT] at gi
      simp only [M.opt_some, M.pure_bind] at gi
      refine ⟨Ob, O, wipeG Γ vs, μi, d, Γ1, w3, si.fr wi f3, rd, eT, fun H4 σ4 f4 w4 s4 hw => ⟨(hw vs hiv).trans wipe_wipe, ?_⟩⟩
      refine ⟨O, Γ1, μi, w4, ⟨Ob, s4⟩, (good_bind gi).imp (fun y μ5 g5 H5 f5 w5 v rv => ?_) (fun _ _ z => z.elim)⟩
      obtain ⟨b, eb, g6⟩ := good_opt g5
      refine ⟨b, asB_some eb rv, fun hb => ?_, fun hb => ?_⟩
      · subst hb
        simp only [if_true] at g6
        have g6 : ∀ H', Fr S H1 H' → Wd K S O H' μ5 → Q (.bl true) H' := g6
        exact g6 H5 (((fr.trans f3).trans f4).trans f5) w5
      · subst hb
        simp only [Bool.false_eq_true, if_false] at g6
        exact ⟨ds.length - (i + 1), by omega, rfl, hlt, μ5, ((fr.trans f3).trans f4).trans f5, w5, si.fr wi ((f3.trans f4).trans f5), g6⟩
  · have ei : i = ds.length := by omega
    subst ei
    rw [List.drop_length] at gi
    have gi : ∀ H', Fr S H1 H' → Wd K S O H' μi → Q (.bl false) H' := gi
    exact .inl ⟨it.stop _ H μi fr wi (Nat.le_refl _), gi H fr wi⟩
def eAnyO (i : Nat) (T : Tgt) (fe : E) (vs : List Nat) : E := fun Γ => M.bind (M.opt (ownL i Γ)) fun ds => M.bind (nox (anyF T fe (wipeG Γ vs) ds)) fun b => M.pure (.bl b)
theorem de_anyO {c P : Addr} (i : Nat) {x : Str} {px : Pos} {elt tg : Expr} {scope : Scope} {p pos gpos : Pos} {own : List (Str × Nat)} {T : Tgt} {is : List Nat} {fe : E} {k : Nat}
    (TB : TbG X.base X.mg S c P) (hr : Room (k + 1) X.A) (hm : X.mg "any" = none) (hN : X.N.Nodup) (ok : BlkOk X.N X.env.scope scope own) (hiv : ∀ i ∈ is, i ∈ own.map (·.2))
    (hgt : ∀ (A : Around) (s : Shared) (H : Hp) (code : Value) (fp : List Addr) (pn : List (Addr × Obj)), DG (gCx X A s H scope code builtinsNs fp pn) S tg T is)
    (hel : ∀ (A : Around) (s : Shared) (H : Hp) (code : Value) (fp : List Addr) (pn : List (Addr × Obj)), Room k A → DE (gCx X A s H scope code builtinsNs fp pn) S E0' elt fe)
    (hNi : X.N[i]? = some x := by rfl) (hv : Vis X.env.scope x := by first | exact Or.inl rfl | exact Or.inr (Or.inl rfl) | exact Or.inr (Or.inr rfl)) (hd : (x == ("__debug__" : Str)) = false := by decide) (hcd : (x == ("__classdict__" : Str)) = false := by decide)
    (hcode : X.env.code = .ref c := by rfl) (hco : scope.isCoroutine = false := by rfl) (h0 : scope.names.lookup (".0" : Str) = some NameKind.local := by rfl) (hg : Gl X "any" := by rfl) (hs : ∀ v, genFold (.Name x px) X.env v = pure v := by intro _; rfl)
    (he : starEach [.GeneratorExp elt [⟨tg, .Name x px, [], 0⟩] scope gpos] X.env = (false, eval (.GeneratorExp elt [⟨tg, .Name x px, [], 0⟩] scope gpos) X.env) :: starEach [] X.env := by rfl) :
    DE X S W (.Call (.Name "any" p) [.GeneratorExp elt [⟨tg, .Name x px, [], 0⟩] scope gpos] [] pos) (eAnyO i T fe (own.map (·.2))) :=
  peI (pe_anyG hr hg hm TB.tb hcode hco h0 (pi_list (pe_var hNi hv hd hcd)) ok hN hgt hel hs he) fun σ H Q ⟨O, Γ, μ, w, ⟨Ob, s⟩, hq⟩ => by
    obtain ⟨ds, e1, g1⟩ := good_opt hq
    obtain ⟨eΓ, p', vs, eσ, hO, h0', hp, hl, hrs⟩ := ownL_some s e1
    refine ⟨_, eσ, p', rfl, ⟨_, .inl (.inl hp)⟩, ?_⟩
    have t0 : GxR.TabG H P := w.tabs _ TB.mem
    refine ⟨t0, fun H1' tb => ?_⟩
    obtain ⟨w3, f3⟩ := wd_tabbed w t0 tb TB.uni
    have nr : p' ∉ S.ρ := fun z => h0' (s.hb _ z)
    refine any_turnsF (fe := fe) (T := T) (is := is) (Γ := Γ) (ds := ds) w3 ⟨Ob, s.fr w f3⟩ ⟨fun j H2 μ2 f2 w2 hj => ?_, fun j H2 μ2 f2 w2 hj => ?_⟩ hiv ?_
    · have e2 : H2 p' = some (.lst vs) := (f3.trans f2).keep _ _ hp nr nt_lst
      rw [← hrs.length] at hj
      refine ⟨⟨_, _, .inl (.inl e2), List.getElem?_eq_getElem hj⟩, fun x H3 y => ?_⟩
      obtain ⟨e1, y⟩ := y
      subst e1
      obtain ⟨d, e3, rd⟩ := hrs.getV (y _ (.inl (.inl e2)))
      exact ⟨Fr.refl _ _, w2, d, e3, w.rep (f3.trans f2) rd⟩
    · have e2 : H2 p' = some (.lst vs) := (f3.trans f2).keep _ _ hp nr nt_lst
      exact ⟨_, .inl (.inl e2), by rw [hrs.length]; exact hj⟩
    · refine (good_nox (good_bind g1)).imp (fun b μ3 g3 H' f' w' => ?_) fun _ _ z => z
      have g3 : ∀ H', Fr S H H' → Wd X.K S O H' μ3 → ∀ v, Rep X.K S (del H' O) v (.bl b) → Q v H' := g3
      exact g3 H' (f3.trans f') w' _ (.bl b)
end
end Dd
namespace Dd
open PySem PySem.Spec L2 PyProof.Rows

/-! ### a def without parameters whose frame makes lambdas, and that gives a truth value -/
def fnP (n : Nat) (F : SF) : Fn := fun ds μ => match ds, fnF n F ds [] with
  | [], .ok (.bl b) _ => .ok (.bl b) μ
  | _, _ => .bad
section
variable {P : Program} {w : World} {K : PySem.W.Frag} {mg : Str → Option Value} {base : Heap} {S : Sg}
theorem gf_mkP {x qual : Str} {st : Stmt} {f c : Addr} {fd : FuncData} {N : List Str} {k : Nat} {F : SF} (hm : mg x = some (.ref f)) (Fu : FunT K x qual st f fd c) (b : Binds K fd [] []) (sc : FnScope N [] (defScope st)) (SS : List (Str × Addr) → Sg) (hS : ∀ cl, (SS cl).T = S.T ∧ (SS cl).ρ = [])
    (hb : ∀ (A : Around) (outer : List PySem.Env) (s : Shared) (H : Hp) (E : XK), Room k (A.deeper (PyProof.Rows.envOfC qual (defScope st) s.heap.objs.size f (.ref c))) → DSs (cxOf (L2.CX P w) P w K mg base N qual (defScope st) f (.ref c) A outer s H E) (SS (PyProof.Rows.envOfC qual (defScope st) s.heap.objs.size f (.ref c)).cells) E (defBody st) F) :
    GF P w K mg base S x [] (k + 1) (fnP N.length F) := by
  refine ⟨f, fd, hm, Fu.kp, b, ?_⟩
  refine Fu.okX sc spD_len fun A outer s H vs Q E hr h => ?_
  obtain ⟨O, ds, μ, hl, wd, r, g⟩ := h
  have hds : ds = [] := List.length_eq_zero_iff.mp hl
  subst hds
  cases r
  have b1 := hb A outer s H E hr
  obtain ⟨hT, hρ⟩ := hS (PyProof.Rows.envOfC qual (defScope st) s.heap.objs.size f (.ref c)).cells
  generalize hcl : SS (PyProof.Rows.envOfC qual (defScope st) s.heap.objs.size f (.ref c)).cells = S1 at b1 hT hρ
  have w1 : Wd K S1 O H [] := ⟨by rw [hT]; exact wd.tabs, wd.hid, wd.hm, fun b hb => (by rw [hρ] at hb; cases hb), (by rw [hρ] <;> rfl), fun j c e => (by cases e)⟩
  have g0 : Good (fnP N.length F [] μ) _ _ := g
  unfold fnP at g0
  cases e : fnF N.length F [] [] with
  | bad => rw [e] at g0; exact False.elim g0
  | exc cc μ1 => rw [e] at g0; exact False.elim g0
  | ok d μ1 =>
    rw [e] at g0
    cases d with
    | bl bb =>
      have g0 : ∀ H', Fr S H H' → Wd K S O H' μ → ∀ v, Rep K S (del H' O) v (.bl bb) → Q v H' := g0
      have sl := sls_start (K := K) (S := S1) (Ob := O) (O := O) (H := H) (N := N) (vs := []) (ds := []) (fun b hb => by rw [hρ] at hb; cases hb) .nil (Nat.zero_le _)
      have back : ∀ {H' : Hp} {μ' : List D}, Fr S1 H H' → Wd K S1 O H' μ' → Q (.bl bb) H' := fun {H' μ'} f' w' => by
        have kp : ∀ b o, H b = some o → NT o → H' b = some o := fun b o e n => f'.keep b o e (by rw [hρ]; exact List.not_mem_nil) n
        have f2 : Fr S H H' := ⟨fun b o e _ n => kp b o e n, f'.dom⟩
        have w2 : Wd K S O H' μ := ⟨by rw [← hT]; exact w'.tabs, w'.hid, w'.hm, wd.rho, wd.len, fun j c e => by
          obtain ⟨a, h1, h2⟩ := wd.amb j c e
          obtain ⟨o, ho, hm⟩ := h2.there
          exact ⟨a, h1, h2.mono (wd.keep f2) ((kp _ _ ho (mutK_nt hm)).trans ho.symm)⟩⟩
        exact g0 H' f2 w2 _ (.bl bb)
      refine ⟨_, b1, H, O, O, _, [], ⟨w1, sl, Fr.refl _ _, fun _ h => h, fun _ h => .inl h⟩, ?_⟩
      unfold fnF at e
      unfold M.bind at e
      cases e2 : F (([] : List D).map Sl.v ++ nos (N.length - ([] : List D).length)) [] with
      | bad => rw [e2] at e; cases e
      | exc cc μ2 => rw [e2] at e; cases e
      | ok o μ2 =>
        rw [e2] at e
        cases o with
        | nx Γ' => cases e
        | bk Γ' => cases e
        | ct Γ' => cases e
        | ret d =>
          have ed : d = .bl bb := by cases e; rfl
          subst ed
          exact fun v H' f' w' rv => (by cases rv; exact back f' w')
    | _ => exact False.elim g0
end
end Dd
namespace Dd
open PySem PySem.Spec L2 PyProof.Rows

/-! ### x += e, x *= e -/
section
variable {K : PySem.W.Frag} {S : Sg} {X : Cx}
def dAddA : D → D → Option D
  | .int i, .int j => some (.int (i + j))
  | .str a, .str b => if a.length + b.length ≤ 16777216 then some (.str (a ++ b)) else none
  | _, _ => none
def rAddA : R2 := fun x y H Q => rI0 (fun i j => .int (i + j)) x y H Q ∨ ∃ i j, x = .str i ∧ y = .str j ∧ i.length + j.length ≤ sizeLine ∧ Q (.str (i ++ j)) H
theorem iop_addA : OpR X (inplaceOp .Add) rAddA := iop_add.or iop_add_str
theorem hd_addA : OpD K S rAddA dAddA := by
  intro O H μ x y v w z Q wd rx ry e q
  unfold dAddA at e
  split at e
  · cases e; cases rx; cases ry
    exact .inl ⟨_, _, rfl, rfl, q _ H (Fr.refl _ _) wd (.int _)⟩
  · split at e
    · rename_i hl
      cases e
      cases rx with | str _ h1 h2 =>
      cases ry with | str _ h3 h4 =>
      exact .inr ⟨_, _, rfl, rfl, by rw [sizeLine_def]; exact hl, q _ H (Fr.refl _ _) wd (.str _ (by rw [app_len, sizeLine_def]; exact hl) (strOk_app h2 h4))⟩
    · cases e
  · cases e
def dMulI : D → D → Option D
  | .int i, .int j => if (-(2 ^ 64) < i ∧ i < 2 ^ 64) ∨ (-(2 ^ 64) < j ∧ j < 2 ^ 64) then some (.int (i * j)) else none
  | _, _ => none
theorem hd_mulI : OpD K S (rI CMul fun i j => .int (i * j)) dMulI := by
  intro O H μ x y v w z Q wd rx ry e q
  unfold dMulI at e
  split at e
  · split at e
    · rename_i hc
      cases e; cases rx; cases ry
      exact ⟨_, _, rfl, rfl, hc, q _ H (Fr.refl _ _) wd (.int _)⟩
    · cases e
  · cases e
end

/-! ### a law's frame with a list of texts ahead -/
def env2 (n i j : Nat) (kd : D) : Env := ((nos n).set j (.v kd)).set i (.v (.cell 0))
def diceOk2 (n i j : Nat) (kd : D) (F R : SF) (d : D) : Prop := Good (diceF F R (env2 n i j kd) [d]) (fun o _ => o = .ret (.bl true)) (fun _ _ => False)
def strsD (ss : List Str) : D := .lst (ss.map .str)
def tDice2 (K : PySem.W.Frag) (S : Sg) (n i j : Nat) (ss : List Str) (fe : E) (F R : SF) : TS := fun Z σ H => σ.length = n ∧ i < n ∧ j < n ∧ i ≠ j ∧ ss ≠ [] ∧ (∀ H', Z.rt (.bl true) H') ∧ ∃ O Γ, Wd K S O H [] ∧ Sls K S O H σ Γ ∧ Γ[j]? = some (.v (strsD ss)) ∧ Good (fe Γ []) (fun d μ1 => μ1 = [] ∧ ∃ x y z : Int, d = .lst [.lst [.int x, .int y, .int z]] ∧ diceOk2 n i j (strsD ss) F R (.lst [.int x, .int y, .int z])) (fun _ _ => False)
theorem reps_strs_at {K : PySem.W.Frag} {S S' : Sg} {H H' : Hp} : ∀ {ss : List Str} {vs : List V}, Reps K S H vs (ss.map .str) → Reps K S' H' vs (ss.map .str)
  | [], _, .nil => .nil
  | _ :: _, _, .cons a b => by
    rw [List.map_cons]
    refine .cons ?_ (reps_strs_at b)
    cases a with | str _ h1 h2 => exact .str _ h1 h2
theorem env2_get {n i j : Nat} {kd : D} {k : Nat} {s : Sl} (hi : i < n) (hj : j < n) (h : (env2 n i j kd)[k]? = some s) : (k = i ∧ s = .v (.cell 0)) ∨ (k = j ∧ s = .v kd) ∨ s = .no := by
  unfold env2 at h
  by_cases e : i = k
  · subst e
    rw [List.getElem?_set_self (by rw [List.length_set, nos_len]; exact hi)] at h
    exact .inl ⟨rfl, (Option.some.inj h).symm⟩
  · rw [List.getElem?_set_ne e] at h
    by_cases e2 : j = k
    · subst e2
      rw [List.getElem?_set_self (by rw [nos_len]; exact hj)] at h
      exact .inr (.inl ⟨rfl, (Option.some.inj h).symm⟩)
    · rw [List.getElem?_set_ne e2] at h
      exact .inr (.inr (nos_get h))
theorem pss_dice2 {X : Cx} {S : Sg} {W : XK} {dx : Str} {px fpos : Pos} {iter : Expr} {body rest : List Stmt} {fe : E} {F R : SF} {n : Nat} {ss : List Str} (i j : Nat) (hρ : S.ρ = []) (hp : PassesOwn (model X.prog X.w) X.A X.env X.xe) (hc : X.calm = true) (hNd : X.N.Nodup) (hN : X.N[i]? = some dx) (hx : Loc X.env.scope dx) (hf : X.fn dx = true ∨ X.env.scope.names.lookup dx = some .local)
    (hi : DE X S W iter fe) (hb : ∀ a, DSs X (S.dice a) W body F) (hr : ∀ a, DSs X (S.dice a) W rest R) (hs : ∀ x, foldedSetIterable iter X.env x = pure x := by intro _; rfl) : PSs X (.For (.Name dx px) iter body [] fpos :: rest) (tDice2 X.K S n i j ss fe F R) := by
  have hb' : PSs X body (fun Z σ H => ∃ a, tS X.K (S.dice a) W F Z σ H) := ⟨fun pins s σ H Z I ⟨a, h⟩ => (hb a).run pins s σ H Z I h⟩
  have hr' : PSs X rest (fun Z σ H => ∃ a, tS X.K (S.dice a) W R Z σ H) := ⟨fun pins s σ H Z I ⟨a, h⟩ => (hr a).run pins s σ H Z I h⟩
  refine pssI (pss_cons (ps_for hp hc (pi_list hi) (pg_name (i := i) hNd hN hx hf) hb' hs) hr') fun Z σ H ⟨hl, hin, hjn, hij, hss, hrt, O, Γ, w, s, hj, g⟩ => ?_
  obtain ⟨Ob, sb⟩ := id s
  obtain ⟨vk, ek, rk⟩ := sb.at_ j _ hj
  refine ⟨O, Γ, [], w, s, g.imp (fun d μ1 ⟨e1, x, y, z, e2, ok⟩ H1 f1 w1 v rv => ?_) fun _ _ q => q.elim⟩
  subst e1
  subst e2
  cases rv with | lst p1 p2 p3 =>
  rename_i b0 us
  cases p3 with | cons r1 r2 =>
  cases r2
  cases r1 with | lst h1 h2 h3 =>
  rename_i a vs
  obtain ⟨q1, q2⟩ := del_some h1
  obtain ⟨o1, o2⟩ := del_some p1
  have r3 : Reps X.K (S.dice a) (del H1 (With O a)) vs [.int x, .int y, .int z] := by
    cases h3 with | cons a1 b1 =>
    cases b1 with | cons a2 b2 =>
    cases b2 with | cons a3 b3 =>
    cases a1; cases a2; cases a3; cases b3
    exact .cons (.int _) (.cons (.int _) (.cons (.int _) .nil))
  have lvs : vs.length = 3 := h3.length
  have ne : b0 ≠ a := fun z => by
    rw [z, q1] at o1
    have := congrArg List.length (HO.lst.inj (Option.some.inj o1))
    rw [lvs] at this
    cases this
  have rk1 : Rep X.K S (del H1 O) vk (strsD ss) := w.rep f1 rk
  have rk2 : Rep X.K (S.dice a) (del H1 (With O a)) vk (strsD ss) := by
    unfold strsD at rk1 ⊢
    cases rk1 with | lst k1 k2 k3 =>
    rename_i c cs
    obtain ⟨k4, k5⟩ := del_some k1
    refine .lst (vs := cs) ?_ k2 (reps_strs_at k3)
    rw [del_out]
    · exact k4
    · rintro (z | z)
      · exact k5 z
      · rw [z, q1] at k4
        have ev := HO.lst.inj (Option.some.inj k4)
        subst ev
        cases h3 with | cons a1 b1 =>
        cases ss with
        | nil => exact hss rfl
        | cons u us' =>
          rw [List.map_cons] at k3
          cases k3 with | cons c1 _ =>
          cases a1
          cases c1
  refine ⟨b0, rfl, ⟨_, .inl (.inl o1)⟩, fun l m σ' H' => (l = 0 ∧ m = 1 ∧ σ' = σ ∧ H' = H1) ∨ (l = 1 ∧ m = 0 ∧ ∃ (O' : Addr → Prop) (Γ2 : Env) (μ2 : List D), Fm X.K (S.dice a) H1 (With O a) O' σ' H' Γ2 μ2 ∧ Good (R Γ2 μ2) (fun o _ => o = .ret (.bl true)) (fun _ _ => False)), ⟨1, .inl ⟨rfl, rfl, rfl, rfl⟩⟩, ?_⟩
  rintro l m σ' H' (⟨rfl, rfl, rfl, rfl⟩ | ⟨rfl, rfl, O', Γ2, μ2, mf, gd⟩)
  · refine .inr ⟨⟨_, _, .inl (.inl o1), rfl⟩, fun σ2 H2 => ∃ (O' : Addr → Prop) (Γ2 : Env) (μ2 : List D), Fm X.K (S.dice a) H' (With O a) O' σ2 H2 Γ2 μ2 ∧ Good (R Γ2 μ2) (fun o _ => o = .ret (.bl true)) (fun _ _ => False), fun σ2 H2 h => ⟨0, by decide, .inr ⟨rfl, rfl, h⟩⟩, fun v H2 hy => ?_⟩
    obtain ⟨e, hy⟩ := hy
    subst e
    have ev := hy _ (.inl (.inl o1))
    cases ev
    refine ⟨a, H2, With O a, With O a, env2 n i j (strsD ss), [.lst [.int x, .int y, .int z]], ⟨⟨w1.tabs, fun b hb => ?_, fun b hb => ?_, fun b hb => ?_, rfl, fun j c e => ?_⟩, ⟨?_, fun b hb => ?_, fun k sl e => ?_, fun k l b d d2 e _ _ _ => ?_⟩, Fr.refl _ _, fun _ h => h, fun _ h => .inl h⟩, (good_bind ok).imp (fun o μ2 g2 => ?_) fun _ _ q => q.elim⟩
    · rcases hb with hb | hb
      · exact w1.hid b hb
      · rw [hb, q1]; intro z; cases z
    · rcases hb with hb | hb
      · exact w1.hm b hb
      · exact ⟨_, by rw [hb]; exact q1, rfl⟩
    · exact .inr (List.mem_singleton.mp hb)
    · cases j with
      | zero => cases e; exact ⟨a, rfl, vs, q1, h2, r3⟩
      | succ j => cases e
    · unfold env2
      rw [List.length_set, List.length_set, List.length_set, hl, nos_len]
    · exact .inr (List.mem_singleton.mp hb)
    · rcases env2_get hin hjn e with ⟨rfl, rfl⟩ | ⟨rfl, rfl⟩ | rfl
      · exact ⟨.ref a, by rw [List.getElem?_set_self (by rw [hl]; exact hin)], .cell rfl⟩
      · by_cases hk : i = k
        · exact absurd hk hij
        · exact ⟨vk, by rw [List.getElem?_set_ne hk]; exact ek, rk2⟩
      · trivial
    · exfalso
      rcases env2_get hin hjn e with ⟨rfl, h⟩ | ⟨rfl, h⟩ | h <;> cases h
    · cases o with
      | nx Γ2 => exact fun σ' H' O' m st => ⟨O', Γ2, μ2, m, g2⟩
      | ct Γ2 => exact fun σ' H' O' m st => ⟨O', Γ2, μ2, m, g2⟩
      | bk Γ2 => exact False.elim g2
      | ret d => exact False.elim g2
  · have kb : H' b0 = some (.lst [.ref a]) := mf.fr.keep _ _ o1 (fun z => ne (List.mem_singleton.mp z)) nt_lst
    refine .inl ⟨⟨_, .inl (.inl kb), Nat.le_refl 1⟩, a, H1, With O a, O', Γ2, μ2, mf, gd.imp (fun o μ3 e => ?_) fun _ _ q => q.elim⟩
    subst e
    exact fun v H' _ _ rv => (by cases rv; exact hrt H')
section
variable {P : Program} {w : World} {K : PySem.W.Frag} {mg : Str → Option Value} {base : Heap} {S : Sg}
theorem law_ok2 {x qual dx kx : Str} {st : Stmt} {f c : Addr} {fd : FuncData} {N : List Str} {k i j : Nat} {fe fk : E} {F R : SF} {px fpos kp apos : Pos} {iter kex : Expr} {body rest : List Stmt} {ss : List Str} (SS : List (Str × Addr) → Sg) (hS : ∀ cl, (SS cl).T = S.T ∧ (SS cl).ρ = []) (Fu : FunT K x qual st f fd c) (sc : FnScope N ["script"] (defScope st)) (hbd : defBody st = .Assign [.Name kx kp] kex apos :: .For (.Name dx px) iter body [] fpos :: rest)
    (hi : i < N.length) (hj : j < N.length) (hij : i ≠ j) (hss : ss ≠ []) (hN : N[i]? = some dx) (hx : Loc (defScope st) dx) (hk : ∀ Γ μ, fk Γ μ = .ok (strsD ss) μ) (hw : ∀ ns : List Int, ns.length ≤ 63 → Good (fe ((.v (.rol (ns.map .int)) :: nos (N.length - 1)).set j (.v (strsD ss))) []) (fun d μ1 => μ1 = [] ∧ ∃ x y z : Int, d = .lst [.lst [.int x, .int y, .int z]] ∧ diceOk2 N.length i j (strsD ss) F R (.lst [.int x, .int y, .int z])) (fun _ _ => False))
    (hb : ∀ (A : Around) (outer : List PySem.Env) (s : Shared) (H : Hp) (E : XK), Room k (A.deeper (PyProof.Rows.envOfC qual (defScope st) s.heap.objs.size f (.ref c))) →
      DS (cxOf (L2.CX P w) P w K mg base N qual (defScope st) f (.ref c) A outer s H E) (SS (PyProof.Rows.envOfC qual (defScope st) s.heap.objs.size f (.ref c)).cells) E (.Assign [.Name kx kp] kex apos) (sSet j fk) ∧
      DE (cxOf (L2.CX P w) P w K mg base N qual (defScope st) f (.ref c) A outer s H E) (SS (PyProof.Rows.envOfC qual (defScope st) s.heap.objs.size f (.ref c)).cells) E iter fe ∧
      (∀ a, DSs (cxOf (L2.CX P w) P w K mg base N qual (defScope st) f (.ref c) A outer s H E) ((SS (PyProof.Rows.envOfC qual (defScope st) s.heap.objs.size f (.ref c)).cells).dice a) E body F) ∧
      (∀ a, DSs (cxOf (L2.CX P w) P w K mg base N qual (defScope st) f (.ref c) A outer s H E) ((SS (PyProof.Rows.envOfC qual (defScope st) s.heap.objs.size f (.ref c)).cells).dice a) E rest R) ∧
      (∀ x, foldedSetIterable iter (cxOf (L2.CX P w) P w K mg base N qual (defScope st) f (.ref c) A outer s H E).env x = pure x)) :
    FnOk P w K mg base (L2.CX P w) (k + 1) f fd ["script"] (spL K S) := by
  refine Fu.okX sc (fun vs H Q E ⟨a, ns, e, _⟩ => by rw [e]; rfl) fun A outer s H vs Q E hrm h => ?_
  obtain ⟨a, ns, rfl, hl, ht, hq, hQ⟩ := h
  obtain ⟨b0, b1, b2, b3, b4⟩ := hb A outer s H E hrm
  have cx := ctx_of (P := P) (w := w) (K := K) (mg := mg) (base := base) (qual := qual) (scope := defScope st) (f := f) (cd := .ref c) (A := A) (outer := outer) (s := s) (H := H) (E := E) sc.nd
  obtain ⟨hT, hρ⟩ := hS (PyProof.Rows.envOfC qual (defScope st) s.heap.objs.size f (.ref c)).cells
  rw [hbd]
  refine ⟨_, pss_cons b0 (pss_dice2 (n := N.length) (ss := ss) i j hρ cx.po rfl sc.nd hN hx (.inl rfl) b1 b2 b3 b4), ?_⟩
  have hle : 1 ≤ N.length := by
    have e := sc.pre
    have q : (N.take 1).length = 1 := by
      have := congrArg List.length e
      exact this
    rw [List.length_take] at q
    omega
  have wd : Wd K (SS (PyProof.Rows.envOfC qual (defScope st) s.heap.objs.size f (.ref c)).cells) (fun _ => False) H [] := ⟨by rw [hT]; exact tabs_of0 ht, fun _ z => z.elim, fun _ z => z.elim, fun b hb => (by rw [hρ] at hb; cases hb), (by rw [hρ] <;> rfl), fun j c e => (by cases e)⟩
  have hd0 : del H (fun _ => False) = H := by
    funext b
    exact del_out (fun z => z)
  have rs : Rep K (SS (PyProof.Rows.envOfC qual (defScope st) s.heap.objs.size f (.ref c)).cells) (del H fun _ => False) (.ref a) (.rol (ns.map .int)) := by
    rw [hd0]
    exact .rol hq (by rw [List.length_map, sizeLine_def]; omega) (reps_ints ns)
  have sl := sls_start (Ob := fun _ => False) (N := N) (fun b hb => by rw [hρ] at hb; cases hb) (Reps.cons rs .nil) hle
  have len0 : ((.v (.rol (ns.map .int)) :: nos (N.length - 1) : Env)).length = N.length := by
    rw [List.length_cons, nos_len]
    omega
  refine ⟨H, fun _ => False, fun _ => False, .v (.rol (ns.map .int)) :: nos (N.length - 1), [], ⟨wd, sl, Fr.refl _ _, fun _ h => h, fun _ h => .inl h⟩, ?_⟩
  unfold sSet M.bind
  rw [hk]
  show ∀ σ' H' O', _ → _ → _
  intro σ' H' O' m st
  refine ⟨?_, hi, hj, hij, hss, hQ, O', _, m.wd, ⟨_, m.sl⟩, List.getElem?_set_self (by rw [len0]; exact hj), hw ns hl⟩
  rw [m.sl.len, List.length_set, len0]
end
end Dd
namespace Dd
open PySem PySem.Spec L2

/-! ### k in d, e != d as tests -/
section
variable {X : Cx} {S : Sg} {W : XK} {pos : Pos} {a b : Expr} {f g : E}
theorem din_of {K : PySem.W.Frag} {σ : St} {H : Hp} {Q : VK} (h : tD K S W (eOp dInD g f) σ H Q) : tDIn (tD K S W g) (tD K S W f) σ H Q := by
  obtain ⟨O, hq⟩ := h
  exact ⟨O, (Run.bind hq).mono fun y H1 μ μ1 w0 f1 w1 h1 v rv => ⟨O, (Run.bind h1).mono fun x H2 μ2 μ3 w2 f2 w3 h2 u ru => by
    obtain ⟨z, μ4, e, w4, q⟩ := Run.opt h2
    cases x with
    | dk ks ds =>
      cases ru with | dk p1 p2 p3 =>
      rename_i ad vs
      obtain ⟨k, ek, e2⟩ := Option.map_eq_some_iff.mp (show (keyOf y).map (fun k => D.bl (getK ks ds k).isSome) = some z from e)
      subst e2
      refine ⟨ad, getK ks vs k, rfl, ?_, ?_⟩
      · rw [keyOf_rep ek rv, ← valV_zip]
        exact DGet.k (seen p1)
      · rw [getK_iff (zs := ds) p3.length]
        exact q H2 (Fr.refl _ _) w4 _ (.bl _)
    | _ => cases e⟩⟩
theorem dt_din (hu : X.A.units + 64 < cLine) (hb : DE X S W b g) (ha : DE X S W a f) (hm : behindInMarks .In a = false := by rfl) : DT X S W (.Compare b [.In] [a] pos) (bOf (eOp dInD g f)) :=
  ptI (pt_cmp (pc_din (by omega) hb ha) hm) fun σ H Q h => din_of (bOf_run (t := tD X.K S W (eOp dInD g f)) h)
theorem neDO_of {K : PySem.W.Frag} (i : Nat) {x : Str} {σ : St} {H : Hp} {Q : VK} (h : tD K S W (eNeDO f i) σ H Q) : tOp rNeDA (tD K S W f) (fun σ H Q => ∃ v, σ[i]? = some (some v) ∧ Q v H) σ H Q := by
  obtain ⟨O, Γ, μ, w, ⟨Ob, s⟩, hq⟩ := h
  obtain ⟨le, e1, g1⟩ := good_opt hq
  obtain ⟨eΓ, p', ws, eσ, hO, h0, hp, hl, hr⟩ := ownK_some s e1
  refine ⟨O, Γ, μ, w, ⟨Ob, s⟩, (good_bind g1).imp (fun y μ1 g2 H1 f1 w1 v rv => ?_) fun _ _ z => z⟩
  have hp1 : H1 p' = some (.dK (le.1.zip ws)) := f1.keep _ _ hp (fun z => h0 (s.hb _ z)) nt_dK
  cases y with
  | dk ks ds =>
    by_cases hc : sameDk ks ds le.1 le.2 = true
    · simp only [hc, if_true] at g2
      have g2 : ∀ H', Fr S H1 H' → Wd K S O H' μ1 → ∀ v, Rep K S (del H' O) v (.bl false) → Q v H' := fun H' f' w' v rv => g2 H' (f1.trans f') w' v rv
      unfold sameDk at hc
      rw [Bool.and_eq_true, Bool.and_eq_true] at hc
      obtain ⟨⟨c1, c2⟩, c3⟩ := hc
      have c1 : ks.length = le.1.length := by simpa using c1
      have c2 : ks.length = ds.length := by simpa using c2
      cases rv with | dk q1 q2 q3 =>
      rename_i ad vs
      refine ⟨_, eσ, ad, p', ks.zip vs, le.1.zip ws, rfl, rfl, seen q1, hp1, ?_, same_at hr q3 c2 c3, g2 H1 (Fr.refl _ _) w1 _ (.bl _)⟩
      rw [List.length_zip, List.length_zip, ← q2, ← hl, Nat.min_self, Nat.min_self]
      exact c1
    · simp only [hc, if_false] at g2
      exact False.elim g2
  | _ => exact False.elim g2
theorem dt_neDO (i : Nat) {x : Str} {px : Pos} (hu : X.A.units + 64 < cLine) (ha : DE X S W a f) (hN : X.N[i]? = some x := by rfl) (hvx : Vis X.env.scope x := by first | exact Or.inl rfl | exact Or.inr (Or.inl rfl) | exact Or.inr (Or.inr rfl)) (hd : (x == ("__debug__" : Str)) = false := by decide)
    (hcd : (x == ("__classdict__" : Str)) = false := by decide) (hm : behindInMarks .NotEq (.Name x px) = false := by rfl) : DT X S W (.Compare a [.NotEq] [.Name x px] pos) (bOf (eNeDO f i)) :=
  ptI (pt_cmpR (op_ne_dictA (by omega)) ha (pe_var hN hvx hd hcd) hm) fun σ H Q h => neDO_of (x := x) i (bOf_run (t := tD X.K S W (eNeDO f i)) h)
end
end Dd
namespace K1
open PySem PySem.Spec L2 Dd
def top (i : Nat) : Stmt := PySem.Challenge.pw_friezestack_k02_strips_that_are_made.main.body.getD i (.Pass ⟨0, 0, 0, 0⟩)
def acFunctionDef_body (i : Nat) (s : Stmt) : Stmt := (defBody s).getD i (.Pass ⟨0, 0, 0, 0⟩)
def acFor_body (i : Nat) : Stmt → Stmt | .For _ _ b _ _ => b.getD i (.Pass ⟨0, 0, 0, 0⟩) | s => s
def acFor_iter : Stmt → Expr | .For _ e _ _ _ => e | _ => .List [] ⟨0, 0, 0, 0⟩
def acIf_body (i : Nat) : Stmt → Stmt | .If _ b _ _ => b.getD i (.Pass ⟨0, 0, 0, 0⟩) | s => s
def acIf_test : Stmt → Expr | .If e _ _ _ => e | _ => .List [] ⟨0, 0, 0, 0⟩
def acAssign_value : Stmt → Expr | .Assign _ e _ => e | _ => .List [] ⟨0, 0, 0, 0⟩
def acReturn_value : Stmt → Expr | .Return (some e) _ => e | _ => .List [] ⟨0, 0, 0, 0⟩
def acBoolOp_values (i : Nat) : Expr → Expr | .BoolOp _ es _ => es.getD i (.List [] ⟨0, 0, 0, 0⟩) | e => e
def acCompare_left : Expr → Expr | .Compare a _ _ _ => a | e => e
def acCompare_comparators (i : Nat) : Expr → Expr | .Compare _ _ es _ => es.getD i (.List [] ⟨0, 0, 0, 0⟩) | e => e
def acCall_args (i : Nat) : Expr → Expr | .Call _ es _ _ => es.getD i (.List [] ⟨0, 0, 0, 0⟩) | e => e
def acList_elts (i : Nat) : Expr → Expr | .List es _ => es.getD i (.List [] ⟨0, 0, 0, 0⟩) | e => e
def acUnaryOp_operand : Expr → Expr | .UnaryOp _ a _ => a | e => e
def acUnaryOp_operand' : Expr → Expr := acUnaryOp_operand
def acListComp_elt : Expr → Expr | .ListComp e _ _ _ => e | e => e
def genS : Expr → Scope | .GeneratorExp _ _ s _ => s | _ => { kind := .function, names := [], isGenerator := false, isCoroutine := false, more := [] }
def lamP : Expr → Arguments | .Lambda p _ _ _ => p | _ => { posonlyargs := [], args := [], vararg := none, kwonlyargs := [], kw_defaults := [], kwarg := none, defaults := [] }
def lamB : Expr → Expr | .Lambda _ b _ _ => b | e => e
def lamS : Expr → Scope | .Lambda _ _ s _ => s | _ => { kind := .function, names := [], isGenerator := false, isCoroutine := false, more := [] }
def G_MOST_WIDE : D := .int 24
def G_MOST_HIGH : D := .int 8
def G_MOST_COUNTED : D := .int 5000
def G_KINDS_OF_STRIPS : D := (.tup [(.str "hop"), (.str "step"), (.str "sidle"), (.str "spinning hop"), (.str "spinning sidle"), (.str "jump"), (.str "spinning jump")])
abbrev toldC : List Nat := [1, 2, 3]
abbrev toldR : Str := "FriezeError"
abbrev s_told : Stmt := top 25
abbrev iRng3E (fs : Dd.Env → M (List D)) : Dd.Env → M (List D) := fun Γ => M.bind (fs Γ) fun xs => M.opt (range3D xs)
abbrev iZipE (fs : Dd.Env → M (List D)) : Dd.Env → M (List D) := fun Γ => M.bind (fs Γ) fun xs => M.opt (zipDB xs)
abbrev iEnumE (fs : Dd.Env → M (List D)) : Dd.Env → M (List D) := fun Γ => M.bind (fs Γ) fun xs => M.opt (enumD xs)
structure Txt (K : PySem.W.Frag) (mg : Str → Option Value) (S : Sg) : Prop where
  nd : S.ρ.Nodup
  len : mg "len" = none
  range : mg "range" = none
  tuple : mg "tuple" = none
  list : mg "list" = none
  int : mg "int" = none
  abs : mg "abs" = none
  any : mg "any" = none
  zip : mg "zip" = none
  dict : mg "dict" = none
  min : mg "min" = none
  enumerate : mg "enumerate" = none
  c_MOST_WIDE : GC K mg "MOST_WIDE" G_MOST_WIDE
  c_MOST_HIGH : GC K mg "MOST_HIGH" G_MOST_HIGH
  c_KINDS_OF_STRIPS : GC K mg "KINDS_OF_STRIPS" G_KINDS_OF_STRIPS
  c_MOST_COUNTED : GC K mg "MOST_COUNTED" G_MOST_COUNTED
  x_StripError : GX K mg S "StripError" 1
  x_MakingError : GX K mg S "MakingError" 2
  x_CountError : GX K mg S "CountError" 3
  cl_0 : Cls K (S.CA 0)
  fn_0 : S.FN 0 = [("rows" : Str)]
  nf_0 : ∀ m : Str, m ≠ "rows" → m ∉ S.FN 0
  f_0_0 : GFl K S 0 0 "rows"
/-! ### Strip.__init__ -/
abbrev s_Strip_init : Stmt := inClass (top 9) 0
abbrev N_Strip_init : List Str := ["self", "rows", "row"]
theorem sc_Strip_init : FnScope N_Strip_init ["self", "rows"] (defScope s_Strip_init) := ⟨rfl, rfl, rfl, by decide +kernel, rfl, by decide +kernel, by decide +kernel⟩
def F_Strip_init : SF := sSeq (sIf (bOr (bNot (bOf (eChain dLt dLe (eC (.int 0)) (eCall dLen (aCons (eFld 0 0 (eVar 0)) (aNil))) (eC G_MOST_HIGH)))) (bNot (bOf (eChain dLt dLe (eC (.int 0)) (eCall dLen (aCons (eIx (eFld 0 0 (eVar 0)) (eC (.int 0))) (aNil))) (eC G_MOST_WIDE))))) (sRaise 1) (sNil))
      (sIf (bOf (eAny (iSeq (eFld 0 0 (eVar 0))) (tName 2) (eOp dNe (eCall dLen (aCons (eVar 2) (aNil))) (eCall dLen (aCons (eIx (eFld 0 0 (eVar 0)) (eC (.int 0))) (aNil)))) [2])) (sRaise 1) (sNil))
def E_Strip_init : E := eCall dTuple (aCons (eVar 1) (aNil))
def Fn_Strip_init : Fn := initF 0 3 E_Strip_init F_Strip_init
theorem ok_Strip_init {P : Program} {w : World} {K : PySem.W.Frag} {mg : Str → Option Value} {base : Heap} {S : Sg} (T : Txt K mg S) {c Pt : Addr} (TB : TbG base mg S c Pt)  {f : Addr} {fd : FuncData} (Fu : FunT K "__init__" "Strip.__init__" s_Strip_init f fd c) (hm : mg "Strip" = some (.ref (S.CA 0))) (mk : Mk K (S.CA 0) f) (b : Binds K fd ["self", "rows"] []) : GK P w K mg base S "Strip" 1 2 Fn_Strip_init :=
  gk_mk hm mk T.cl_0 T.f_0_0.na T.fn_0 Fu b sc_Strip_init rfl rfl rfl (fun A outer s H E hr => by
    have cx := ctx_of (P := P) (w := w) (K := K) (mg := mg) (base := base) (qual := "Strip.__init__") (scope := defScope s_Strip_init) (f := f) (cd := .ref c) (A := A) (outer := outer) (s := s) (H := H) (E := E) sc_Strip_init.nd
    exact ⟨de_callTy call_tuple_of hd_tuple T.tuple (by decide +kernel) (da_cons (de_var 1) (da_nil)), by first | exact Or.inl rfl | exact Or.inr (Or.inl rfl), by rfl⟩) (fun A outer s H E hr => by
    have cx := ctx_of (P := P) (w := w) (K := K) (mg := mg) (base := base) (qual := "Strip.__init__") (scope := defScope s_Strip_init) (f := f) (cd := .ref c) (A := A) (outer := outer) (s := s) (H := H) (E := E) sc_Strip_init.nd
    exact dss_cons (ds_if (dt_w (dw_or (dt_not (dt_chain op_lt hd_cmp op_le hd_cmp (de_int) (de_callB call_len hd_len T.len (by decide +kernel) (da_cons (de_fld T.f_0_0 (de_var 0)) (da_nil))) (de_glob T.c_MOST_HIGH))) (dw_or1 (dt_not (dt_chain op_lt hd_cmp op_le hd_cmp (de_int) (de_callB call_len hd_len T.len (by decide +kernel) (da_cons (de_ix (de_fld T.f_0_0 (de_var 0)) (de_int)) (da_nil))) (de_glob T.c_MOST_WIDE)))))) (dss_one (ds_raise cx.calm cx.tk T.x_StripError)) (dss_nil))
      (dss_one (ds_if (dt_val (de_any (own := [("row", 2)]) (k := 0) TB (hr.mono (by decide)) T.any cx.nd (di_seq (de_fld T.f_0_0 (de_var 0))) (blkOk_by (N := N_Strip_init) (sc := defScope s_Strip_init) (by decide +kernel)) (by decide) (fun _ _ _ _ _ _ => dg_name 2 cx.nd) (fun _ _ _ _ _ _ hr => de_cmp (op_neD hr.units) hd_ne (de_callB call_len hd_len T.len (by decide +kernel) (da_cons (de_var 2) (da_nil))) (de_callB call_len hd_len T.len (by decide +kernel) (da_cons (de_ix (de_fld T.f_0_0 (de_var 0)) (de_int)) (da_nil)))))) (dss_one (ds_raise cx.calm cx.tk T.x_StripError)) (dss_nil))))
/-! ### Strip.wide -/
abbrev s_Strip_wide : Stmt := inClass (top 9) 1
abbrev N_Strip_wide : List Str := ["self"]
theorem sc_Strip_wide : FnScope N_Strip_wide ["self"] (defScope s_Strip_wide) := ⟨rfl, rfl, rfl, by decide +kernel, rfl, by decide +kernel, by decide +kernel⟩
def F_Strip_wide : SF := sRet (eCall dLen (aCons (eIx (eFld 0 0 (eVar 0)) (eC (.int 0))) (aNil)))
def Fn_Strip_wide : Fn := fnF 1 F_Strip_wide
theorem ok_Strip_wide {P : Program} {w : World} {K : PySem.W.Frag} {mg : Str → Option Value} {base : Heap} {S : Sg} (T : Txt K mg S)  {f : Addr} {fd : FuncData} (Fu : Fun K "wide" "Strip.wide" s_Strip_wide f fd) (hm : Meth K (S.CA 0) "wide" f) (b : Binds K fd ["self"] []) : GM P w K mg base S 0 "wide" ["self"] 1 Fn_Strip_wide :=
  gm_mk T.cl_0 hm (T.nf_0 "wide" (by decide +kernel)) Fu b sc_Strip_wide fun cdv A outer s H E hr => by
    have cx := ctx_of (P := P) (w := w) (K := K) (mg := mg) (base := base) (qual := "Strip.wide") (scope := defScope s_Strip_wide) (f := f) (cd := cdv) (A := A) (outer := outer) (s := s) (H := H) (E := E) sc_Strip_wide.nd
    exact dss_one (ds_ret (de_callB call_len hd_len T.len (by decide +kernel) (da_cons (de_ix (de_fld T.f_0_0 (de_var 0)) (de_int)) (da_nil))))
/-! ### Strip.at -/
abbrev s_Strip_at : Stmt := inClass (top 9) 2
abbrev N_Strip_at : List Str := ["self", "x", "y"]
theorem sc_Strip_at : FnScope N_Strip_at ["self", "x", "y"] (defScope s_Strip_at) := ⟨rfl, rfl, rfl, by decide +kernel, rfl, by decide +kernel, by decide +kernel⟩
def F_Strip_at : SF := sSeq (sIf (bNot (bOf (eChain dLe dLt (eC (.int 0)) (eVar 2) (eCall dLen (aCons (eFld 0 0 (eVar 0)) (aNil)))))) (sRaise 1) (sNil))
      (sRet (eIx (eIx (eFld 0 0 (eVar 0)) (eVar 2)) (eOp dMod (eVar 1) (eMeth 0 1 Fn_Strip_wide (eVar 0) aNil))))
def Fn_Strip_at : Fn := fnF 3 F_Strip_at
theorem ok_Strip_at {P : Program} {w : World} {K : PySem.W.Frag} {mg : Str → Option Value} {base : Heap} {S : Sg} (T : Txt K mg S) (g_Strip_wide : GM P w K mg base S 0 "wide" ["self"] 1 Fn_Strip_wide) {f : Addr} {fd : FuncData} (Fu : Fun K "at" "Strip.at" s_Strip_at f fd) (hm : Meth K (S.CA 0) "at" f) (b : Binds K fd ["self", "x", "y"] []) : GM P w K mg base S 0 "at" ["self", "x", "y"] 2 Fn_Strip_at :=
  gm_mk T.cl_0 hm (T.nf_0 "at" (by decide +kernel)) Fu b sc_Strip_at fun cdv A outer s H E hr => by
    have cx := ctx_of (P := P) (w := w) (K := K) (mg := mg) (base := base) (qual := "Strip.at") (scope := defScope s_Strip_at) (f := f) (cd := cdv) (A := A) (outer := outer) (s := s) (H := H) (E := E) sc_Strip_at.nd
    exact dss_cons (ds_if (dt_not (dt_chain op_le hd_cmp op_lt hd_cmp (de_int) (de_var 2) (de_callB call_len hd_len T.len (by decide +kernel) (da_cons (de_fld T.f_0_0 (de_var 0)) (da_nil))))) (dss_one (ds_raise cx.calm cx.tk T.x_StripError)) (dss_nil))
      (dss_one (ds_ret (de_ix (de_ix (de_fld T.f_0_0 (de_var 0)) (de_var 2)) (de_op op_mod hd_mod (de_var 1) (de_meth0 (de_var 0) g_Strip_wide (hr.mono (by decide)) cx.ps)))))
/-! ### Strip.moved -/
abbrev s_Strip_moved : Stmt := inClass (top 9) 4
abbrev N_Strip_moved : List Str := ["self", "many", "shift", "row"]
theorem sc_Strip_moved : FnScope N_Strip_moved ["self", "many"] (defScope s_Strip_moved) := ⟨rfl, rfl, rfl, by decide +kernel, rfl, by decide +kernel, by decide +kernel⟩
def F_Strip_moved : SF := sSeq (sSet 2 (eOp dMod (eVar 1) (eMeth 0 1 Fn_Strip_wide (eVar 0) aNil)))
      (sRet (eFun 1 Fn_Strip_init (aCons (eLc (iSeq (eFld 0 0 (eVar 0))) (tName 3) (bYes) (eOp dAdd (eSl (eVar 3) (oSome (eVar 2)) oNone) (eSl (eVar 3) oNone (oSome (eVar 2)))) [3]) (aNil))))
def Fn_Strip_moved : Fn := fnF 4 F_Strip_moved
theorem ok_Strip_moved {P : Program} {w : World} {K : PySem.W.Frag} {mg : Str → Option Value} {base : Heap} {S : Sg} (T : Txt K mg S) (g_Strip_wide : GM P w K mg base S 0 "wide" ["self"] 1 Fn_Strip_wide) (g_Strip_init : GK P w K mg base S "Strip" 1 2 Fn_Strip_init) {f : Addr} {fd : FuncData} (Fu : Fun K "moved" "Strip.moved" s_Strip_moved f fd) (hm : Meth K (S.CA 0) "moved" f) (b : Binds K fd ["self", "many"] []) : GM P w K mg base S 0 "moved" ["self", "many"] 4 Fn_Strip_moved :=
  gm_mk T.cl_0 hm (T.nf_0 "moved" (by decide +kernel)) Fu b sc_Strip_moved fun cdv A outer s H E hr => by
    have cx := ctx_of (P := P) (w := w) (K := K) (mg := mg) (base := base) (qual := "Strip.moved") (scope := defScope s_Strip_moved) (f := f) (cd := cdv) (A := A) (outer := outer) (s := s) (H := H) (E := E) sc_Strip_moved.nd
    exact dss_cons (ds_set 2 cx.nd (de_op op_mod hd_mod (de_var 1) (de_meth0 (de_var 0) g_Strip_wide (hr.mono (by decide)) cx.ps)))
      (dss_one (ds_ret (de_make g_Strip_init (hr.mono (by decide)) cx.ps (da_cons (de_lc (own := [("row", 3)]) cx.calm cx.nd (di_seq (de_fld T.f_0_0 (de_var 0))) (blkOk_by (N := N_Strip_moved) (sc := defScope s_Strip_moved) (by decide +kernel)) (by decide) (fun _ _ _ _ _ => dg_name 3 cx.nd) (fun _ _ _ _ _ => dts_nil) (fun _ _ _ _ _ => de_op op_addD hd_add (de_sl (de_var 3) (do_some (de_var 2)) do_none) (de_sl (de_var 3) do_none (do_some (de_var 2))))) (da_nil)))))
/-! ### Strip.turned -/
abbrev s_Strip_turned : Stmt := inClass (top 9) 5
abbrev N_Strip_turned : List Str := ["self", "row"]
theorem sc_Strip_turned : FnScope N_Strip_turned ["self"] (defScope s_Strip_turned) := ⟨rfl, rfl, rfl, by decide +kernel, rfl, by decide +kernel, by decide +kernel⟩
def F_Strip_turned : SF := sRet (eFun 1 Fn_Strip_init (aCons (eLc (iSeq (eRev (eFld 0 0 (eVar 0)))) (tName 1) (bYes) (eRev (eVar 1)) [1]) (aNil)))
def Fn_Strip_turned : Fn := fnF 2 F_Strip_turned
theorem ok_Strip_turned {P : Program} {w : World} {K : PySem.W.Frag} {mg : Str → Option Value} {base : Heap} {S : Sg} (T : Txt K mg S) (g_Strip_init : GK P w K mg base S "Strip" 1 2 Fn_Strip_init) {f : Addr} {fd : FuncData} (Fu : Fun K "turned" "Strip.turned" s_Strip_turned f fd) (hm : Meth K (S.CA 0) "turned" f) (b : Binds K fd ["self"] []) : GM P w K mg base S 0 "turned" ["self"] 4 Fn_Strip_turned :=
  gm_mk T.cl_0 hm (T.nf_0 "turned" (by decide +kernel)) Fu b sc_Strip_turned fun cdv A outer s H E hr => by
    have cx := ctx_of (P := P) (w := w) (K := K) (mg := mg) (base := base) (qual := "Strip.turned") (scope := defScope s_Strip_turned) (f := f) (cd := cdv) (A := A) (outer := outer) (s := s) (H := H) (E := E) sc_Strip_turned.nd
    exact dss_one (ds_ret (de_make g_Strip_init (hr.mono (by decide)) cx.ps (da_cons (de_lc (own := [("row", 1)]) cx.calm cx.nd (di_seq (de_rev (de_fld T.f_0_0 (de_var 0)))) (blkOk_by (N := N_Strip_turned) (sc := defScope s_Strip_turned) (by decide +kernel)) (by decide) (fun _ _ _ _ _ => dg_name 1 cx.nd) (fun _ _ _ _ _ => dts_nil) (fun _ _ _ _ _ => de_rev (de_var 1))) (da_nil))))
/-! ### Strip.left_right -/
abbrev s_Strip_left_right : Stmt := inClass (top 9) 6
abbrev N_Strip_left_right : List Str := ["self", "row"]
theorem sc_Strip_left_right : FnScope N_Strip_left_right ["self"] (defScope s_Strip_left_right) := ⟨rfl, rfl, rfl, by decide +kernel, rfl, by decide +kernel, by decide +kernel⟩
def F_Strip_left_right : SF := sRet (eFun 1 Fn_Strip_init (aCons (eLc (iSeq (eFld 0 0 (eVar 0))) (tName 1) (bYes) (eRev (eVar 1)) [1]) (aNil)))
def Fn_Strip_left_right : Fn := fnF 2 F_Strip_left_right
theorem ok_Strip_left_right {P : Program} {w : World} {K : PySem.W.Frag} {mg : Str → Option Value} {base : Heap} {S : Sg} (T : Txt K mg S) (g_Strip_init : GK P w K mg base S "Strip" 1 2 Fn_Strip_init) {f : Addr} {fd : FuncData} (Fu : Fun K "left_right" "Strip.left_right" s_Strip_left_right f fd) (hm : Meth K (S.CA 0) "left_right" f) (b : Binds K fd ["self"] []) : GM P w K mg base S 0 "left_right" ["self"] 4 Fn_Strip_left_right :=
  gm_mk T.cl_0 hm (T.nf_0 "left_right" (by decide +kernel)) Fu b sc_Strip_left_right fun cdv A outer s H E hr => by
    have cx := ctx_of (P := P) (w := w) (K := K) (mg := mg) (base := base) (qual := "Strip.left_right") (scope := defScope s_Strip_left_right) (f := f) (cd := cdv) (A := A) (outer := outer) (s := s) (H := H) (E := E) sc_Strip_left_right.nd
    exact dss_one (ds_ret (de_make g_Strip_init (hr.mono (by decide)) cx.ps (da_cons (de_lc (own := [("row", 1)]) cx.calm cx.nd (di_seq (de_fld T.f_0_0 (de_var 0))) (blkOk_by (N := N_Strip_left_right) (sc := defScope s_Strip_left_right) (by decide +kernel)) (by decide) (fun _ _ _ _ _ => dg_name 1 cx.nd) (fun _ _ _ _ _ => dts_nil) (fun _ _ _ _ _ => de_rev (de_var 1))) (da_nil))))
/-! ### Strip.up_down -/
abbrev s_Strip_up_down : Stmt := inClass (top 9) 7
abbrev N_Strip_up_down : List Str := ["self"]
theorem sc_Strip_up_down : FnScope N_Strip_up_down ["self"] (defScope s_Strip_up_down) := ⟨rfl, rfl, rfl, by decide +kernel, rfl, by decide +kernel, by decide +kernel⟩
def F_Strip_up_down : SF := sRet (eFun 1 Fn_Strip_init (aCons (eRev (eFld 0 0 (eVar 0))) (aNil)))
def Fn_Strip_up_down : Fn := fnF 1 F_Strip_up_down
theorem ok_Strip_up_down {P : Program} {w : World} {K : PySem.W.Frag} {mg : Str → Option Value} {base : Heap} {S : Sg} (T : Txt K mg S) (g_Strip_init : GK P w K mg base S "Strip" 1 2 Fn_Strip_init) {f : Addr} {fd : FuncData} (Fu : Fun K "up_down" "Strip.up_down" s_Strip_up_down f fd) (hm : Meth K (S.CA 0) "up_down" f) (b : Binds K fd ["self"] []) : GM P w K mg base S 0 "up_down" ["self"] 4 Fn_Strip_up_down :=
  gm_mk T.cl_0 hm (T.nf_0 "up_down" (by decide +kernel)) Fu b sc_Strip_up_down fun cdv A outer s H E hr => by
    have cx := ctx_of (P := P) (w := w) (K := K) (mg := mg) (base := base) (qual := "Strip.up_down") (scope := defScope s_Strip_up_down) (f := f) (cd := cdv) (A := A) (outer := outer) (s := s) (H := H) (E := E) sc_Strip_up_down.nd
    exact dss_one (ds_ret (de_make g_Strip_init (hr.mono (by decide)) cx.ps (da_cons (de_rev (de_fld T.f_0_0 (de_var 0))) (da_nil))))
/-! ### Strip.has_level -/
abbrev s_Strip_has_level : Stmt := inClass (top 9) 10
abbrev N_Strip_has_level : List Str := ["self"]
theorem sc_Strip_has_level : FnScope N_Strip_has_level ["self"] (defScope s_Strip_has_level) := ⟨rfl, rfl, rfl, by decide +kernel, rfl, by decide +kernel, by decide +kernel⟩
def F_Strip_has_level : SF := sRet (eOp dEq (eFld 0 0 (eMeth 0 1 Fn_Strip_up_down (eVar 0) aNil)) (eFld 0 0 (eVar 0)))
def Fn_Strip_has_level : Fn := fnF 1 F_Strip_has_level
theorem ok_Strip_has_level {P : Program} {w : World} {K : PySem.W.Frag} {mg : Str → Option Value} {base : Heap} {S : Sg} (T : Txt K mg S) (g_Strip_up_down : GM P w K mg base S 0 "up_down" ["self"] 4 Fn_Strip_up_down) {f : Addr} {fd : FuncData} (Fu : Fun K "has_level" "Strip.has_level" s_Strip_has_level f fd) (hm : Meth K (S.CA 0) "has_level" f) (b : Binds K fd ["self"] []) : GM P w K mg base S 0 "has_level" ["self"] 5 Fn_Strip_has_level :=
  gm_mk T.cl_0 hm (T.nf_0 "has_level" (by decide +kernel)) Fu b sc_Strip_has_level fun cdv A outer s H E hr => by
    have cx := ctx_of (P := P) (w := w) (K := K) (mg := mg) (base := base) (qual := "Strip.has_level") (scope := defScope s_Strip_has_level) (f := f) (cd := cdv) (A := A) (outer := outer) (s := s) (H := H) (E := E) sc_Strip_has_level.nd
    exact dss_one (ds_ret (de_cmp (op_eqD hr.units) hd_eq (de_fld T.f_0_0 (de_meth0 (de_var 0) g_Strip_up_down (hr.mono (by decide)) cx.ps)) (de_fld T.f_0_0 (de_var 0))))
/-! ### Strip.period -/
abbrev s_Strip_period : Stmt := inClass (top 9) 3
abbrev N_Strip_period : List Str := ["self", "many"]
theorem sc_Strip_period : FnScope N_Strip_period ["self"] (defScope s_Strip_period) := ⟨rfl, rfl, rfl, by decide +kernel, rfl, by decide +kernel, by decide +kernel⟩
def F_Strip_period : SF := sSeq (sFor (iRng2 (aCons (eC (.int 1)) (aCons (eMeth 0 1 Fn_Strip_wide (eVar 0) aNil) (aNil)))) (tName 1) (sIf (bAnd (bOf (eOp dEq (eOp dMod (eMeth 0 1 Fn_Strip_wide (eVar 0) aNil) (eVar 1)) (eC (.int 0)))) (bOf (eOp dEq (eFld 0 0 (eMeth 0 2 Fn_Strip_moved (eVar 0) (aCons (eVar 1) (aNil)))) (eFld 0 0 (eVar 0))))) (sRet (eVar 1)) (sNil)))
      (sRet (eMeth 0 1 Fn_Strip_wide (eVar 0) aNil))
def Fn_Strip_period : Fn := fnF 2 F_Strip_period
theorem ok_Strip_period {P : Program} {w : World} {K : PySem.W.Frag} {mg : Str → Option Value} {base : Heap} {S : Sg} (T : Txt K mg S) (g_Strip_wide : GM P w K mg base S 0 "wide" ["self"] 1 Fn_Strip_wide) (g_Strip_moved : GM P w K mg base S 0 "moved" ["self", "many"] 4 Fn_Strip_moved) {f : Addr} {fd : FuncData} (Fu : Fun K "period" "Strip.period" s_Strip_period f fd) (hm : Meth K (S.CA 0) "period" f) (b : Binds K fd ["self"] []) : GM P w K mg base S 0 "period" ["self"] 5 Fn_Strip_period :=
  gm_mk T.cl_0 hm (T.nf_0 "period" (by decide +kernel)) Fu b sc_Strip_period fun cdv A outer s H E hr => by
    have cx := ctx_of (P := P) (w := w) (K := K) (mg := mg) (base := base) (qual := "Strip.period") (scope := defScope s_Strip_period) (f := f) (cd := cdv) (A := A) (outer := outer) (s := s) (H := H) (E := E) sc_Strip_period.nd
    exact dss_cons (ds_for cx.po cx.calm (di_range2 T.range (da_cons (de_int) (da_cons (de_meth0 (de_var 0) g_Strip_wide (hr.mono (by decide)) cx.ps) (da_nil)))) (dg_name 1 cx.nd) (dss_one (ds_if (dt_w (dw_and (dt_cmp (op_eqD hr.units) hd_eq (de_op op_mod hd_mod (de_meth0 (de_var 0) g_Strip_wide (hr.mono (by decide)) cx.ps) (de_var 1)) (de_int)) (dw_and1 (dt_cmp (op_eqD hr.units) hd_eq (de_fld T.f_0_0 (de_meth (de_var 0) g_Strip_moved (hr.mono (by decide)) cx.ps (da_cons (de_var 1) (da_nil)))) (de_fld T.f_0_0 (de_var 0)))))) (dss_one (ds_ret (de_var 1))) (dss_nil))))
      (dss_one (ds_ret (de_meth0 (de_var 0) g_Strip_wide (hr.mono (by decide)) cx.ps)))
/-! ### Strip.mirrors -/
abbrev s_Strip_mirrors : Stmt := inClass (top 9) 8
abbrev N_Strip_mirrors : List Str := ["self", "found", "image", "place"]
theorem sc_Strip_mirrors : FnScope N_Strip_mirrors ["self"] (defScope s_Strip_mirrors) := ⟨rfl, rfl, rfl, by decide +kernel, rfl, by decide +kernel, by decide +kernel⟩
def F_Strip_mirrors : SF := sSeq (sOwnL1 1 2 (eMeth 0 1 Fn_Strip_left_right (eVar 0) aNil))
      (sSeq (sFor (iRng1 (aCons (eOp dMul (eC (.int 2)) (eMeth 0 1 Fn_Strip_period (eVar 0) aNil)) (aNil))) (tName 3) (sIf (bOf (eOp dEq (eFld 0 0 (eMeth 0 2 Fn_Strip_moved (eVar 2) (aCons (eOp dSub (eC (.int 0)) (eVar 3)) (aNil)))) (eFld 0 0 (eVar 0)))) (sAppend 1 (eVar 3)) (sNil)))
      (sRet (eTupO 1)))
def Fn_Strip_mirrors : Fn := fnF 4 F_Strip_mirrors
theorem ok_Strip_mirrors {P : Program} {w : World} {K : PySem.W.Frag} {mg : Str → Option Value} {base : Heap} {S : Sg} (T : Txt K mg S) (g_Strip_left_right : GM P w K mg base S 0 "left_right" ["self"] 4 Fn_Strip_left_right) (g_Strip_period : GM P w K mg base S 0 "period" ["self"] 5 Fn_Strip_period) (g_Strip_moved : GM P w K mg base S 0 "moved" ["self", "many"] 4 Fn_Strip_moved) {f : Addr} {fd : FuncData} (Fu : Fun K "mirrors" "Strip.mirrors" s_Strip_mirrors f fd) (hm : Meth K (S.CA 0) "mirrors" f) (b : Binds K fd ["self"] []) : GM P w K mg base S 0 "mirrors" ["self"] 6 Fn_Strip_mirrors :=
  gm_mk T.cl_0 hm (T.nf_0 "mirrors" (by decide +kernel)) Fu b sc_Strip_mirrors fun cdv A outer s H E hr => by
    have cx := ctx_of (P := P) (w := w) (K := K) (mg := mg) (base := base) (qual := "Strip.mirrors") (scope := defScope s_Strip_mirrors) (f := f) (cd := cdv) (A := A) (outer := outer) (s := s) (H := H) (E := E) sc_Strip_mirrors.nd
    exact dss_cons (ds_ownL1 1 2 cx.calm cx.nd (de_meth0 (de_var 0) g_Strip_left_right (hr.mono (by decide)) cx.ps))
      (dss_cons (ds_for cx.po cx.calm (di_range1 T.range (da_cons (de_op op_mulD hd_mul (de_int) (de_meth0 (de_var 0) g_Strip_period (hr.mono (by decide)) cx.ps)) (da_nil))) (dg_name 3 cx.nd) (dss_one (ds_if (dt_cmp (op_eqD hr.units) hd_eq (de_fld T.f_0_0 (de_meth (de_var 2) g_Strip_moved (hr.mono (by decide)) cx.ps (da_cons (de_op op_sub hd_sub (de_int) (de_var 3)) (da_nil)))) (de_fld T.f_0_0 (de_var 0))) (dss_one (ds_append 1 (de_var 3))) (dss_nil))))
      (dss_one (ds_ret (de_tupO 1 T.tuple))))
/-! ### Strip.turns -/
abbrev s_Strip_turns : Stmt := inClass (top 9) 9
abbrev N_Strip_turns : List Str := ["self", "found", "image", "place"]
theorem sc_Strip_turns : FnScope N_Strip_turns ["self"] (defScope s_Strip_turns) := ⟨rfl, rfl, rfl, by decide +kernel, rfl, by decide +kernel, by decide +kernel⟩
def F_Strip_turns : SF := sSeq (sOwnL1 1 2 (eMeth 0 1 Fn_Strip_turned (eVar 0) aNil))
      (sSeq (sFor (iRng1 (aCons (eOp dMul (eC (.int 2)) (eMeth 0 1 Fn_Strip_period (eVar 0) aNil)) (aNil))) (tName 3) (sIf (bOf (eOp dEq (eFld 0 0 (eMeth 0 2 Fn_Strip_moved (eVar 2) (aCons (eOp dSub (eC (.int 0)) (eVar 3)) (aNil)))) (eFld 0 0 (eVar 0)))) (sAppend 1 (eVar 3)) (sNil)))
      (sRet (eTupO 1)))
def Fn_Strip_turns : Fn := fnF 4 F_Strip_turns
theorem ok_Strip_turns {P : Program} {w : World} {K : PySem.W.Frag} {mg : Str → Option Value} {base : Heap} {S : Sg} (T : Txt K mg S) (g_Strip_turned : GM P w K mg base S 0 "turned" ["self"] 4 Fn_Strip_turned) (g_Strip_period : GM P w K mg base S 0 "period" ["self"] 5 Fn_Strip_period) (g_Strip_moved : GM P w K mg base S 0 "moved" ["self", "many"] 4 Fn_Strip_moved) {f : Addr} {fd : FuncData} (Fu : Fun K "turns" "Strip.turns" s_Strip_turns f fd) (hm : Meth K (S.CA 0) "turns" f) (b : Binds K fd ["self"] []) : GM P w K mg base S 0 "turns" ["self"] 6 Fn_Strip_turns :=
  gm_mk T.cl_0 hm (T.nf_0 "turns" (by decide +kernel)) Fu b sc_Strip_turns fun cdv A outer s H E hr => by
    have cx := ctx_of (P := P) (w := w) (K := K) (mg := mg) (base := base) (qual := "Strip.turns") (scope := defScope s_Strip_turns) (f := f) (cd := cdv) (A := A) (outer := outer) (s := s) (H := H) (E := E) sc_Strip_turns.nd
    exact dss_cons (ds_ownL1 1 2 cx.calm cx.nd (de_meth0 (de_var 0) g_Strip_turned (hr.mono (by decide)) cx.ps))
      (dss_cons (ds_for cx.po cx.calm (di_range1 T.range (da_cons (de_op op_mulD hd_mul (de_int) (de_meth0 (de_var 0) g_Strip_period (hr.mono (by decide)) cx.ps)) (da_nil))) (dg_name 3 cx.nd) (dss_one (ds_if (dt_cmp (op_eqD hr.units) hd_eq (de_fld T.f_0_0 (de_meth (de_var 2) g_Strip_moved (hr.mono (by decide)) cx.ps (da_cons (de_op op_sub hd_sub (de_int) (de_var 3)) (da_nil)))) (de_fld T.f_0_0 (de_var 0))) (dss_one (ds_append 1 (de_var 3))) (dss_nil))))
      (dss_one (ds_ret (de_tupO 1 T.tuple))))
/-! ### Strip.slide -/
abbrev s_Strip_slide : Stmt := inClass (top 9) 11
abbrev N_Strip_slide : List Str := ["self", "many"]
theorem sc_Strip_slide : FnScope N_Strip_slide ["self"] (defScope s_Strip_slide) := ⟨rfl, rfl, rfl, by decide +kernel, rfl, by decide +kernel, by decide +kernel⟩
def F_Strip_slide : SF := sSeq (sFor (iRng2 (aCons (eC (.int 1)) (aCons (eOp dAdd (eMeth 0 1 Fn_Strip_wide (eVar 0) aNil) (eC (.int 1))) (aNil)))) (tName 1) (sIf (bOf (eOp dEq (eFld 0 0 (eMeth 0 2 Fn_Strip_moved (eMeth 0 1 Fn_Strip_up_down (eVar 0) aNil) (aCons (eVar 1) (aNil)))) (eFld 0 0 (eVar 0)))) (sRet (eVar 1)) (sNil)))
      (sRet (eC .non))
def Fn_Strip_slide : Fn := fnF 2 F_Strip_slide
theorem ok_Strip_slide {P : Program} {w : World} {K : PySem.W.Frag} {mg : Str → Option Value} {base : Heap} {S : Sg} (T : Txt K mg S) (g_Strip_wide : GM P w K mg base S 0 "wide" ["self"] 1 Fn_Strip_wide) (g_Strip_moved : GM P w K mg base S 0 "moved" ["self", "many"] 4 Fn_Strip_moved) (g_Strip_up_down : GM P w K mg base S 0 "up_down" ["self"] 4 Fn_Strip_up_down) {f : Addr} {fd : FuncData} (Fu : Fun K "slide" "Strip.slide" s_Strip_slide f fd) (hm : Meth K (S.CA 0) "slide" f) (b : Binds K fd ["self"] []) : GM P w K mg base S 0 "slide" ["self"] 5 Fn_Strip_slide :=
  gm_mk T.cl_0 hm (T.nf_0 "slide" (by decide +kernel)) Fu b sc_Strip_slide fun cdv A outer s H E hr => by
    have cx := ctx_of (P := P) (w := w) (K := K) (mg := mg) (base := base) (qual := "Strip.slide") (scope := defScope s_Strip_slide) (f := f) (cd := cdv) (A := A) (outer := outer) (s := s) (H := H) (E := E) sc_Strip_slide.nd
    exact dss_cons (ds_for cx.po cx.calm (di_range2 T.range (da_cons (de_int) (da_cons (de_op op_addD hd_add (de_meth0 (de_var 0) g_Strip_wide (hr.mono (by decide)) cx.ps) (de_int)) (da_nil)))) (dg_name 1 cx.nd) (dss_one (ds_if (dt_cmp (op_eqD hr.units) hd_eq (de_fld T.f_0_0 (de_meth (de_meth0 (de_var 0) g_Strip_up_down (hr.mono (by decide)) cx.ps) g_Strip_moved (hr.mono (by decide)) cx.ps (da_cons (de_var 1) (da_nil)))) (de_fld T.f_0_0 (de_var 0))) (dss_one (ds_ret (de_var 1))) (dss_nil))))
      (dss_one (ds_ret (de_non)))
/-! ### Strip.kind -/
abbrev s_Strip_kind : Stmt := inClass (top 9) 12
abbrev N_Strip_kind : List Str := ["self", "upright", "spin"]
theorem sc_Strip_kind : FnScope N_Strip_kind ["self"] (defScope s_Strip_kind) := ⟨rfl, rfl, rfl, by decide +kernel, rfl, by decide +kernel, by decide +kernel⟩
def F_Strip_kind : SF := sSeq (sPar 1 2 (aCons (eOp dNe (eMeth 0 1 Fn_Strip_mirrors (eVar 0) aNil) (eTup (aNil))) (aCons (eOp dNe (eMeth 0 1 Fn_Strip_turns (eVar 0) aNil) (eTup (aNil))) (aNil))))
      (sSeq (sIf (bOf (eMeth 0 1 Fn_Strip_has_level (eVar 0) aNil)) (sRet (eIf (bOf (eVar 1)) (eC (.str "spinning jump")) (eC (.str "jump")))) (sNil))
      (sSeq (sIf (bAnd (bOf (eVar 1)) (bOf (eVar 2))) (sRet (eC (.str "spinning sidle"))) (sNil))
      (sSeq (sIf (bOf (eVar 1)) (sRet (eC (.str "sidle"))) (sNil))
      (sSeq (sIf (bOf (eVar 2)) (sRet (eC (.str "spinning hop"))) (sNil))
      (sRet (eIf (bOf (eOp dIsNot (eMeth 0 1 Fn_Strip_slide (eVar 0) aNil) (eC .non))) (eC (.str "step")) (eC (.str "hop"))))))))
def Fn_Strip_kind : Fn := fnF 3 F_Strip_kind
theorem ok_Strip_kind {P : Program} {w : World} {K : PySem.W.Frag} {mg : Str → Option Value} {base : Heap} {S : Sg} (T : Txt K mg S) (g_Strip_turns : GM P w K mg base S 0 "turns" ["self"] 6 Fn_Strip_turns) (g_Strip_mirrors : GM P w K mg base S 0 "mirrors" ["self"] 6 Fn_Strip_mirrors) (g_Strip_has_level : GM P w K mg base S 0 "has_level" ["self"] 5 Fn_Strip_has_level) (g_Strip_slide : GM P w K mg base S 0 "slide" ["self"] 5 Fn_Strip_slide) {f : Addr} {fd : FuncData} (Fu : Fun K "kind" "Strip.kind" s_Strip_kind f fd) (hm : Meth K (S.CA 0) "kind" f) (b : Binds K fd ["self"] []) : GM P w K mg base S 0 "kind" ["self"] 7 Fn_Strip_kind :=
  gm_mk T.cl_0 hm (T.nf_0 "kind" (by decide +kernel)) Fu b sc_Strip_kind fun cdv A outer s H E hr => by
    have cx := ctx_of (P := P) (w := w) (K := K) (mg := mg) (base := base) (qual := "Strip.kind") (scope := defScope s_Strip_kind) (f := f) (cd := cdv) (A := A) (outer := outer) (s := s) (H := H) (E := E) sc_Strip_kind.nd
    exact dss_cons (ds_par 1 2 cx.calm cx.nd (da_cons (de_cmp (op_neD hr.units) hd_ne (de_meth0 (de_var 0) g_Strip_mirrors (hr.mono (by decide)) cx.ps) (de_tup (da_nil))) (da_cons (de_cmp (op_neD hr.units) hd_ne (de_meth0 (de_var 0) g_Strip_turns (hr.mono (by decide)) cx.ps) (de_tup (da_nil))) (da_nil))))
      (dss_cons (ds_if (dt_val (de_meth0 (de_var 0) g_Strip_has_level (hr.mono (by decide)) cx.ps)) (dss_one (ds_ret (de_if (dt_val (de_var 1)) (de_str) (de_str)))) (dss_nil))
      (dss_cons (ds_if (dt_w (dw_and (dt_val (de_var 1)) (dw_and1 (dt_val (de_var 2))))) (dss_one (ds_ret (de_str))) (dss_nil))
      (dss_cons (ds_if (dt_val (de_var 1)) (dss_one (ds_ret (de_str))) (dss_nil))
      (dss_cons (ds_if (dt_val (de_var 2)) (dss_one (ds_ret (de_str))) (dss_nil))
      (dss_one (ds_ret (de_if (dt_cmp op_notN hd_isNot (de_meth0 (de_var 0) g_Strip_slide (hr.mono (by decide)) cx.ps) (de_non)) (de_str) (de_str))))))))
/-! ### Strip.shown -/
abbrev s_Strip_shown : Stmt := inClass (top 9) 15
abbrev N_Strip_shown : List Str := ["self", "y", "many", "x"]
theorem sc_Strip_shown : FnScope N_Strip_shown ["self", "y", "many"] (defScope s_Strip_shown) := ⟨rfl, rfl, rfl, by decide +kernel, rfl, by decide +kernel, by decide +kernel⟩
def F_Strip_shown : SF := sSeq (sIf (bOf (eOp dLt (eVar 2) (eC (.int 0)))) (sRaise 1) (sNil))
      (sSeq (sExpr (eMeth 0 3 Fn_Strip_at (eVar 0) (aCons (eC (.int 0)) (aCons (eVar 1) (aNil)))))
      (sRet (eJoin (eC (.str "")) (eLc (iRng1 (aCons (eVar 2) (aNil))) (tName 3) (bYes) (eMeth 0 3 Fn_Strip_at (eVar 0) (aCons (eVar 3) (aCons (eVar 1) (aNil)))) [3]))))
def Fn_Strip_shown : Fn := fnF 4 F_Strip_shown
theorem ok_Strip_shown {P : Program} {w : World} {K : PySem.W.Frag} {mg : Str → Option Value} {base : Heap} {S : Sg} (T : Txt K mg S) (g_Strip_at : GM P w K mg base S 0 "at" ["self", "x", "y"] 2 Fn_Strip_at) {f : Addr} {fd : FuncData} (Fu : Fun K "shown" "Strip.shown" s_Strip_shown f fd) (hm : Meth K (S.CA 0) "shown" f) (b : Binds K fd ["self", "y", "many"] []) : GM P w K mg base S 0 "shown" ["self", "y", "many"] 3 Fn_Strip_shown :=
  gm_mk T.cl_0 hm (T.nf_0 "shown" (by decide +kernel)) Fu b sc_Strip_shown fun cdv A outer s H E hr => by
    have cx := ctx_of (P := P) (w := w) (K := K) (mg := mg) (base := base) (qual := "Strip.shown") (scope := defScope s_Strip_shown) (f := f) (cd := cdv) (A := A) (outer := outer) (s := s) (H := H) (E := E) sc_Strip_shown.nd
    exact dss_cons (ds_if (dt_cmp op_lt hd_cmp (de_var 2) (de_int)) (dss_one (ds_raise cx.calm cx.tk T.x_StripError)) (dss_nil))
      (dss_cons (ds_expr (de_meth (de_var 0) g_Strip_at (hr.mono (by decide)) cx.ps (da_cons (de_int) (da_cons (de_var 1) (da_nil)))))
      (dss_one (ds_ret (de_join (de_str) (de_lc (own := [("x", 3)]) cx.calm cx.nd (di_range1 T.range (da_cons (de_var 2) (da_nil))) (blkOk_by (N := N_Strip_shown) (sc := defScope s_Strip_shown) (by decide +kernel)) (by decide) (fun _ _ _ _ _ => dg_name 3 cx.nd) (fun _ _ _ _ _ => dts_nil) (fun _ _ _ _ _ => de_meth (de_var 0) g_Strip_at (hr.mono (by decide)) passB (da_cons (de_var 3) (da_cons (de_var 1) (da_nil)))))))))
/-! ### Strip.repeated -/
abbrev s_Strip_repeated : Stmt := inClass (top 9) 14
abbrev N_Strip_repeated : List Str := ["self", "many", "y"]
theorem sc_Strip_repeated : FnScope N_Strip_repeated ["self", "many"] (defScope s_Strip_repeated) := ⟨rfl, rfl, rfl, by decide +kernel, rfl, by decide +kernel, by decide +kernel⟩
def F_Strip_repeated : SF := sSeq (sIf (bOr (bOf (eOp dNe (eOp dMod (eVar 1) (eMeth 0 1 Fn_Strip_period (eVar 0) aNil)) (eC (.int 0)))) (bNot (bOf (eChain dLt dLe (eC (.int 0)) (eVar 1) (eC G_MOST_WIDE))))) (sRaise 1) (sNil))
      (sRet (eFun 1 Fn_Strip_init (aCons (eLc (iRng1 (aCons (eCall dLen (aCons (eFld 0 0 (eVar 0)) (aNil))) (aNil))) (tName 2) (bYes) (eMeth 0 3 Fn_Strip_shown (eVar 0) (aCons (eVar 2) (aCons (eVar 1) (aNil)))) [2]) (aNil))))
def Fn_Strip_repeated : Fn := fnF 3 F_Strip_repeated
theorem ok_Strip_repeated {P : Program} {w : World} {K : PySem.W.Frag} {mg : Str → Option Value} {base : Heap} {S : Sg} (T : Txt K mg S) (g_Strip_period : GM P w K mg base S 0 "period" ["self"] 5 Fn_Strip_period) (g_Strip_init : GK P w K mg base S "Strip" 1 2 Fn_Strip_init) (g_Strip_shown : GM P w K mg base S 0 "shown" ["self", "y", "many"] 3 Fn_Strip_shown) {f : Addr} {fd : FuncData} (Fu : Fun K "repeated" "Strip.repeated" s_Strip_repeated f fd) (hm : Meth K (S.CA 0) "repeated" f) (b : Binds K fd ["self", "many"] []) : GM P w K mg base S 0 "repeated" ["self", "many"] 6 Fn_Strip_repeated :=
  gm_mk T.cl_0 hm (T.nf_0 "repeated" (by decide +kernel)) Fu b sc_Strip_repeated fun cdv A outer s H E hr => by
    have cx := ctx_of (P := P) (w := w) (K := K) (mg := mg) (base := base) (qual := "Strip.repeated") (scope := defScope s_Strip_repeated) (f := f) (cd := cdv) (A := A) (outer := outer) (s := s) (H := H) (E := E) sc_Strip_repeated.nd
    exact dss_cons (ds_if (dt_w (dw_or (dt_cmp (op_neD hr.units) hd_ne (de_op op_mod hd_mod (de_var 1) (de_meth0 (de_var 0) g_Strip_period (hr.mono (by decide)) cx.ps)) (de_int)) (dw_or1 (dt_not (dt_chain op_lt hd_cmp op_le hd_cmp (de_int) (de_var 1) (de_glob T.c_MOST_WIDE)))))) (dss_one (ds_raise cx.calm cx.tk T.x_StripError)) (dss_nil))
      (dss_one (ds_ret (de_make g_Strip_init (hr.mono (by decide)) cx.ps (da_cons (de_lc (own := [("y", 2)]) cx.calm cx.nd (di_range1 T.range (da_cons (de_callB call_len hd_len T.len (by decide +kernel) (da_cons (de_fld T.f_0_0 (de_var 0)) (da_nil))) (da_nil))) (blkOk_by (N := N_Strip_repeated) (sc := defScope s_Strip_repeated) (by decide +kernel)) (by decide) (fun _ _ _ _ _ => dg_name 2 cx.nd) (fun _ _ _ _ _ => dts_nil) (fun _ _ _ _ _ => de_meth (de_var 0) g_Strip_shown (hr.mono (by decide)) passB (da_cons (de_var 2) (da_cons (de_var 1) (da_nil))))) (da_nil)))))
/-! ### Strip.same -/
abbrev s_Strip_same : Stmt := inClass (top 9) 13
abbrev N_Strip_same : List Str := ["self", "other", "image", "many"]
theorem sc_Strip_same : FnScope N_Strip_same ["self", "other"] (defScope s_Strip_same) := ⟨rfl, rfl, rfl, by decide +kernel, rfl, by decide +kernel, by decide +kernel⟩
def F_Strip_same : SF := sSeq (sIf (bOr (bOf (eOp dNe (eCall dLen (aCons (eFld 0 0 (eVar 0)) (aNil))) (eCall dLen (aCons (eFld 0 0 (eVar 1)) (aNil))))) (bOf (eOp dNe (eMeth 0 1 Fn_Strip_period (eVar 0) aNil) (eMeth 0 1 Fn_Strip_period (eVar 1) aNil)))) (sRet (eC (.bl false))) (sNil))
      (sSeq (sFor (iSeq (eTup (aCons (eVar 1) (aCons (eMeth 0 1 Fn_Strip_turned (eVar 1) aNil) (aCons (eMeth 0 1 Fn_Strip_left_right (eVar 1) aNil) (aCons (eMeth 0 1 Fn_Strip_up_down (eVar 1) aNil) (aNil))))))) (tName 2) (sFor (iRng1 (aCons (eMeth 0 1 Fn_Strip_period (eVar 0) aNil) (aNil))) (tName 3) (sIf (bOf (eOp dEq (eFld 0 0 (eMeth 0 2 Fn_Strip_moved (eMeth 0 2 Fn_Strip_repeated (eVar 2) (aCons (eMeth 0 1 Fn_Strip_wide (eVar 0) aNil) (aNil))) (aCons (eVar 3) (aNil)))) (eFld 0 0 (eVar 0)))) (sRet (eC (.bl true))) (sNil))))
      (sRet (eC (.bl false))))
def Fn_Strip_same : Fn := fnF 4 F_Strip_same
theorem ok_Strip_same {P : Program} {w : World} {K : PySem.W.Frag} {mg : Str → Option Value} {base : Heap} {S : Sg} (T : Txt K mg S) (g_Strip_period : GM P w K mg base S 0 "period" ["self"] 5 Fn_Strip_period) (g_Strip_up_down : GM P w K mg base S 0 "up_down" ["self"] 4 Fn_Strip_up_down) (g_Strip_left_right : GM P w K mg base S 0 "left_right" ["self"] 4 Fn_Strip_left_right) (g_Strip_turned : GM P w K mg base S 0 "turned" ["self"] 4 Fn_Strip_turned) (g_Strip_moved : GM P w K mg base S 0 "moved" ["self", "many"] 4 Fn_Strip_moved) (g_Strip_repeated : GM P w K mg base S 0 "repeated" ["self", "many"] 6 Fn_Strip_repeated) (g_Strip_wide : GM P w K mg base S 0 "wide" ["self"] 1 Fn_Strip_wide) {f : Addr} {fd : FuncData} (Fu : Fun K "same" "Strip.same" s_Strip_same f fd) (hm : Meth K (S.CA 0) "same" f) (b : Binds K fd ["self", "other"] []) : GM P w K mg base S 0 "same" ["self", "other"] 7 Fn_Strip_same :=
  gm_mk T.cl_0 hm (T.nf_0 "same" (by decide +kernel)) Fu b sc_Strip_same fun cdv A outer s H E hr => by
    have cx := ctx_of (P := P) (w := w) (K := K) (mg := mg) (base := base) (qual := "Strip.same") (scope := defScope s_Strip_same) (f := f) (cd := cdv) (A := A) (outer := outer) (s := s) (H := H) (E := E) sc_Strip_same.nd
    exact dss_cons (ds_if (dt_w (dw_or (dt_cmp (op_neD hr.units) hd_ne (de_callB call_len hd_len T.len (by decide +kernel) (da_cons (de_fld T.f_0_0 (de_var 0)) (da_nil))) (de_callB call_len hd_len T.len (by decide +kernel) (da_cons (de_fld T.f_0_0 (de_var 1)) (da_nil)))) (dw_or1 (dt_cmp (op_neD hr.units) hd_ne (de_meth0 (de_var 0) g_Strip_period (hr.mono (by decide)) cx.ps) (de_meth0 (de_var 1) g_Strip_period (hr.mono (by decide)) cx.ps))))) (dss_one (ds_ret (de_bl))) (dss_nil))
      (dss_cons (ds_for cx.po cx.calm (di_seq (de_tup (da_cons (de_var 1) (da_cons (de_meth0 (de_var 1) g_Strip_turned (hr.mono (by decide)) cx.ps) (da_cons (de_meth0 (de_var 1) g_Strip_left_right (hr.mono (by decide)) cx.ps) (da_cons (de_meth0 (de_var 1) g_Strip_up_down (hr.mono (by decide)) cx.ps) (da_nil))))))) (dg_name 2 cx.nd) (dss_one (ds_for cx.po cx.calm (di_range1 T.range (da_cons (de_meth0 (de_var 0) g_Strip_period (hr.mono (by decide)) cx.ps) (da_nil))) (dg_name 3 cx.nd) (dss_one (ds_if (dt_cmp (op_eqD hr.units) hd_eq (de_fld T.f_0_0 (de_meth (de_meth (de_var 2) g_Strip_repeated (hr.mono (by decide)) cx.ps (da_cons (de_meth0 (de_var 0) g_Strip_wide (hr.mono (by decide)) cx.ps) (da_nil))) g_Strip_moved (hr.mono (by decide)) cx.ps (da_cons (de_var 3) (da_nil)))) (de_fld T.f_0_0 (de_var 0))) (dss_one (ds_ret (de_bl))) (dss_nil))))))
      (dss_one (ds_ret (de_bl))))
/-! ### beside -/
abbrev s_beside : Stmt := top 13
abbrev N_beside : List Str := ["strips", "y", "strip"]
theorem sc_beside : FnScope N_beside ["strips"] (defScope s_beside) := ⟨rfl, rfl, rfl, by decide +kernel, rfl, by decide +kernel, by decide +kernel⟩
def F_beside : SF := sSeq (sIf (bOr (bOf (eOp dEq (eCall dLen (aCons (eVar 0) (aNil))) (eC (.int 0)))) (bOf (eAny (iSeq (eVar 0)) (tName 2) (eOp dNe (eCall dLen (aCons (eFld 0 0 (eVar 2)) (aNil))) (eCall dLen (aCons (eFld 0 0 (eIx (eVar 0) (eC (.int 0)))) (aNil)))) [2]))) (sRaise 2) (sNil))
      (sRet (eFun 1 Fn_Strip_init (aCons (eLc (iRng1 (aCons (eCall dLen (aCons (eFld 0 0 (eIx (eVar 0) (eC (.int 0)))) (aNil))) (aNil))) (tName 1) (bYes) (eJoin (eC (.str "")) (eLc (iSeq (eVar 0)) (tName 2) (bYes) (eIx (eFld 0 0 (eVar 2)) (eVar 1)) [2])) [1]) (aNil))))
def Fn_beside : Fn := fnF 3 F_beside
theorem ok_beside {P : Program} {w : World} {K : PySem.W.Frag} {mg : Str → Option Value} {base : Heap} {S : Sg} (T : Txt K mg S) {c Pt : Addr} (TB : TbG base mg S c Pt) (g_Strip_init : GK P w K mg base S "Strip" 1 2 Fn_Strip_init) {f : Addr} {fd : FuncData} (Fu : FunT K "beside" "beside" s_beside f fd c) (hm : mg "beside" = some (.ref f)) (b : Binds K fd ["strips"] []) : GF P w K mg base S "beside" ["strips"] 4 Fn_beside :=
  gf_mkT hm Fu b sc_beside fun A outer s H E hr => by
    have cx := ctx_of (P := P) (w := w) (K := K) (mg := mg) (base := base) (qual := "beside") (scope := defScope s_beside) (f := f) (cd := (.ref c)) (A := A) (outer := outer) (s := s) (H := H) (E := E) sc_beside.nd
    exact dss_cons (ds_if (dt_w (dw_or (dt_cmp (op_eqD hr.units) hd_eq (de_callB call_len hd_len T.len (by decide +kernel) (da_cons (de_var 0) (da_nil))) (de_int)) (dw_or1 (dt_val (de_any (own := [("strip", 2)]) (k := 0) TB (hr.mono (by decide)) T.any cx.nd (di_seq (de_var 0)) (blkOk_by (N := N_beside) (sc := defScope s_beside) (by decide +kernel)) (by decide) (fun _ _ _ _ _ _ => dg_name 2 cx.nd) (fun _ _ _ _ _ _ hr => de_cmp (op_neD hr.units) hd_ne (de_callB call_len hd_len T.len (by decide +kernel) (da_cons (de_fld T.f_0_0 (de_var 2)) (da_nil))) (de_callB call_len hd_len T.len (by decide +kernel) (da_cons (de_fld T.f_0_0 (de_ix (de_var 0) (de_int))) (da_nil))))))))) (dss_one (ds_raise cx.calm cx.tk T.x_MakingError)) (dss_nil))
      (dss_one (ds_ret (de_make g_Strip_init (hr.mono (by decide)) cx.ps (da_cons (de_lc (own := [("y", 1)]) cx.calm cx.nd (di_range1 T.range (da_cons (de_callB call_len hd_len T.len (by decide +kernel) (da_cons (de_fld T.f_0_0 (de_ix (de_var 0) (de_int))) (da_nil))) (da_nil))) (blkOk_by (N := N_beside) (sc := defScope s_beside) (by decide +kernel)) (by decide) (fun _ _ _ _ _ => dg_name 1 cx.nd) (fun _ _ _ _ _ => dts_nil) (fun _ _ _ _ _ => de_join (de_str) (de_lc (own := [("strip", 2)]) cx.calm cx.nd (di_seq (de_var 0)) (blkOk_by (N := N_beside) (sc := relS _ (defScope s_beside)) (by decide +kernel)) (by decide) (fun _ _ _ _ _ => dg_name 2 cx.nd) (fun _ _ _ _ _ => dts_nil) (fun _ _ _ _ _ => de_ix (de_fld T.f_0_0 (de_var 2)) (de_var 1))))) (da_nil)))))
/-! ### made -/
abbrev s_made : Stmt := top 12
abbrev N_made : List Str := ["piece", "kind", "strip", "half"]
theorem sc_made : FnScope N_made ["piece", "kind"] (defScope s_made) := ⟨rfl, rfl, rfl, by decide +kernel, rfl, by decide +kernel, by decide +kernel⟩
def F_made : SF := sSeq (sIf (bOf (eOp dNotIn (eVar 1) (eC G_KINDS_OF_STRIPS))) (sRaise 2) (sNil))
      (sSeq (sSet 2 (eFun 1 Fn_Strip_init (aCons (eVar 0) (aNil))))
      (sSeq (sIf (bOf (eOp dEq (eVar 1) (eC (.str "step")))) (sRet (eFun 1 Fn_beside (aCons (eLst (aCons (eVar 2) (aCons (eMeth 0 1 Fn_Strip_up_down (eVar 2) aNil) (aNil)))) (aNil)))) (sNil))
      (sSeq (sIf (bOf (eOp dEq (eVar 1) (eC (.str "sidle")))) (sRet (eFun 1 Fn_beside (aCons (eLst (aCons (eVar 2) (aCons (eMeth 0 1 Fn_Strip_left_right (eVar 2) aNil) (aNil)))) (aNil)))) (sNil))
      (sSeq (sIf (bOf (eOp dEq (eVar 1) (eC (.str "spinning hop")))) (sRet (eFun 1 Fn_beside (aCons (eLst (aCons (eVar 2) (aCons (eMeth 0 1 Fn_Strip_turned (eVar 2) aNil) (aNil)))) (aNil)))) (sNil))
      (sSeq (sIf (bOf (eOp dEq (eVar 1) (eC (.str "spinning sidle")))) (sRet (eFun 1 Fn_beside (aCons (eLst (aCons (eVar 2) (aCons (eMeth 0 1 Fn_Strip_left_right (eVar 2) aNil) (aCons (eMeth 0 1 Fn_Strip_up_down (eVar 2) aNil) (aCons (eMeth 0 1 Fn_Strip_turned (eVar 2) aNil) (aNil)))))) (aNil)))) (sNil))
      (sSeq (sIf (bOf (eOp dEq (eVar 1) (eC (.str "jump")))) (sRet (eFun 1 Fn_Strip_init (aCons (eOp dAdd (eFld 0 0 (eVar 2)) (eFld 0 0 (eMeth 0 1 Fn_Strip_up_down (eVar 2) aNil))) (aNil)))) (sNil))
      (sSeq (sIf (bOf (eOp dEq (eVar 1) (eC (.str "spinning jump")))) (sSeq (sSet 3 (eFun 1 Fn_beside (aCons (eLst (aCons (eVar 2) (aCons (eMeth 0 1 Fn_Strip_left_right (eVar 2) aNil) (aNil)))) (aNil))))
      (sRet (eFun 1 Fn_Strip_init (aCons (eOp dAdd (eFld 0 0 (eVar 3)) (eFld 0 0 (eMeth 0 1 Fn_Strip_up_down (eVar 3) aNil))) (aNil))))) (sNil))
      (sRet (eVar 2)))))))))
def Fn_made : Fn := fnF 4 F_made
theorem ok_made {P : Program} {w : World} {K : PySem.W.Frag} {mg : Str → Option Value} {base : Heap} {S : Sg} (T : Txt K mg S) (g_Strip_init : GK P w K mg base S "Strip" 1 2 Fn_Strip_init) (g_beside : GF P w K mg base S "beside" ["strips"] 4 Fn_beside) (g_Strip_up_down : GM P w K mg base S 0 "up_down" ["self"] 4 Fn_Strip_up_down) (g_Strip_left_right : GM P w K mg base S 0 "left_right" ["self"] 4 Fn_Strip_left_right) (g_Strip_turned : GM P w K mg base S 0 "turned" ["self"] 4 Fn_Strip_turned) {f : Addr} {fd : FuncData} (Fu : Fun K "made" "made" s_made f fd) (hm : mg "made" = some (.ref f)) (b : Binds K fd ["piece", "kind"] []) : GF P w K mg base S "made" ["piece", "kind"] 5 Fn_made :=
  gf_mk hm Fu b sc_made fun cdv A outer s H E hr => by
    have cx := ctx_of (P := P) (w := w) (K := K) (mg := mg) (base := base) (qual := "made") (scope := defScope s_made) (f := f) (cd := cdv) (A := A) (outer := outer) (s := s) (H := H) (E := E) sc_made.nd
    exact dss_cons (ds_if (dt_cmp op_notInD2 hd_notIn (de_var 1) (de_glob T.c_KINDS_OF_STRIPS)) (dss_one (ds_raise cx.calm cx.tk T.x_MakingError)) (dss_nil))
      (dss_cons (ds_set 2 cx.nd (de_make g_Strip_init (hr.mono (by decide)) cx.ps (da_cons (de_var 0) (da_nil))))
      (dss_cons (ds_if (dt_cmp (op_eqD hr.units) hd_eq (de_var 1) (de_str)) (dss_one (ds_ret (de_call g_beside (hr.mono (by decide)) cx.ps (da_cons (de_lst (da_cons (de_var 2) (da_cons (de_meth0 (de_var 2) g_Strip_up_down (hr.mono (by decide)) cx.ps) (da_nil)))) (da_nil))))) (dss_nil))
      (dss_cons (ds_if (dt_cmp (op_eqD hr.units) hd_eq (de_var 1) (de_str)) (dss_one (ds_ret (de_call g_beside (hr.mono (by decide)) cx.ps (da_cons (de_lst (da_cons (de_var 2) (da_cons (de_meth0 (de_var 2) g_Strip_left_right (hr.mono (by decide)) cx.ps) (da_nil)))) (da_nil))))) (dss_nil))
      (dss_cons (ds_if (dt_cmp (op_eqD hr.units) hd_eq (de_var 1) (de_str)) (dss_one (ds_ret (de_call g_beside (hr.mono (by decide)) cx.ps (da_cons (de_lst (da_cons (de_var 2) (da_cons (de_meth0 (de_var 2) g_Strip_turned (hr.mono (by decide)) cx.ps) (da_nil)))) (da_nil))))) (dss_nil))
      (dss_cons (ds_if (dt_cmp (op_eqD hr.units) hd_eq (de_var 1) (de_str)) (dss_one (ds_ret (de_call g_beside (hr.mono (by decide)) cx.ps (da_cons (de_lst (da_cons (de_var 2) (da_cons (de_meth0 (de_var 2) g_Strip_left_right (hr.mono (by decide)) cx.ps) (da_cons (de_meth0 (de_var 2) g_Strip_up_down (hr.mono (by decide)) cx.ps) (da_cons (de_meth0 (de_var 2) g_Strip_turned (hr.mono (by decide)) cx.ps) (da_nil)))))) (da_nil))))) (dss_nil))
      (dss_cons (ds_if (dt_cmp (op_eqD hr.units) hd_eq (de_var 1) (de_str)) (dss_one (ds_ret (de_make g_Strip_init (hr.mono (by decide)) cx.ps (da_cons (de_op op_addD hd_add (de_fld T.f_0_0 (de_var 2)) (de_fld T.f_0_0 (de_meth0 (de_var 2) g_Strip_up_down (hr.mono (by decide)) cx.ps))) (da_nil))))) (dss_nil))
      (dss_cons (ds_if (dt_cmp (op_eqD hr.units) hd_eq (de_var 1) (de_str)) (dss_cons (ds_set 3 cx.nd (de_call g_beside (hr.mono (by decide)) cx.ps (da_cons (de_lst (da_cons (de_var 2) (da_cons (de_meth0 (de_var 2) g_Strip_left_right (hr.mono (by decide)) cx.ps) (da_nil)))) (da_nil))))
      (dss_one (ds_ret (de_make g_Strip_init (hr.mono (by decide)) cx.ps (da_cons (de_op op_addD hd_add (de_fld T.f_0_0 (de_var 3)) (de_fld T.f_0_0 (de_meth0 (de_var 3) g_Strip_up_down (hr.mono (by decide)) cx.ps))) (da_nil)))))) (dss_nil))
      (dss_one (ds_ret (de_var 2))))))))))
/-! ### has_at_least -/
abbrev s_has_at_least : Stmt := top 18
abbrev N_has_at_least : List Str := ["strip", "kind", "upright", "spin", "level", "slides", "wants"]
theorem sc_has_at_least : FnScope N_has_at_least ["strip", "kind"] (defScope s_has_at_least) := ⟨rfl, rfl, rfl, by decide +kernel, rfl, by decide +kernel, by decide +kernel⟩
def F_has_at_least : SF := sSeq (sIf (bOf (eOp dNotIn (eVar 1) (eC G_KINDS_OF_STRIPS))) (sRaise 2) (sNil))
      (sSeq (sPar 2 3 (aCons (eOp dNe (eMeth 0 1 Fn_Strip_mirrors (eVar 0) aNil) (eTup (aNil))) (aCons (eOp dNe (eMeth 0 1 Fn_Strip_turns (eVar 0) aNil) (eTup (aNil))) (aNil))))
      (sSeq (sPar 4 5 (aCons (eMeth 0 1 Fn_Strip_has_level (eVar 0) aNil) (aCons (eOp dIsNot (eMeth 0 1 Fn_Strip_slide (eVar 0) aNil) (eC .non)) (aNil))))
      (sSeq (sSet 6 (eDisp (kCons (eC (.str "hop")) (eC (.bl true)) (kCons (eC (.str "step")) (eVar 5) (kCons (eC (.str "sidle")) (eVar 2) (kCons (eC (.str "spinning hop")) (eVar 3) (kCons (eC (.str "jump")) (eVar 4) (kCons (eC (.str "spinning sidle")) (eAnd (eVar 2) (eAnd (eVar 3) (eVar 5))) (kCons (eC (.str "spinning jump")) (eAnd (eVar 4) (eVar 2)) (kNil))))))))))
      (sRet (eOp dGetD (eVar 6) (eVar 1))))))
def Fn_has_at_least : Fn := fnF 7 F_has_at_least
theorem ok_has_at_least {P : Program} {w : World} {K : PySem.W.Frag} {mg : Str → Option Value} {base : Heap} {S : Sg} (T : Txt K mg S) (g_Strip_turns : GM P w K mg base S 0 "turns" ["self"] 6 Fn_Strip_turns) (g_Strip_mirrors : GM P w K mg base S 0 "mirrors" ["self"] 6 Fn_Strip_mirrors) (g_Strip_slide : GM P w K mg base S 0 "slide" ["self"] 5 Fn_Strip_slide) (g_Strip_has_level : GM P w K mg base S 0 "has_level" ["self"] 5 Fn_Strip_has_level) {f : Addr} {fd : FuncData} (Fu : Fun K "has_at_least" "has_at_least" s_has_at_least f fd) (hm : mg "has_at_least" = some (.ref f)) (b : Binds K fd ["strip", "kind"] []) : GF P w K mg base S "has_at_least" ["strip", "kind"] 7 Fn_has_at_least :=
  gf_mk hm Fu b sc_has_at_least fun cdv A outer s H E hr => by
    have cx := ctx_of (P := P) (w := w) (K := K) (mg := mg) (base := base) (qual := "has_at_least") (scope := defScope s_has_at_least) (f := f) (cd := cdv) (A := A) (outer := outer) (s := s) (H := H) (E := E) sc_has_at_least.nd
    exact dss_cons (ds_if (dt_cmp op_notInD2 hd_notIn (de_var 1) (de_glob T.c_KINDS_OF_STRIPS)) (dss_one (ds_raise cx.calm cx.tk T.x_MakingError)) (dss_nil))
      (dss_cons (ds_par 2 3 cx.calm cx.nd (da_cons (de_cmp (op_neD hr.units) hd_ne (de_meth0 (de_var 0) g_Strip_mirrors (hr.mono (by decide)) cx.ps) (de_tup (da_nil))) (da_cons (de_cmp (op_neD hr.units) hd_ne (de_meth0 (de_var 0) g_Strip_turns (hr.mono (by decide)) cx.ps) (de_tup (da_nil))) (da_nil))))
      (dss_cons (ds_par 4 5 cx.calm cx.nd (da_cons (de_meth0 (de_var 0) g_Strip_has_level (hr.mono (by decide)) cx.ps) (da_cons (de_cmp op_notN hd_isNot (de_meth0 (de_var 0) g_Strip_slide (hr.mono (by decide)) cx.ps) (de_non)) (da_nil))))
      (dss_cons (ds_set 6 cx.nd (de_disp (dps_cons (de_str) (de_bl) (dps_cons (de_str) (de_var 5) (dps_cons (de_str) (de_var 2) (dps_cons (de_str) (de_var 3) (dps_cons (de_str) (de_var 4) (dps_cons (de_str) (de_and (de_var 2) (de_and (de_var 3) (de_one (de_var 5)))) (dps_cons (de_str) (de_and (de_var 4) (de_one (de_var 2))) (dps_nil))))))))))
      (dss_one (ds_ret (de_dget hr.units (de_var 6) (de_var 1)))))))
/-! ### all_strips -/
abbrev s_all_strips : Stmt := top 14
abbrev N_all_strips : List Str := ["wide", "high", "signs", "many", "place", "rows", "row", "sign", "start"]
theorem sc_all_strips : FnScope N_all_strips ["wide", "high", "signs"] (defScope s_all_strips) := ⟨rfl, rfl, rfl, by decide +kernel, rfl, by decide +kernel, by decide +kernel⟩
def F_all_strips : SF := sSeq (sIf (bOr (bNot (bOf (eChain dLe dLe (eC (.int 1)) (eVar 0) (eC (.int 24))))) (bOr (bNot (bOf (eChain dLe dLe (eC (.int 1)) (eVar 1) (eC (.int 8))))) (bOf (eOp dLt (eCall dLen (aCons (eVar 2) (aNil))) (eC (.int 1)))))) (sRaise 3) (sNil))
      (sSeq (sSet 3 (eC (.int 1)))
      (sSeq (sFor (iRng1 (aCons (eOp dMul (eVar 0) (eVar 1)) (aNil))) (tName 4) (sSeq (sAug 3 dMulI (eCall dLen (aCons (eVar 2) (aNil))))
      (sIf (bOf (eOp dGt (eVar 3) (eC G_MOST_COUNTED))) (sRaise 3) (sNil))))
      (sSeq (sSet 5 (eLst (aCons (eC (.str "")) (aNil))))
      (sSeq (sFor (iRng1 (aCons (eOp dMul (eVar 0) (eVar 1)) (aNil))) (tName 4) (sSet 5 (eLc2 (iSeq (eVar 5)) (tName 6) (iSeq (eVar 2)) (tName 7) (eOp dAdd (eVar 6) (eVar 7)) [6, 7] [7])))
      (sRet (eTupG (iSeq (eVar 5)) (tName 6) (eFun 1 Fn_Strip_init (aCons (eLc (iRng3E (aCons (eC (.int 0)) (aCons (eOp dMul (eVar 0) (eVar 1)) (aCons (eVar 0) (aNil))))) (tName 8) (bYes) (eSl (eVar 6) (oSome (eVar 8)) (oSome (eOp dAdd (eVar 8) (eVar 0)))) [8]) (aNil))) [6]))))))
def Fn_all_strips : Fn := fnF 9 F_all_strips
theorem ok_all_strips {P : Program} {w : World} {K : PySem.W.Frag} {mg : Str → Option Value} {base : Heap} {S : Sg} (T : Txt K mg S) {c Pt : Addr} (TB : TbG base mg S c Pt) (g_Strip_init : GK P w K mg base S "Strip" 1 2 Fn_Strip_init) {f : Addr} {fd : FuncData} (Fu : FunT K "all_strips" "all_strips" s_all_strips f fd c) (hm : mg "all_strips" = some (.ref f)) (b : Binds K fd ["wide", "high", "signs"] []) : GF P w K mg base S "all_strips" ["wide", "high", "signs"] 5 Fn_all_strips :=
  gf_mkT hm Fu b sc_all_strips fun A outer s H E hr => by
    have cx := ctx_of (P := P) (w := w) (K := K) (mg := mg) (base := base) (qual := "all_strips") (scope := defScope s_all_strips) (f := f) (cd := (.ref c)) (A := A) (outer := outer) (s := s) (H := H) (E := E) sc_all_strips.nd
    exact dss_cons (ds_if (dt_w (dw_or (dt_not (dt_chain op_le hd_cmp op_le hd_cmp (de_int) (de_var 0) (de_int))) (dw_or (dt_not (dt_chain op_le hd_cmp op_le hd_cmp (de_int) (de_var 1) (de_int))) (dw_or1 (dt_cmp op_lt hd_cmp (de_callB call_len hd_len T.len (by decide +kernel) (da_cons (de_var 2) (da_nil))) (de_int)))))) (dss_one (ds_raise cx.calm cx.tk T.x_CountError)) (dss_nil))
      (dss_cons (ds_set 3 cx.nd (de_int))
      (dss_cons (ds_for cx.po cx.calm (di_range1 T.range (da_cons (de_op op_mulD hd_mul (de_var 0) (de_var 1)) (da_nil))) (dg_name 4 cx.nd) (dss_cons (ds_aug 3 cx.nd (de_callB call_len hd_len T.len (by decide +kernel) (da_cons (de_var 2) (da_nil))) iop_mul hd_mulI)
      (dss_one (ds_if (dt_cmp op_gt hd_cmp (de_var 3) (de_glob T.c_MOST_COUNTED)) (dss_one (ds_raise cx.calm cx.tk T.x_CountError)) (dss_nil)))))
      (dss_cons (ds_set 5 cx.nd (de_lst (da_cons (de_str) (da_nil))))
      (dss_cons (ds_for cx.po cx.calm (di_range1 T.range (da_cons (de_op op_mulD hd_mul (de_var 0) (de_var 1)) (da_nil))) (dg_name 4 cx.nd) (dss_one (ds_setLc2 5 (own := [("row", 6), ("sign", 7)]) (vs1 := [7]) cx.calm cx.nd (sw_true rfl rfl rfl (by decide +kernel)) (di_seq (de_var 5)) (blkOk_by (N := N_all_strips) (sc := defScope s_all_strips) (by decide +kernel)) (by decide) (by decide) (by decide) (fun _ _ _ _ _ => dg_name 6 cx.nd) (fun _ _ _ _ _ => di_seq (de_var 2)) (fun _ _ _ _ _ => dg_name 7 cx.nd) (fun _ _ _ _ _ => de_op op_addD hd_add (de_var 6) (de_var 7)))))
      (dss_one (ds_ret (de_tupG (own := [("row", 6)]) (k := 3) TB (hr.mono (by decide)) T.tuple (by decide +kernel) cx.nd (di_seq (de_var 5)) (blkOk_by (N := N_all_strips) (sc := defScope s_all_strips) (by decide +kernel)) (by decide) (fun _ _ _ _ _ _ => dg_name 6 cx.nd) (fun _ _ _ _ _ _ hr => de_make g_Strip_init (hr.mono (by decide)) passB (da_cons (de_lc (own := [("start", 8)]) cx.calm cx.nd (di_range3 T.range (da_cons (de_int) (da_cons (de_op op_mulD hd_mul (de_var 0) (de_var 1)) (da_cons (de_var 0) (da_nil))))) (blkOk_by (N := N_all_strips) (sc := genS (acCall_args 0 (acReturn_value (acFunctionDef_body 5 s_all_strips)))) (by decide +kernel)) (by decide) (fun _ _ _ _ _ => dg_name 8 cx.nd) (fun _ _ _ _ _ => dts_nil) (fun _ _ _ _ _ => de_sl (de_var 6) (do_some (de_var 8)) (do_some (de_op op_addD hd_add (de_var 8) (de_var 0))))) (da_nil))))))))))
/-! ### counted -/
abbrev s_counted : Stmt := top 15
abbrev N_counted : List Str := ["wide", "high", "signs", "found", "strip", "kind"]
theorem sc_counted : FnScope N_counted ["wide", "high", "signs"] (defScope s_counted) := ⟨rfl, rfl, rfl, by decide +kernel, rfl, by decide +kernel, by decide +kernel⟩
def F_counted : SF := sSeq (sOwnDc 3 (iSeq (eC G_KINDS_OF_STRIPS)) (tName 5) (eVar 5) (eC (.int 0)) [5])
      (sSeq (sFor (iSeq (eFun 3 Fn_all_strips (aCons (eVar 0) (aCons (eVar 1) (aCons (eVar 2) (aNil)))))) (tName 4) (sAugO 3 (eMeth 0 1 Fn_Strip_kind (eVar 4) aNil) (eC (.int 1))))
      (sRetO 3))
def Fn_counted : Fn := fnF 6 F_counted
theorem ok_counted {P : Program} {w : World} {K : PySem.W.Frag} {mg : Str → Option Value} {base : Heap} {S : Sg} (T : Txt K mg S) (g_all_strips : GF P w K mg base S "all_strips" ["wide", "high", "signs"] 5 Fn_all_strips) (g_Strip_kind : GM P w K mg base S 0 "kind" ["self"] 7 Fn_Strip_kind) {f : Addr} {fd : FuncData} (Fu : Fun K "counted" "counted" s_counted f fd) (hm : mg "counted" = some (.ref f)) (b : Binds K fd ["wide", "high", "signs"] []) : GF P w K mg base S "counted" ["wide", "high", "signs"] 8 Fn_counted :=
  gf_mk hm Fu b sc_counted fun cdv A outer s H E hr => by
    have cx := ctx_of (P := P) (w := w) (K := K) (mg := mg) (base := base) (qual := "counted") (scope := defScope s_counted) (f := f) (cd := cdv) (A := A) (outer := outer) (s := s) (H := H) (E := E) sc_counted.nd
    exact dss_cons (ds_ownDc 3 (own := [("kind", 5)]) cx.calm cx.nd (sw_trueD rfl rfl rfl (by decide +kernel)) (di_seq (de_glob T.c_KINDS_OF_STRIPS)) (blkOk_by (N := N_counted) (sc := defScope s_counted) (by decide +kernel)) (by decide) (fun _ _ _ _ _ => dg_name 5 cx.nd) (fun _ _ _ _ _ => de_var 5) (fun _ _ _ _ _ => de_int))
      (dss_cons (ds_for cx.po cx.calm (di_seq (de_call g_all_strips (hr.mono (by decide)) cx.ps (da_cons (de_var 0) (da_cons (de_var 1) (da_cons (de_var 2) (da_nil)))))) (dg_name 4 cx.nd) (dss_one (ds_augO 3 hr.units (de_meth0 (de_var 4) g_Strip_kind (hr.mono (by decide)) cx.ps) (de_int))))
      (dss_one (ds_retO 3)))
/-! ### unlike_ones -/
abbrev s_unlike_ones : Stmt := top 16
abbrev N_unlike_ones : List Str := ["wide", "high", "signs", "found", "strip", "other"]
theorem sc_unlike_ones : FnScope N_unlike_ones ["wide", "high", "signs"] (defScope s_unlike_ones) := ⟨rfl, rfl, rfl, by decide +kernel, rfl, by decide +kernel, by decide +kernel⟩
def F_unlike_ones : SF := sSeq (sOwnL 3)
      (sSeq (sFor (iSeq (eFun 3 Fn_all_strips (aCons (eVar 0) (aCons (eVar 1) (aCons (eVar 2) (aNil)))))) (tName 4) (sIf (bNot (bOf (eAnyO 3 (tName 5) (eMeth 0 2 Fn_Strip_same (eVar 4) (aCons (eVar 5) (aNil))) [5]))) (sAppend 3 (eVar 4)) (sNil)))
      (sRet (eTupO 3)))
def Fn_unlike_ones : Fn := fnF 6 F_unlike_ones
theorem ok_unlike_ones {P : Program} {w : World} {K : PySem.W.Frag} {mg : Str → Option Value} {base : Heap} {S : Sg} (T : Txt K mg S) {c Pt : Addr} (TB : TbG base mg S c Pt) (g_all_strips : GF P w K mg base S "all_strips" ["wide", "high", "signs"] 5 Fn_all_strips) (g_Strip_same : GM P w K mg base S 0 "same" ["self", "other"] 7 Fn_Strip_same) {f : Addr} {fd : FuncData} (Fu : FunT K "unlike_ones" "unlike_ones" s_unlike_ones f fd c) (hm : mg "unlike_ones" = some (.ref f)) (b : Binds K fd ["wide", "high", "signs"] []) : GF P w K mg base S "unlike_ones" ["wide", "high", "signs"] 9 Fn_unlike_ones :=
  gf_mkT hm Fu b sc_unlike_ones fun A outer s H E hr => by
    have cx := ctx_of (P := P) (w := w) (K := K) (mg := mg) (base := base) (qual := "unlike_ones") (scope := defScope s_unlike_ones) (f := f) (cd := (.ref c)) (A := A) (outer := outer) (s := s) (H := H) (E := E) sc_unlike_ones.nd
    exact dss_cons (ds_ownL 3 cx.nd)
      (dss_cons (ds_for cx.po cx.calm (di_seq (de_call g_all_strips (hr.mono (by decide)) cx.ps (da_cons (de_var 0) (da_cons (de_var 1) (da_cons (de_var 2) (da_nil)))))) (dg_name 4 cx.nd) (dss_one (ds_if (dt_not (dt_val (de_anyO 3 (own := [("other", 5)]) (k := 7) TB (hr.mono (by decide)) T.any cx.nd (blkOk_by (N := N_unlike_ones) (sc := defScope s_unlike_ones) (by decide +kernel)) (by decide) (fun _ _ _ _ _ _ => dg_name 5 cx.nd) (fun _ _ _ _ _ _ hr => de_meth (de_var 4) g_Strip_same (hr.mono (by decide)) passB (da_cons (de_var 5) (da_nil)))))) (dss_one (ds_append 3 (de_var 4))) (dss_nil))))
      (dss_one (ds_ret (de_tupO 3 T.tuple))))
/-! ### nearest -/
abbrev s_nearest : Stmt := top 17
abbrev N_nearest : List Str := ["strip", "kind", "signs", "best", "place", "other", "changes", "mine", "yours", "row", "one", "two"]
theorem sc_nearest : FnScope N_nearest ["strip", "kind", "signs"] (defScope s_nearest) := ⟨rfl, rfl, rfl, by decide +kernel, rfl, by decide +kernel, by decide +kernel⟩
def F_nearest : SF := sSeq (sIf (bOf (eOp dNotIn (eVar 1) (eC G_KINDS_OF_STRIPS))) (sRaise 2) (sNil))
      (sSeq (sSet 3 (eC .non))
      (sSeq (sFor (iEnumE (aCons (eFun 3 Fn_all_strips (aCons (eMeth 0 1 Fn_Strip_wide (eVar 0) aNil) (aCons (eCall dLen (aCons (eFld 0 0 (eVar 0)) (aNil))) (aCons (eVar 2) (aNil))))) (aNil))) (tTup 2 (tsCons (tName 4) (tsCons (tName 5) (tsNil)))) (sIf (bOf (eFun 2 Fn_has_at_least (aCons (eVar 5) (aCons (eVar 1) (aNil))))) (sSeq (sSet 6 (eC (.int 0)))
      (sSeq (sFor (iZipE (aCons (eFld 0 0 (eVar 0)) (aCons (eFld 0 0 (eVar 5)) (aNil)))) (tTup 2 (tsCons (tName 7) (tsCons (tName 8) (tsNil)))) (sAug 6 dAddA (eCall dLen (aCons (eLc (iZipE (aCons (eVar 7) (aCons (eVar 8) (aNil)))) (tTup 2 (tsCons (tName 10) (tsCons (tName 11) (tsNil)))) (bOf (eOp dNe (eVar 10) (eVar 11))) (eC (.int 1)) [10, 11]) (aNil)))))
      (sSeq (sSet 9 (eTup (aCons (eVar 6) (aCons (eVar 4) (aCons (eFld 0 0 (eVar 5)) (aNil))))))
      (sSet 3 (eIf (bOr (bOf (eOp dIs (eVar 3) (eC .non))) (bOf (eOp dLtD (eVar 9) (eVar 3)))) (eVar 9) (eVar 3)))))) (sNil)))
      (sRet (eTup (aCons (eIx (eVar 3) (eC (.int 0))) (aCons (eIx (eVar 3) (eC (.int 2))) (aNil)))))))
def Fn_nearest : Fn := fnF 12 F_nearest
theorem ok_nearest {P : Program} {w : World} {K : PySem.W.Frag} {mg : Str → Option Value} {base : Heap} {S : Sg} (T : Txt K mg S) (g_all_strips : GF P w K mg base S "all_strips" ["wide", "high", "signs"] 5 Fn_all_strips) (g_Strip_wide : GM P w K mg base S 0 "wide" ["self"] 1 Fn_Strip_wide) (g_has_at_least : GF P w K mg base S "has_at_least" ["strip", "kind"] 7 Fn_has_at_least) {f : Addr} {fd : FuncData} (Fu : Fun K "nearest" "nearest" s_nearest f fd) (hm : mg "nearest" = some (.ref f)) (b : Binds K fd ["strip", "kind", "signs"] []) : GF P w K mg base S "nearest" ["strip", "kind", "signs"] 8 Fn_nearest :=
  gf_mk hm Fu b sc_nearest fun cdv A outer s H E hr => by
    have cx := ctx_of (P := P) (w := w) (K := K) (mg := mg) (base := base) (qual := "nearest") (scope := defScope s_nearest) (f := f) (cd := cdv) (A := A) (outer := outer) (s := s) (H := H) (E := E) sc_nearest.nd
    exact dss_cons (ds_if (dt_cmp op_notInD2 hd_notIn (de_var 1) (de_glob T.c_KINDS_OF_STRIPS)) (dss_one (ds_raise cx.calm cx.tk T.x_MakingError)) (dss_nil))
      (dss_cons (ds_set 3 cx.nd (de_non))
      (dss_cons (ds_for cx.po cx.calm (di_enum T.enumerate (da_cons (de_call g_all_strips (hr.mono (by decide)) cx.ps (da_cons (de_meth0 (de_var 0) g_Strip_wide (hr.mono (by decide)) cx.ps) (da_cons (de_callB call_len hd_len T.len (by decide +kernel) (da_cons (de_fld T.f_0_0 (de_var 0)) (da_nil))) (da_cons (de_var 2) (da_nil))))) (da_nil))) (dg_tup cx.calm (dgs_cons (dg_name 4 cx.nd) (dgs_cons (dg_name 5 cx.nd) (dgs_nil)))) (dss_one (ds_if (dt_val (de_call g_has_at_least (hr.mono (by decide)) cx.ps (da_cons (de_var 5) (da_cons (de_var 1) (da_nil))))) (dss_cons (ds_set 6 cx.nd (de_int))
      (dss_cons (ds_for cx.po cx.calm (di_zipB T.zip (da_cons (de_fld T.f_0_0 (de_var 0)) (da_cons (de_fld T.f_0_0 (de_var 5)) (da_nil)))) (dg_tup cx.calm (dgs_cons (dg_name 7 cx.nd) (dgs_cons (dg_name 8 cx.nd) (dgs_nil)))) (dss_one (ds_aug 6 cx.nd (de_callB call_len hd_len T.len (by decide +kernel) (da_cons (de_lc (own := [("one", 10), ("two", 11)]) cx.calm cx.nd (di_zipB T.zip (da_cons (de_var 7) (da_cons (de_var 8) (da_nil)))) (blkOk_by (N := N_nearest) (sc := defScope s_nearest) (by decide +kernel)) (by decide) (fun _ _ _ _ _ => dg_tup cx.calm (dgs_cons (dg_name 10 cx.nd) (dgs_cons (dg_name 11 cx.nd) (dgs_nil)))) (fun _ _ _ _ _ => dts_one (dt_cmp (op_neD hr.units) hd_ne (de_var 10) (de_var 11))) (fun _ _ _ _ _ => de_int)) (da_nil))) iop_addA hd_addA)))
      (dss_cons (ds_set 9 cx.nd (de_tup (da_cons (de_var 6) (da_cons (de_var 4) (da_cons (de_fld T.f_0_0 (de_var 5)) (da_nil))))))
      (dss_one (ds_set 3 cx.nd (de_if (dt_w (dw_or (dt_cmp op_isN hd_is (de_var 3) (de_non)) (dw_or1 (dt_cmp (op_ltD hr.units) hd_ltD (de_var 9) (de_var 3))))) (de_var 9) (de_var 3))))))) (dss_nil))))
      (dss_one (ds_ret (de_tup (da_cons (de_ix (de_var 3) (de_int)) (da_cons (de_ix (de_var 3) (de_int)) (da_nil))))))))
/-! ### necklaces -/
abbrev s_necklaces : Stmt := top 19
abbrev N_necklaces : List Str := ["many", "colours", "whole", "turn", "one", "other", "part", "place"]
theorem sc_necklaces : FnScope N_necklaces ["many", "colours"] (defScope s_necklaces) := ⟨rfl, rfl, rfl, by decide +kernel, rfl, by decide +kernel, by decide +kernel⟩
def F_necklaces : SF := sSeq (sIf (bOr (bNot (bOf (eChain dLe dLe (eC (.int 1)) (eVar 0) (eC (.int 12))))) (bNot (bOf (eChain dLe dLe (eC (.int 1)) (eVar 1) (eC (.int 12)))))) (sRaise 3) (sNil))
      (sSeq (sSet 2 (eC (.int 0)))
      (sSeq (sFor (iRng1 (aCons (eVar 0) (aNil))) (tName 3) (sSeq (sPar 4 5 (aCons (eVar 0) (aCons (eVar 3) (aNil))))
      (sSeq (whileF (bOf (eOp dNe (eVar 5) (eC (.int 0)))) (sPar 4 5 (aCons (eVar 5) (aCons (eOp dMod (eVar 4) (eVar 5)) (aNil)))) 64)
      (sSeq (sSet 6 (eC (.int 1)))
      (sSeq (sFor (iRng1 (aCons (eVar 4) (aNil))) (tName 7) (sAug 6 dMulI (eVar 1)))
      (sAug 2 dAddA (eVar 6)))))))
      (sRet (eOp dFdiv (eVar 2) (eVar 0)))))
def Fn_necklaces : Fn := fnF 8 F_necklaces
theorem ok_necklaces {P : Program} {w : World} {K : PySem.W.Frag} {mg : Str → Option Value} {base : Heap} {S : Sg} (T : Txt K mg S)  {f : Addr} {fd : FuncData} (Fu : Fun K "necklaces" "necklaces" s_necklaces f fd) (hm : mg "necklaces" = some (.ref f)) (b : Binds K fd ["many", "colours"] []) : GF P w K mg base S "necklaces" ["many", "colours"] 1 Fn_necklaces :=
  gf_mk hm Fu b sc_necklaces fun cdv A outer s H E hr => by
    have cx := ctx_of (P := P) (w := w) (K := K) (mg := mg) (base := base) (qual := "necklaces") (scope := defScope s_necklaces) (f := f) (cd := cdv) (A := A) (outer := outer) (s := s) (H := H) (E := E) sc_necklaces.nd
    exact dss_cons (ds_if (dt_w (dw_or (dt_not (dt_chain op_le hd_cmp op_le hd_cmp (de_int) (de_var 0) (de_int))) (dw_or1 (dt_not (dt_chain op_le hd_cmp op_le hd_cmp (de_int) (de_var 1) (de_int)))))) (dss_one (ds_raise cx.calm cx.tk T.x_CountError)) (dss_nil))
      (dss_cons (ds_set 2 cx.nd (de_int))
      (dss_cons (ds_for cx.po cx.calm (di_range1 T.range (da_cons (de_var 0) (da_nil))) (dg_name 3 cx.nd) (dss_cons (ds_par 4 5 cx.calm cx.nd (da_cons (de_var 0) (da_cons (de_var 3) (da_nil))))
      (dss_cons (ds_while 64 cx.po (dt_cmp (op_neD hr.units) hd_ne (de_var 5) (de_int)) (dss_one (ds_par 4 5 cx.calm cx.nd (da_cons (de_var 5) (da_cons (de_op op_mod hd_mod (de_var 4) (de_var 5)) (da_nil))))))
      (dss_cons (ds_set 6 cx.nd (de_int))
      (dss_cons (ds_for cx.po cx.calm (di_range1 T.range (da_cons (de_var 4) (da_nil))) (dg_name 7 cx.nd) (dss_one (ds_aug 6 cx.nd (de_var 1) iop_mul hd_mulI)))
      (dss_one (ds_aug 2 cx.nd (de_var 6) iop_addA hd_addA)))))))
      (dss_one (ds_ret (de_op op_fdiv hd_fdiv (de_var 2) (de_var 0))))))
/-! ### bracelets -/
abbrev s_bracelets : Stmt := top 20
abbrev N_bracelets : List Str := ["many", "colours", "whole", "place", "pairs", "part", "pair"]
theorem sc_bracelets : FnScope N_bracelets ["many", "colours"] (defScope s_bracelets) := ⟨rfl, rfl, rfl, by decide +kernel, rfl, by decide +kernel, by decide +kernel⟩
def F_bracelets : SF := sSeq (sSet 2 (eOp dMul (eVar 0) (eFun 2 Fn_necklaces (aCons (eVar 0) (aCons (eVar 1) (aNil))))))
      (sSeq (sFor (iRng1 (aCons (eVar 0) (aNil))) (tName 3) (sSeq (sSet 4 (eIf (bOf (eOp dEq (eOp dMod (eVar 0) (eC (.int 2))) (eC (.int 1)))) (eOp dFdiv (eOp dAdd (eVar 0) (eC (.int 1))) (eC (.int 2))) (eOp dAdd (eOp dFdiv (eVar 0) (eC (.int 2))) (eIf (bOf (eOp dEq (eOp dMod (eVar 3) (eC (.int 2))) (eC (.int 0)))) (eC (.int 1)) (eC (.int 0))))))
      (sSeq (sSet 5 (eC (.int 1)))
      (sSeq (sFor (iRng1 (aCons (eVar 4) (aNil))) (tName 6) (sAug 5 dMulI (eVar 1)))
      (sAug 2 dAddA (eVar 5))))))
      (sRet (eOp dFdiv (eVar 2) (eOp dMul (eC (.int 2)) (eVar 0)))))
def Fn_bracelets : Fn := fnF 7 F_bracelets
theorem ok_bracelets {P : Program} {w : World} {K : PySem.W.Frag} {mg : Str → Option Value} {base : Heap} {S : Sg} (T : Txt K mg S) (g_necklaces : GF P w K mg base S "necklaces" ["many", "colours"] 1 Fn_necklaces) {f : Addr} {fd : FuncData} (Fu : Fun K "bracelets" "bracelets" s_bracelets f fd) (hm : mg "bracelets" = some (.ref f)) (b : Binds K fd ["many", "colours"] []) : GF P w K mg base S "bracelets" ["many", "colours"] 2 Fn_bracelets :=
  gf_mk hm Fu b sc_bracelets fun cdv A outer s H E hr => by
    have cx := ctx_of (P := P) (w := w) (K := K) (mg := mg) (base := base) (qual := "bracelets") (scope := defScope s_bracelets) (f := f) (cd := cdv) (A := A) (outer := outer) (s := s) (H := H) (E := E) sc_bracelets.nd
    exact dss_cons (ds_set 2 cx.nd (de_op op_mulD hd_mul (de_var 0) (de_call g_necklaces (hr.mono (by decide)) cx.ps (da_cons (de_var 0) (da_cons (de_var 1) (da_nil))))))
      (dss_cons (ds_for cx.po cx.calm (di_range1 T.range (da_cons (de_var 0) (da_nil))) (dg_name 3 cx.nd) (dss_cons (ds_set 4 cx.nd (de_if (dt_cmp (op_eqD hr.units) hd_eq (de_op op_mod hd_mod (de_var 0) (de_int)) (de_int)) (de_op op_fdiv hd_fdiv (de_op op_addD hd_add (de_var 0) (de_int)) (de_int)) (de_op op_addD hd_add (de_op op_fdiv hd_fdiv (de_var 0) (de_int)) (de_if (dt_cmp (op_eqD hr.units) hd_eq (de_op op_mod hd_mod (de_var 3) (de_int)) (de_int)) (de_int) (de_int)))))
      (dss_cons (ds_set 5 cx.nd (de_int))
      (dss_cons (ds_for cx.po cx.calm (di_range1 T.range (da_cons (de_var 4) (da_nil))) (dg_name 6 cx.nd) (dss_one (ds_aug 5 cx.nd (de_var 1) iop_mul hd_mulI)))
      (dss_one (ds_aug 2 cx.nd (de_var 5) iop_addA hd_addA))))))
      (dss_one (ds_ret (de_op op_fdiv hd_fdiv (de_var 2) (de_op op_mulD hd_mul (de_int) (de_var 0))))))
/-! ### _law_at -/
abbrev s_law_at : Stmt := top 26
abbrev N_law_at : List Str := ["rows", "x", "y"]
theorem sc_law_at : FnScope N_law_at ["rows", "x", "y"] (defScope s_law_at) := ⟨rfl, rfl, rfl, by decide +kernel, rfl, by decide +kernel, by decide +kernel⟩
def F_law_at : SF := sRet (eIx (eIx (eVar 0) (eVar 2)) (eOp dMod (eVar 1) (eCall dLen (aCons (eIx (eVar 0) (eC (.int 0))) (aNil)))))
def Fn_law_at : Fn := fnF 3 F_law_at
theorem ok_law_at {P : Program} {w : World} {K : PySem.W.Frag} {mg : Str → Option Value} {base : Heap} {S : Sg} (T : Txt K mg S)  {f : Addr} {fd : FuncData} (Fu : Fun K "_law_at" "_law_at" s_law_at f fd) (hm : mg "_law_at" = some (.ref f)) (b : Binds K fd ["rows", "x", "y"] []) : GF P w K mg base S "_law_at" ["rows", "x", "y"] 1 Fn_law_at :=
  gf_mk hm Fu b sc_law_at fun cdv A outer s H E hr => by
    have cx := ctx_of (P := P) (w := w) (K := K) (mg := mg) (base := base) (qual := "_law_at") (scope := defScope s_law_at) (f := f) (cd := cdv) (A := A) (outer := outer) (s := s) (H := H) (E := E) sc_law_at.nd
    exact dss_one (ds_ret (de_ix (de_ix (de_var 0) (de_var 2)) (de_op op_mod hd_mod (de_var 1) (de_callB call_len hd_len T.len (by decide +kernel) (da_cons (de_ix (de_var 0) (de_int)) (da_nil))))))
/-! ### _law_keeps -/
abbrev s_law_keeps : Stmt := top 27
abbrev N_law_keeps : List Str := ["rows", "wide", "flip", "turn", "more", "high", "y", "x"]
theorem sc_law_keeps : FnScope N_law_keeps ["rows", "wide", "flip", "turn", "more"] (defScope s_law_keeps) := ⟨rfl, rfl, rfl, by decide +kernel, rfl, by decide +kernel, by decide +kernel⟩
def F_law_keeps : SF := sSeq (sSet 5 (eCall dLen (aCons (eVar 0) (aNil))))
      (sSeq (sFor (iRng1 (aCons (eVar 5) (aNil))) (tName 6) (sFor (iRng1 (aCons (eVar 1) (aNil))) (tName 7) (sIf (bOf (eOp dNe (eFun 3 Fn_law_at (aCons (eVar 0) (aCons (eVar 7) (aCons (eVar 6) (aNil))))) (eFun 3 Fn_law_at (aCons (eVar 0) (aCons (eIf (bOf (eVar 3)) (eOp dSub (eVar 4) (eVar 7)) (eOp dAdd (eVar 7) (eVar 4))) (aCons (eIf (bOf (eVar 2)) (eOp dSub (eOp dSub (eVar 5) (eC (.int 1))) (eVar 6)) (eVar 6)) (aNil))))))) (sRet (eC (.bl false))) (sNil))))
      (sRet (eC (.bl true))))
def Fn_law_keeps : Fn := fnF 8 F_law_keeps
theorem ok_law_keeps {P : Program} {w : World} {K : PySem.W.Frag} {mg : Str → Option Value} {base : Heap} {S : Sg} (T : Txt K mg S) (g_law_at : GF P w K mg base S "_law_at" ["rows", "x", "y"] 1 Fn_law_at) {f : Addr} {fd : FuncData} (Fu : Fun K "_law_keeps" "_law_keeps" s_law_keeps f fd) (hm : mg "_law_keeps" = some (.ref f)) (b : Binds K fd ["rows", "wide", "flip", "turn", "more"] []) : GF P w K mg base S "_law_keeps" ["rows", "wide", "flip", "turn", "more"] 2 Fn_law_keeps :=
  gf_mk hm Fu b sc_law_keeps fun cdv A outer s H E hr => by
    have cx := ctx_of (P := P) (w := w) (K := K) (mg := mg) (base := base) (qual := "_law_keeps") (scope := defScope s_law_keeps) (f := f) (cd := cdv) (A := A) (outer := outer) (s := s) (H := H) (E := E) sc_law_keeps.nd
    exact dss_cons (ds_set 5 cx.nd (de_callB call_len hd_len T.len (by decide +kernel) (da_cons (de_var 0) (da_nil))))
      (dss_cons (ds_for cx.po cx.calm (di_range1 T.range (da_cons (de_var 5) (da_nil))) (dg_name 6 cx.nd) (dss_one (ds_for cx.po cx.calm (di_range1 T.range (da_cons (de_var 1) (da_nil))) (dg_name 7 cx.nd) (dss_one (ds_if (dt_cmp (op_neD hr.units) hd_ne (de_call g_law_at (hr.mono (by decide)) cx.ps (da_cons (de_var 0) (da_cons (de_var 7) (da_cons (de_var 6) (da_nil))))) (de_call g_law_at (hr.mono (by decide)) cx.ps (da_cons (de_var 0) (da_cons (de_if (dt_val (de_var 3)) (de_op op_sub hd_sub (de_var 4) (de_var 7)) (de_op op_addD hd_add (de_var 7) (de_var 4))) (da_cons (de_if (dt_val (de_var 2)) (de_op op_sub hd_sub (de_op op_sub hd_sub (de_var 5) (de_int)) (de_var 6)) (de_var 6)) (da_nil)))))) (dss_one (ds_ret (de_bl))) (dss_nil))))))
      (dss_one (ds_ret (de_bl))))
/-! ### _law_kind -/
abbrev s_law_kind : Stmt := top 28
abbrev N_law_kind : List Str := ["rows", "wide", "upright", "spin", "slides", "more"]
theorem sc_law_kind : FnScope N_law_kind ["rows"] (defScope s_law_kind) := ⟨rfl, rfl, rfl, by decide +kernel, rfl, by decide +kernel, by decide +kernel⟩
def F_law_kind : SF := sSeq (sSet 1 (eCall dLen (aCons (eIx (eVar 0) (eC (.int 0))) (aNil))))
      (sSeq (sSet 2 (eOp dNe (eLc (iRng1 (aCons (eVar 1) (aNil))) (tName 5) (bOf (eFun 5 Fn_law_keeps (aCons (eVar 0) (aCons (eVar 1) (aCons (eC (.bl false)) (aCons (eC (.bl true)) (aCons (eVar 5) (aNil)))))))) (eC (.int 1)) [5]) (eLst (aNil))))
      (sSeq (sSet 3 (eOp dNe (eLc (iRng1 (aCons (eVar 1) (aNil))) (tName 5) (bOf (eFun 5 Fn_law_keeps (aCons (eVar 0) (aCons (eVar 1) (aCons (eC (.bl true)) (aCons (eC (.bl true)) (aCons (eVar 5) (aNil)))))))) (eC (.int 1)) [5]) (eLst (aNil))))
      (sSeq (sSet 4 (eLc (iRng1 (aCons (eVar 1) (aNil))) (tName 5) (bOf (eFun 5 Fn_law_keeps (aCons (eVar 0) (aCons (eVar 1) (aCons (eC (.bl true)) (aCons (eC (.bl false)) (aCons (eVar 5) (aNil)))))))) (eVar 5) [5]))
      (sSeq (sIf (bOf (eOp dIn (eC (.int 0)) (eVar 4))) (sRet (eIf (bOf (eVar 2)) (eC (.str "spinning jump")) (eC (.str "jump")))) (sNil))
      (sSeq (sIf (bOf (eVar 2)) (sRet (eIf (bOf (eVar 3)) (eC (.str "spinning sidle")) (eC (.str "sidle")))) (sNil))
      (sRet (eIf (bOf (eVar 3)) (eC (.str "spinning hop")) (eIf (bOf (eOp dNe (eVar 4) (eLst (aNil)))) (eC (.str "step")) (eC (.str "hop"))))))))))
def Fn_law_kind : Fn := fnF 6 F_law_kind
theorem ok_law_kind {P : Program} {w : World} {K : PySem.W.Frag} {mg : Str → Option Value} {base : Heap} {S : Sg} (T : Txt K mg S) (g_law_keeps : GF P w K mg base S "_law_keeps" ["rows", "wide", "flip", "turn", "more"] 2 Fn_law_keeps) {f : Addr} {fd : FuncData} (Fu : Fun K "_law_kind" "_law_kind" s_law_kind f fd) (hm : mg "_law_kind" = some (.ref f)) (b : Binds K fd ["rows"] []) : GF P w K mg base S "_law_kind" ["rows"] 3 Fn_law_kind :=
  gf_mk hm Fu b sc_law_kind fun cdv A outer s H E hr => by
    have cx := ctx_of (P := P) (w := w) (K := K) (mg := mg) (base := base) (qual := "_law_kind") (scope := defScope s_law_kind) (f := f) (cd := cdv) (A := A) (outer := outer) (s := s) (H := H) (E := E) sc_law_kind.nd
    exact dss_cons (ds_set 1 cx.nd (de_callB call_len hd_len T.len (by decide +kernel) (da_cons (de_ix (de_var 0) (de_int)) (da_nil))))
      (dss_cons (ds_set 2 cx.nd (de_cmp (op_neD hr.units) hd_ne (de_lc (own := [("more", 5)]) cx.calm cx.nd (di_range1 T.range (da_cons (de_var 1) (da_nil))) (blkOk_by (N := N_law_kind) (sc := defScope s_law_kind) (by decide +kernel)) (by decide) (fun _ _ _ _ _ => dg_name 5 cx.nd) (fun _ _ _ _ _ => dts_one (dt_val (de_call g_law_keeps (hr.mono (by decide)) passB (da_cons (de_var 0) (da_cons (de_var 1) (da_cons (de_bl) (da_cons (de_bl) (da_cons (de_var 5) (da_nil))))))))) (fun _ _ _ _ _ => de_int)) (de_lst (da_nil))))
      (dss_cons (ds_set 3 cx.nd (de_cmp (op_neD hr.units) hd_ne (de_lc (own := [("more", 5)]) cx.calm cx.nd (di_range1 T.range (da_cons (de_var 1) (da_nil))) (blkOk_by (N := N_law_kind) (sc := defScope s_law_kind) (by decide +kernel)) (by decide) (fun _ _ _ _ _ => dg_name 5 cx.nd) (fun _ _ _ _ _ => dts_one (dt_val (de_call g_law_keeps (hr.mono (by decide)) passB (da_cons (de_var 0) (da_cons (de_var 1) (da_cons (de_bl) (da_cons (de_bl) (da_cons (de_var 5) (da_nil))))))))) (fun _ _ _ _ _ => de_int)) (de_lst (da_nil))))
      (dss_cons (ds_setLc 4 (own := [("more", 5)]) cx.calm cx.nd (sw_true rfl rfl rfl (by decide +kernel)) (di_range1 T.range (da_cons (de_var 1) (da_nil))) (blkOk_by (N := N_law_kind) (sc := defScope s_law_kind) (by decide +kernel)) (by decide) (fun _ _ _ _ _ => dg_name 5 cx.nd) (fun _ _ _ _ _ => dts_one (dt_val (de_call g_law_keeps (hr.mono (by decide)) passB (da_cons (de_var 0) (da_cons (de_var 1) (da_cons (de_bl) (da_cons (de_bl) (da_cons (de_var 5) (da_nil))))))))) (fun _ _ _ _ _ => de_var 5))
      (dss_cons (ds_if (dt_cmp op_inD hd_in (de_int) (de_var 4)) (dss_one (ds_ret (de_if (dt_val (de_var 2)) (de_str) (de_str)))) (dss_nil))
      (dss_cons (ds_if (dt_val (de_var 2)) (dss_one (ds_ret (de_if (dt_val (de_var 3)) (de_str) (de_str)))) (dss_nil))
      (dss_one (ds_ret (de_if (dt_val (de_var 3)) (de_str) (de_if (dt_cmp (op_neD hr.units) hd_ne (de_var 4) (de_lst (da_nil))) (de_str) (de_str))))))))))
/-! ### _law_dice -/
abbrev s_law_dice : Stmt := top 22
abbrev N_law_dice : List Str := ["cell"]
theorem sc_law_dice : FnScope N_law_dice ["cell"] (defScope s_law_dice) := ⟨rfl, rfl, rfl, by decide +kernel, rfl, by decide +kernel, by decide +kernel⟩
def F_law_dice : SF := sSeq (sIf (bOf (eChain dLt dLt (eOp dSub (eC (.int 0)) (eC (.int 10))) (eVar 0) (eC (.int 10)))) (sRet (eLst (aCons (eCall dAbs (aCons (eVar 0) (aNil))) (aCons (eC (.int 0)) (aCons (eC (.int 2)) (aNil)))))) (sNil))
      (sRet (eLst (aCons (eVar 0) (aCons (eOp dAdd (eC (.int 1)) (eOp dMod (eCall dInt (aCons (eVar 0) (aNil))) (eC (.int 1009)))) (aCons (eCall dInt (aCons (eOp dGe (eVar 0) (eOp dPow (eC (.int 10)) (eC (.int 18)))) (aNil))) (aNil))))))
def Fn_law_dice : Fn := fnF 1 F_law_dice
theorem ok_law_dice {P : Program} {w : World} {K : PySem.W.Frag} {mg : Str → Option Value} {base : Heap} {S : Sg} (T : Txt K mg S)  {f : Addr} {fd : FuncData} (Fu : Fun K "_law_dice" "_law_dice" s_law_dice f fd) (hm : mg "_law_dice" = some (.ref f)) (b : Binds K fd ["cell"] []) : GF P w K mg base S "_law_dice" ["cell"] 1 Fn_law_dice :=
  gf_mk hm Fu b sc_law_dice fun cdv A outer s H E hr => by
    have cx := ctx_of (P := P) (w := w) (K := K) (mg := mg) (base := base) (qual := "_law_dice") (scope := defScope s_law_dice) (f := f) (cd := cdv) (A := A) (outer := outer) (s := s) (H := H) (E := E) sc_law_dice.nd
    exact dss_cons (ds_if (dt_chain op_lt hd_cmp op_lt hd_cmp (de_op op_sub hd_sub (de_int) (de_int)) (de_var 0) (de_int)) (dss_one (ds_ret (de_lst (da_cons (de_callB call_abs hd_abs T.abs (by decide +kernel) (da_cons (de_var 0) (da_nil))) (da_cons (de_int) (da_cons (de_int) (da_nil))))))) (dss_nil))
      (dss_one (ds_ret (de_lst (da_cons (de_var 0) (da_cons (de_op op_addD hd_add (de_int) (de_op op_mod hd_mod (de_callTy call_int1 hd_int T.int (by decide +kernel) (da_cons (de_var 0) (da_nil))) (de_int))) (da_cons (de_callTy call_int1 hd_int T.int (by decide +kernel) (da_cons (de_cmp op_ge hd_cmp (de_var 0) (de_op op_pow hd_pow (de_int) (de_int))) (da_nil))) (da_nil)))))))
/-! ### _law_roll -/
abbrev s_law_roll : Stmt := top 23
abbrev N_law_roll : List Str := ["dice", "many", "found"]
theorem sc_law_roll : FnScope N_law_roll ["dice", "many"] (defScope s_law_roll) := ⟨rfl, rfl, rfl, by decide +kernel, rfl, by decide +kernel, by decide +kernel⟩
def F_law_roll : SF := sSeq (sIf (bOr (bOf (eOp dEq (eCIx (eVar 0) (eC (.int 2))) (eC (.int 2)))) (bAnd (bOf (eOp dEq (eCIx (eVar 0) (eC (.int 2))) (eC (.int 1)))) (bOf (eOp dGt (eCIx (eVar 0) (eC (.int 0))) (eC (.int 0)))))) (sSeq (sSet 2 (eOp dMod (eCall dInt (aCons (eCIx (eVar 0) (eC (.int 0))) (aNil))) (eVar 1)))
      (sSeq (sCSet (eVar 0) (eC (.int 0)) (eOp dFdiv (eCIx (eVar 0) (eC (.int 0))) (eVar 1)))
      (sRet (eVar 2)))) (sNil))
      (sSeq (sCSet (eVar 0) (eC (.int 2)) (eC (.int 0)))
      (sSeq (sIf (bOf (eOp dGt (eVar 1) (eC (.int 100000000)))) sBad sNil)
      (sSeq (sCSet (eVar 0) (eC (.int 0)) (eOp dMod (eCall dInt (aCons (eOp dAdd (eOp dAdd (eOp dMul (eCIx (eVar 0) (eC (.int 0))) (eC (.int 48271))) (eOp dMul (eCIx (eVar 0) (eC (.int 1))) (eC (.int 69621)))) (eC (.int 11))) (aNil))) (eC (.int 2147483647))))
      (sSeq (sCSet (eVar 0) (eC (.int 1)) (eOp dAdd (eCIx (eVar 0) (eC (.int 1))) (eC (.int 1))))
      (sRet (eOp dMod (eCall dInt (aCons (eOp dFdiv (eCIx (eVar 0) (eC (.int 0))) (eC (.int 7))) (aNil))) (eVar 1)))))))
def Fn_law_roll : Fn := fnF 3 F_law_roll
theorem ok_law_roll {P : Program} {w : World} {K : PySem.W.Frag} {mg : Str → Option Value} {base : Heap} {S : Sg} (T : Txt K mg S)  {f : Addr} {fd : FuncData} (Fu : Fun K "_law_roll" "_law_roll" s_law_roll f fd) (hm : mg "_law_roll" = some (.ref f)) (b : Binds K fd ["dice", "many"] []) : GF P w K mg base S "_law_roll" ["dice", "many"] 1 Fn_law_roll :=
  gf_mk hm Fu b sc_law_roll fun cdv A outer s H E hr => by
    have cx := ctx_of (P := P) (w := w) (K := K) (mg := mg) (base := base) (qual := "_law_roll") (scope := defScope s_law_roll) (f := f) (cd := cdv) (A := A) (outer := outer) (s := s) (H := H) (E := E) sc_law_roll.nd
    exact dss_cons (ds_if (dt_w (dw_or (dt_cmp (op_eqD hr.units) hd_eq (de_cix (de_var 0) (de_int)) (de_int)) (dw_or1 (dt_w (dw_and (dt_cmp (op_eqD hr.units) hd_eq (de_cix (de_var 0) (de_int)) (de_int)) (dw_and1 (dt_cmp op_gt hd_cmp (de_cix (de_var 0) (de_int)) (de_int)))))))) (dss_cons (ds_set 2 cx.nd (de_op op_mod hd_mod (de_callTy call_int1 hd_int T.int (by decide +kernel) (da_cons (de_cix (de_var 0) (de_int)) (da_nil))) (de_var 1)))
      (dss_cons (ds_cset T.nd (de_var 0) (de_int) (de_op op_fdiv hd_fdiv (de_cix (de_var 0) (de_int)) (de_var 1)))
      (dss_one (ds_ret (de_var 2))))) (dss_nil))
      (dss_cons (ds_cset T.nd (de_var 0) (de_int) (de_int))
      (dss_cons (ds_if (dt_cmp op_gt hd_cmp (de_var 1) (de_int)) dss_bad dss_nil)
      (dss_cons (ds_cset T.nd (de_var 0) (de_int) (de_op op_mod hd_mod (de_callTy call_int1 hd_int T.int (by decide +kernel) (da_cons (de_op op_addD hd_add (de_op op_addD hd_add (de_op op_mulD hd_mul (de_cix (de_var 0) (de_int)) (de_int)) (de_op op_mulD hd_mul (de_cix (de_var 0) (de_int)) (de_int))) (de_int)) (da_nil))) (de_int)))
      (dss_cons (ds_cset T.nd (de_var 0) (de_int) (de_op op_addD hd_add (de_cix (de_var 0) (de_int)) (de_int)))
      (dss_one (ds_ret (de_op op_mod hd_mod (de_callTy call_int1 hd_int T.int (by decide +kernel) (da_cons (de_op op_fdiv hd_fdiv (de_cix (de_var 0) (de_int)) (de_int)) (da_nil))) (de_var 1))))))))
/-! ### _law_rounds -/
abbrev s_law_rounds : Stmt := top 24
abbrev N_law_rounds : List Str := ["script", "most", "cells", "cell"]
theorem sc_law_rounds : FnScope N_law_rounds ["script", "most"] (defScope s_law_rounds) := ⟨rfl, rfl, rfl, by decide +kernel, rfl, by decide +kernel, by decide +kernel⟩
def F_law_rounds : SF := sSeq (sSet 2 (eSl (eVar 0) oNone (oSome (eVar 1))))
      (sSeq (sIf (bOf (eOp dEq (eVar 2) (eLst (aNil)))) (sSet 2 (eLst (aCons (eC (.int 0)) (aNil)))) (sNil))
      (sRet (eLc (iSeq (eVar 2)) (tName 3) (bYes) (eFun 1 Fn_law_dice (aCons (eVar 3) (aNil))) [3])))
def Fn_law_rounds : Fn := fnF 4 F_law_rounds
theorem ok_law_rounds {P : Program} {w : World} {K : PySem.W.Frag} {mg : Str → Option Value} {base : Heap} {S : Sg} (T : Txt K mg S) (g_law_dice : GF P w K mg base S "_law_dice" ["cell"] 1 Fn_law_dice) {f : Addr} {fd : FuncData} (Fu : Fun K "_law_rounds" "_law_rounds" s_law_rounds f fd) (hm : mg "_law_rounds" = some (.ref f)) (b : Binds K fd ["script", "most"] []) : GF P w K mg base S "_law_rounds" ["script", "most"] 2 Fn_law_rounds :=
  gf_mk hm Fu b sc_law_rounds fun cdv A outer s H E hr => by
    have cx := ctx_of (P := P) (w := w) (K := K) (mg := mg) (base := base) (qual := "_law_rounds") (scope := defScope s_law_rounds) (f := f) (cd := cdv) (A := A) (outer := outer) (s := s) (H := H) (E := E) sc_law_rounds.nd
    exact dss_cons (ds_set 2 cx.nd (de_sl (de_var 0) do_none (do_some (de_var 1))))
      (dss_cons (ds_if (dt_cmp (op_eqD hr.units) hd_eq (de_var 2) (de_lst (da_nil))) (dss_one (ds_set 2 cx.nd (de_lst (da_cons (de_int) (da_nil))))) (dss_nil))
      (dss_one (ds_ret (de_lc (own := [("cell", 3)]) cx.calm cx.nd (di_seq (de_var 2)) (blkOk_by (N := N_law_rounds) (sc := defScope s_law_rounds) (by decide +kernel)) (by decide) (fun _ _ _ _ _ => dg_name 3 cx.nd) (fun _ _ _ _ _ => dts_nil) (fun _ _ _ _ _ => de_call g_law_dice (hr.mono (by decide)) passB (da_cons (de_var 3) (da_nil)))))))
/-! ### _law_has -/
abbrev s_law_has : Stmt := top 30
abbrev N_law_has : List Str := ["rows", "kind", "wide", "upright", "spin", "slides", "level", "wants", "more"]
theorem sc_law_has : FnScope N_law_has ["rows", "kind"] (defScope s_law_has) := ⟨rfl, rfl, rfl, by decide +kernel, rfl, by decide +kernel, by decide +kernel⟩
def F_law_has : SF := sSeq (sSet 2 (eCall dLen (aCons (eIx (eVar 0) (eC (.int 0))) (aNil))))
      (sSeq (sSet 3 (eOp dNe (eLc (iRng1 (aCons (eVar 2) (aNil))) (tName 8) (bOf (eFun 5 Fn_law_keeps (aCons (eVar 0) (aCons (eVar 2) (aCons (eC (.bl false)) (aCons (eC (.bl true)) (aCons (eVar 8) (aNil)))))))) (eC (.int 1)) [8]) (eLst (aNil))))
      (sSeq (sSet 4 (eOp dNe (eLc (iRng1 (aCons (eVar 2) (aNil))) (tName 8) (bOf (eFun 5 Fn_law_keeps (aCons (eVar 0) (aCons (eVar 2) (aCons (eC (.bl true)) (aCons (eC (.bl true)) (aCons (eVar 8) (aNil)))))))) (eC (.int 1)) [8]) (eLst (aNil))))
      (sSeq (sSet 5 (eOp dNe (eLc (iRng1 (aCons (eVar 2) (aNil))) (tName 8) (bOf (eFun 5 Fn_law_keeps (aCons (eVar 0) (aCons (eVar 2) (aCons (eC (.bl true)) (aCons (eC (.bl false)) (aCons (eVar 8) (aNil)))))))) (eC (.int 1)) [8]) (eLst (aNil))))
      (sSeq (sSet 6 (eFun 5 Fn_law_keeps (aCons (eVar 0) (aCons (eVar 2) (aCons (eC (.bl true)) (aCons (eC (.bl false)) (aCons (eC (.int 0)) (aNil))))))))
      (sSeq (sSet 7 (eDisp (kCons (eC (.str "hop")) (eC (.bl true)) (kCons (eC (.str "step")) (eVar 5) (kCons (eC (.str "sidle")) (eVar 3) (kCons (eC (.str "spinning hop")) (eVar 4) (kCons (eC (.str "jump")) (eVar 6) (kNil))))))))
      (sRet (eOp dGetD (eCall dDictP (aCons (eOp dAdd (eListItems (eVar 7)) (eLst (aCons (eTup (aCons (eC (.str "spinning sidle")) (aCons (eAnd (eVar 3) (eAnd (eVar 4) (eVar 5))) (aNil)))) (aCons (eTup (aCons (eC (.str "spinning jump")) (aCons (eAnd (eVar 6) (eVar 3)) (aNil)))) (aNil))))) (aNil))) (eVar 1))))))))
def Fn_law_has : Fn := fnF 9 F_law_has
theorem ok_law_has {P : Program} {w : World} {K : PySem.W.Frag} {mg : Str → Option Value} {base : Heap} {S : Sg} (T : Txt K mg S) (g_law_keeps : GF P w K mg base S "_law_keeps" ["rows", "wide", "flip", "turn", "more"] 2 Fn_law_keeps) {f : Addr} {fd : FuncData} (Fu : Fun K "_law_has" "_law_has" s_law_has f fd) (hm : mg "_law_has" = some (.ref f)) (b : Binds K fd ["rows", "kind"] []) : GF P w K mg base S "_law_has" ["rows", "kind"] 3 Fn_law_has :=
  gf_mk hm Fu b sc_law_has fun cdv A outer s H E hr => by
    have cx := ctx_of (P := P) (w := w) (K := K) (mg := mg) (base := base) (qual := "_law_has") (scope := defScope s_law_has) (f := f) (cd := cdv) (A := A) (outer := outer) (s := s) (H := H) (E := E) sc_law_has.nd
    exact dss_cons (ds_set 2 cx.nd (de_callB call_len hd_len T.len (by decide +kernel) (da_cons (de_ix (de_var 0) (de_int)) (da_nil))))
      (dss_cons (ds_set 3 cx.nd (de_cmp (op_neD hr.units) hd_ne (de_lc (own := [("more", 8)]) cx.calm cx.nd (di_range1 T.range (da_cons (de_var 2) (da_nil))) (blkOk_by (N := N_law_has) (sc := defScope s_law_has) (by decide +kernel)) (by decide) (fun _ _ _ _ _ => dg_name 8 cx.nd) (fun _ _ _ _ _ => dts_one (dt_val (de_call g_law_keeps (hr.mono (by decide)) passB (da_cons (de_var 0) (da_cons (de_var 2) (da_cons (de_bl) (da_cons (de_bl) (da_cons (de_var 8) (da_nil))))))))) (fun _ _ _ _ _ => de_int)) (de_lst (da_nil))))
      (dss_cons (ds_set 4 cx.nd (de_cmp (op_neD hr.units) hd_ne (de_lc (own := [("more", 8)]) cx.calm cx.nd (di_range1 T.range (da_cons (de_var 2) (da_nil))) (blkOk_by (N := N_law_has) (sc := defScope s_law_has) (by decide +kernel)) (by decide) (fun _ _ _ _ _ => dg_name 8 cx.nd) (fun _ _ _ _ _ => dts_one (dt_val (de_call g_law_keeps (hr.mono (by decide)) passB (da_cons (de_var 0) (da_cons (de_var 2) (da_cons (de_bl) (da_cons (de_bl) (da_cons (de_var 8) (da_nil))))))))) (fun _ _ _ _ _ => de_int)) (de_lst (da_nil))))
      (dss_cons (ds_set 5 cx.nd (de_cmp (op_neD hr.units) hd_ne (de_lc (own := [("more", 8)]) cx.calm cx.nd (di_range1 T.range (da_cons (de_var 2) (da_nil))) (blkOk_by (N := N_law_has) (sc := defScope s_law_has) (by decide +kernel)) (by decide) (fun _ _ _ _ _ => dg_name 8 cx.nd) (fun _ _ _ _ _ => dts_one (dt_val (de_call g_law_keeps (hr.mono (by decide)) passB (da_cons (de_var 0) (da_cons (de_var 2) (da_cons (de_bl) (da_cons (de_bl) (da_cons (de_var 8) (da_nil))))))))) (fun _ _ _ _ _ => de_int)) (de_lst (da_nil))))
      (dss_cons (ds_set 6 cx.nd (de_call g_law_keeps (hr.mono (by decide)) cx.ps (da_cons (de_var 0) (da_cons (de_var 2) (da_cons (de_bl) (da_cons (de_bl) (da_cons (de_int) (da_nil))))))))
      (dss_cons (ds_set 7 cx.nd (de_disp (dps_cons (de_str) (de_bl) (dps_cons (de_str) (de_var 5) (dps_cons (de_str) (de_var 3) (dps_cons (de_str) (de_var 4) (dps_cons (de_str) (de_var 6) (dps_nil))))))))
      (dss_one (ds_ret (de_dget hr.units (de_callTy (call_dictP rfl) hd_dictP T.dict (by decide +kernel) (da_cons (de_op op_addD hd_add (de_listItems rfl (de_var 7) T.list (by decide +kernel)) (de_lst (da_cons (de_tup (da_cons (de_str) (da_cons (de_and (de_var 3) (de_and (de_var 4) (de_one (de_var 5)))) (da_nil)))) (da_cons (de_tup (da_cons (de_str) (da_cons (de_and (de_var 6) (de_one (de_var 3))) (da_nil)))) (da_nil))))) (da_nil))) (de_var 1)))))))))
/-! ### _law_beside -/
abbrev s_law_beside : Stmt := top 31
abbrev N_law_beside : List Str := ["pieces", "y", "piece"]
theorem sc_law_beside : FnScope N_law_beside ["pieces"] (defScope s_law_beside) := ⟨rfl, rfl, rfl, by decide +kernel, rfl, by decide +kernel, by decide +kernel⟩
def F_law_beside : SF := sRet (eLc (iRng1 (aCons (eCall dLen (aCons (eIx (eVar 0) (eC (.int 0))) (aNil))) (aNil))) (tName 1) (bYes) (eJoin (eC (.str "")) (eLc (iSeq (eVar 0)) (tName 2) (bYes) (eIx (eVar 2) (eVar 1)) [2])) [1])
def Fn_law_beside : Fn := fnF 3 F_law_beside
theorem ok_law_beside {P : Program} {w : World} {K : PySem.W.Frag} {mg : Str → Option Value} {base : Heap} {S : Sg} (T : Txt K mg S)  {f : Addr} {fd : FuncData} (Fu : Fun K "_law_beside" "_law_beside" s_law_beside f fd) (hm : mg "_law_beside" = some (.ref f)) (b : Binds K fd ["pieces"] []) : GF P w K mg base S "_law_beside" ["pieces"] 1 Fn_law_beside :=
  gf_mk hm Fu b sc_law_beside fun cdv A outer s H E hr => by
    have cx := ctx_of (P := P) (w := w) (K := K) (mg := mg) (base := base) (qual := "_law_beside") (scope := defScope s_law_beside) (f := f) (cd := cdv) (A := A) (outer := outer) (s := s) (H := H) (E := E) sc_law_beside.nd
    exact dss_one (ds_ret (de_lc (own := [("y", 1)]) cx.calm cx.nd (di_range1 T.range (da_cons (de_callB call_len hd_len T.len (by decide +kernel) (da_cons (de_ix (de_var 0) (de_int)) (da_nil))) (da_nil))) (blkOk_by (N := N_law_beside) (sc := defScope s_law_beside) (by decide +kernel)) (by decide) (fun _ _ _ _ _ => dg_name 1 cx.nd) (fun _ _ _ _ _ => dts_nil) (fun _ _ _ _ _ => de_join (de_str) (de_lc (own := [("piece", 2)]) cx.calm cx.nd (di_seq (de_var 0)) (blkOk_by (N := N_law_beside) (sc := relS _ (defScope s_law_beside)) (by decide +kernel)) (by decide) (fun _ _ _ _ _ => dg_name 2 cx.nd) (fun _ _ _ _ _ => dts_nil) (fun _ _ _ _ _ => de_ix (de_var 2) (de_var 1))))))
/-! ### _law_made -/
abbrev s_law_made : Stmt := top 32
abbrev N_law_made : List Str := ["rows", "kind", "back", "down", "turn", "pieces", "half", "row"]
theorem sc_law_made : FnScope N_law_made ["rows", "kind"] (defScope s_law_made) := ⟨rfl, rfl, rfl, by decide +kernel, rfl, by decide +kernel, by decide +kernel⟩
def F_law_made : SF := sSeq (sPar 2 3 (aCons (eLc (iSeq (eVar 0)) (tName 7) (bYes) (eRev (eVar 7)) [7]) (aCons (eRev (eVar 0)) (aNil))))
      (sSeq (sSet 4 (eLc (iSeq (eVar 3)) (tName 7) (bYes) (eRev (eVar 7)) [7]))
      (sSeq (sSet 5 (eDisp (kCons (eC (.str "hop")) (eLst (aCons (eVar 0) (aNil))) (kCons (eC (.str "step")) (eLst (aCons (eVar 0) (aCons (eVar 3) (aNil)))) (kCons (eC (.str "sidle")) (eLst (aCons (eVar 0) (aCons (eVar 2) (aNil)))) (kCons (eC (.str "spinning hop")) (eLst (aCons (eVar 0) (aCons (eVar 4) (aNil)))) (kCons (eC (.str "spinning sidle")) (eLst (aCons (eVar 0) (aCons (eVar 2) (aCons (eVar 3) (aCons (eVar 4) (aNil)))))) (kNil))))))))
      (sSeq (sIf (bOf (eOp dInD (eVar 1) (eVar 5))) (sRet (eFun 1 Fn_law_beside (aCons (eOp dGetD (eVar 5) (eVar 1)) (aNil)))) (sNil))
      (sSeq (sSet 6 (eIf (bOf (eOp dEq (eVar 1) (eC (.str "jump")))) (eVar 0) (eFun 1 Fn_law_beside (aCons (eLst (aCons (eVar 0) (aCons (eVar 2) (aNil)))) (aNil)))))
      (sRet (eOp dAdd (eVar 6) (eRev (eVar 6))))))))
def Fn_law_made : Fn := fnF 8 F_law_made
theorem ok_law_made {P : Program} {w : World} {K : PySem.W.Frag} {mg : Str → Option Value} {base : Heap} {S : Sg} (T : Txt K mg S) (g_law_beside : GF P w K mg base S "_law_beside" ["pieces"] 1 Fn_law_beside) {f : Addr} {fd : FuncData} (Fu : Fun K "_law_made" "_law_made" s_law_made f fd) (hm : mg "_law_made" = some (.ref f)) (b : Binds K fd ["rows", "kind"] []) : GF P w K mg base S "_law_made" ["rows", "kind"] 2 Fn_law_made :=
  gf_mk hm Fu b sc_law_made fun cdv A outer s H E hr => by
    have cx := ctx_of (P := P) (w := w) (K := K) (mg := mg) (base := base) (qual := "_law_made") (scope := defScope s_law_made) (f := f) (cd := cdv) (A := A) (outer := outer) (s := s) (H := H) (E := E) sc_law_made.nd
    exact dss_cons (ds_par 2 3 cx.calm cx.nd (da_cons (de_lc (own := [("row", 7)]) cx.calm cx.nd (di_seq (de_var 0)) (blkOk_by (N := N_law_made) (sc := defScope s_law_made) (by decide +kernel)) (by decide) (fun _ _ _ _ _ => dg_name 7 cx.nd) (fun _ _ _ _ _ => dts_nil) (fun _ _ _ _ _ => de_rev (de_var 7))) (da_cons (de_rev (de_var 0)) (da_nil))))
      (dss_cons (ds_setLc 4 (own := [("row", 7)]) cx.calm cx.nd (sw_true rfl rfl rfl (by decide +kernel)) (di_seq (de_var 3)) (blkOk_by (N := N_law_made) (sc := defScope s_law_made) (by decide +kernel)) (by decide) (fun _ _ _ _ _ => dg_name 7 cx.nd) (fun _ _ _ _ _ => dts_nil) (fun _ _ _ _ _ => de_rev (de_var 7)))
      (dss_cons (ds_set 5 cx.nd (de_disp (dps_cons (de_str) (de_lst (da_cons (de_var 0) (da_nil))) (dps_cons (de_str) (de_lst (da_cons (de_var 0) (da_cons (de_var 3) (da_nil)))) (dps_cons (de_str) (de_lst (da_cons (de_var 0) (da_cons (de_var 2) (da_nil)))) (dps_cons (de_str) (de_lst (da_cons (de_var 0) (da_cons (de_var 4) (da_nil)))) (dps_cons (de_str) (de_lst (da_cons (de_var 0) (da_cons (de_var 2) (da_cons (de_var 3) (da_cons (de_var 4) (da_nil)))))) (dps_nil))))))))
      (dss_cons (ds_if (dt_din hr.units (de_var 1) (de_var 5)) (dss_one (ds_ret (de_call g_law_beside (hr.mono (by decide)) cx.ps (da_cons (de_dget hr.units (de_var 5) (de_var 1)) (da_nil))))) (dss_nil))
      (dss_cons (ds_set 6 cx.nd (de_if (dt_cmp (op_eqD hr.units) hd_eq (de_var 1) (de_str)) (de_var 0) (de_call g_law_beside (hr.mono (by decide)) cx.ps (da_cons (de_lst (da_cons (de_var 0) (da_cons (de_var 2) (da_nil)))) (da_nil)))))
      (dss_one (ds_ret (de_op op_addD hd_add (de_var 6) (de_rev (de_var 6)))))))))
/-! ### _law_words -/
abbrev s_law_words : Stmt := top 33
abbrev N_law_words : List Str := ["signs", "many", "found", "place", "fresh", "word", "sign"]
theorem sc_law_words : FnScope N_law_words ["signs", "many"] (defScope s_law_words) := ⟨rfl, rfl, rfl, by decide +kernel, rfl, by decide +kernel, by decide +kernel⟩
def F_law_words : SF := sSeq (sSet 2 (eLst (aCons (eC (.str "")) (aNil))))
      (sSeq (sFor (iRng1 (aCons (eVar 1) (aNil))) (tName 3) (sSeq (sSet 4 (eLst (aNil)))
      (sSeq (sFor (iSeq (eVar 2)) (tName 5) (sSet 4 (eOp dAdd (eVar 4) (eLc (iSeq (eVar 0)) (tName 6) (bYes) (eOp dAdd (eVar 5) (eVar 6)) [6]))))
      (sSet 2 (eVar 4)))))
      (sRet (eVar 2)))
def Fn_law_words : Fn := fnF 7 F_law_words
theorem ok_law_words {P : Program} {w : World} {K : PySem.W.Frag} {mg : Str → Option Value} {base : Heap} {S : Sg} (T : Txt K mg S)  {f : Addr} {fd : FuncData} (Fu : Fun K "_law_words" "_law_words" s_law_words f fd) (hm : mg "_law_words" = some (.ref f)) (b : Binds K fd ["signs", "many"] []) : GF P w K mg base S "_law_words" ["signs", "many"] 1 Fn_law_words :=
  gf_mk hm Fu b sc_law_words fun cdv A outer s H E hr => by
    have cx := ctx_of (P := P) (w := w) (K := K) (mg := mg) (base := base) (qual := "_law_words") (scope := defScope s_law_words) (f := f) (cd := cdv) (A := A) (outer := outer) (s := s) (H := H) (E := E) sc_law_words.nd
    exact dss_cons (ds_set 2 cx.nd (de_lst (da_cons (de_str) (da_nil))))
      (dss_cons (ds_for cx.po cx.calm (di_range1 T.range (da_cons (de_var 1) (da_nil))) (dg_name 3 cx.nd) (dss_cons (ds_set 4 cx.nd (de_lst (da_nil)))
      (dss_cons (ds_for cx.po cx.calm (di_seq (de_var 2)) (dg_name 5 cx.nd) (dss_one (ds_set 4 cx.nd (de_op op_addD hd_add (de_var 4) (de_lc (own := [("sign", 6)]) cx.calm cx.nd (di_seq (de_var 0)) (blkOk_by (N := N_law_words) (sc := defScope s_law_words) (by decide +kernel)) (by decide) (fun _ _ _ _ _ => dg_name 6 cx.nd) (fun _ _ _ _ _ => dts_nil) (fun _ _ _ _ _ => de_op op_addD hd_add (de_var 5) (de_var 6)))))))
      (dss_one (ds_set 2 cx.nd (de_var 4))))))
      (dss_one (ds_ret (de_var 2))))
/-! ### _law_rings -/
abbrev s_law_rings : Stmt := top 34
abbrev N_law_rings : List Str := ["many", "colours", "over", "found", "word", "images", "k", "image"]
theorem sc_law_rings : FnScope N_law_rings ["many", "colours", "over"] (defScope s_law_rings) := ⟨rfl, rfl, rfl, by decide +kernel, rfl, by decide +kernel, by decide +kernel⟩
def F_law_rings : SF := sSeq (sOwnD 3)
      (sSeq (sFor (iSeq (eFun 2 Fn_law_words (aCons (eSl (eC (.str "abcdefg")) oNone (oSome (eVar 1))) (aCons (eVar 0) (aNil))))) (tName 4) (sSeq (sSet 5 (eLc (iRng1 (aCons (eVar 0) (aNil))) (tName 6) (bYes) (eOp dAdd (eSl (eVar 4) (oSome (eVar 6)) oNone) (eSl (eVar 4) oNone (oSome (eVar 6)))) [6]))
      (sSeq (sSet 5 (eOp dAdd (eVar 5) (eIf (bOf (eVar 2)) (eLc (iSeq (eVar 5)) (tName 7) (bYes) (eRev (eVar 7)) [7]) (eLst (aNil)))))
      (sPutO 3 (eC (.int 1)) (eCall dMin (aCons (eVar 5) (aNil)))))))
      (sRet (eLenDO 3)))
def Fn_law_rings : Fn := fnF 8 F_law_rings
theorem ok_law_rings {P : Program} {w : World} {K : PySem.W.Frag} {mg : Str → Option Value} {base : Heap} {S : Sg} (T : Txt K mg S) (g_law_words : GF P w K mg base S "_law_words" ["signs", "many"] 1 Fn_law_words) {f : Addr} {fd : FuncData} (Fu : Fun K "_law_rings" "_law_rings" s_law_rings f fd) (hm : mg "_law_rings" = some (.ref f)) (b : Binds K fd ["many", "colours", "over"] []) : GF P w K mg base S "_law_rings" ["many", "colours", "over"] 2 Fn_law_rings :=
  gf_mk hm Fu b sc_law_rings fun cdv A outer s H E hr => by
    have cx := ctx_of (P := P) (w := w) (K := K) (mg := mg) (base := base) (qual := "_law_rings") (scope := defScope s_law_rings) (f := f) (cd := cdv) (A := A) (outer := outer) (s := s) (H := H) (E := E) sc_law_rings.nd
    exact dss_cons (ds_ownD 3 cx.nd)
      (dss_cons (ds_for cx.po cx.calm (di_seq (de_call g_law_words (hr.mono (by decide)) cx.ps (da_cons (de_sl (de_str) do_none (do_some (de_var 1))) (da_cons (de_var 0) (da_nil))))) (dg_name 4 cx.nd) (dss_cons (ds_setLc 5 (own := [("k", 6)]) cx.calm cx.nd (sw_true rfl rfl rfl (by decide +kernel)) (di_range1 T.range (da_cons (de_var 0) (da_nil))) (blkOk_by (N := N_law_rings) (sc := defScope s_law_rings) (by decide +kernel)) (by decide) (fun _ _ _ _ _ => dg_name 6 cx.nd) (fun _ _ _ _ _ => dts_nil) (fun _ _ _ _ _ => de_op op_addD hd_add (de_sl (de_var 4) (do_some (de_var 6)) do_none) (de_sl (de_var 4) do_none (do_some (de_var 6)))))
      (dss_cons (ds_set 5 cx.nd (de_op op_addD hd_add (de_var 5) (de_if (dt_val (de_var 2)) (de_lc (own := [("image", 7)]) cx.calm cx.nd (di_seq (de_var 5)) (blkOk_by (N := N_law_rings) (sc := defScope s_law_rings) (by decide +kernel)) (by decide) (fun _ _ _ _ _ => dg_name 7 cx.nd) (fun _ _ _ _ _ => dts_nil) (fun _ _ _ _ _ => de_rev (de_var 7))) (de_lst (da_nil)))))
      (dss_one (ds_putO 3 hr.units (de_int) (de_callB (cr_minD hr.units rfl) hd_minD T.min (by decide +kernel) (da_cons (de_var 5) (da_nil))))))))
      (dss_one (ds_ret (de_lenDO 3 T.len (by decide +kernel)))))
structure All (P : Program) (w : World) (K : PySem.W.Frag) (mg : Str → Option Value) (base : Heap) (S : Sg) : Prop where
  g_Strip_init : GK P w K mg base S "Strip" 1 2 Fn_Strip_init
  g_Strip_wide : GM P w K mg base S 0 "wide" ["self"] 1 Fn_Strip_wide
  g_Strip_at : GM P w K mg base S 0 "at" ["self", "x", "y"] 2 Fn_Strip_at
  g_Strip_moved : GM P w K mg base S 0 "moved" ["self", "many"] 4 Fn_Strip_moved
  g_Strip_turned : GM P w K mg base S 0 "turned" ["self"] 4 Fn_Strip_turned
  g_Strip_left_right : GM P w K mg base S 0 "left_right" ["self"] 4 Fn_Strip_left_right
  g_Strip_up_down : GM P w K mg base S 0 "up_down" ["self"] 4 Fn_Strip_up_down
  g_Strip_has_level : GM P w K mg base S 0 "has_level" ["self"] 5 Fn_Strip_has_level
  g_Strip_period : GM P w K mg base S 0 "period" ["self"] 5 Fn_Strip_period
  g_Strip_mirrors : GM P w K mg base S 0 "mirrors" ["self"] 6 Fn_Strip_mirrors
  g_Strip_turns : GM P w K mg base S 0 "turns" ["self"] 6 Fn_Strip_turns
  g_Strip_slide : GM P w K mg base S 0 "slide" ["self"] 5 Fn_Strip_slide
  g_Strip_kind : GM P w K mg base S 0 "kind" ["self"] 7 Fn_Strip_kind
  g_Strip_shown : GM P w K mg base S 0 "shown" ["self", "y", "many"] 3 Fn_Strip_shown
  g_Strip_repeated : GM P w K mg base S 0 "repeated" ["self", "many"] 6 Fn_Strip_repeated
  g_Strip_same : GM P w K mg base S 0 "same" ["self", "other"] 7 Fn_Strip_same
  g_beside : GF P w K mg base S "beside" ["strips"] 4 Fn_beside
  g_made : GF P w K mg base S "made" ["piece", "kind"] 5 Fn_made
  g_has_at_least : GF P w K mg base S "has_at_least" ["strip", "kind"] 7 Fn_has_at_least
  g_all_strips : GF P w K mg base S "all_strips" ["wide", "high", "signs"] 5 Fn_all_strips
  g_counted : GF P w K mg base S "counted" ["wide", "high", "signs"] 8 Fn_counted
  g_unlike_ones : GF P w K mg base S "unlike_ones" ["wide", "high", "signs"] 9 Fn_unlike_ones
  g_nearest : GF P w K mg base S "nearest" ["strip", "kind", "signs"] 8 Fn_nearest
  g_necklaces : GF P w K mg base S "necklaces" ["many", "colours"] 1 Fn_necklaces
  g_bracelets : GF P w K mg base S "bracelets" ["many", "colours"] 2 Fn_bracelets
  g_law_at : GF P w K mg base S "_law_at" ["rows", "x", "y"] 1 Fn_law_at
  g_law_keeps : GF P w K mg base S "_law_keeps" ["rows", "wide", "flip", "turn", "more"] 2 Fn_law_keeps
  g_law_kind : GF P w K mg base S "_law_kind" ["rows"] 3 Fn_law_kind
  g_law_dice : GF P w K mg base S "_law_dice" ["cell"] 1 Fn_law_dice
  g_law_roll : GF P w K mg base S "_law_roll" ["dice", "many"] 1 Fn_law_roll
  g_law_rounds : GF P w K mg base S "_law_rounds" ["script", "most"] 2 Fn_law_rounds
  g_law_has : GF P w K mg base S "_law_has" ["rows", "kind"] 3 Fn_law_has
  g_law_beside : GF P w K mg base S "_law_beside" ["pieces"] 1 Fn_law_beside
  g_law_made : GF P w K mg base S "_law_made" ["rows", "kind"] 2 Fn_law_made
  g_law_words : GF P w K mg base S "_law_words" ["signs", "many"] 1 Fn_law_words
  g_law_rings : GF P w K mg base S "_law_rings" ["many", "colours", "over"] 2 Fn_law_rings
end K1
namespace K1
open PySem PySem.Spec L2 Dd
theorem ctx_lam {X : Cx} {A : Around} {outer : List PySem.Env} {s : Shared} {H : Hp} {E : XK} {scope : Scope} {f c' : Addr} (nd : X.N.Nodup) : Ctx (LamX.lamCx X A outer s H E scope f c') E where
  calm := rfl
  nd := nd
  tk := takes_of rfl rfl rfl rfl
  ps := passes_call (takes_of rfl rfl rfl rfl) fun _ _ _ _ h => h
  po := passes_of rfl
theorem un65 {k : Nat} {A : Around} (hr : Room k A) : A.units + 65 < cLine := by have := hr.un; omega
/-! ### _law_plain -/
abbrev s_law_plain : Stmt := top 35
abbrev N_law_plain : List Str := ["bad", "f"]
theorem sc_law_plain : FnScope N_law_plain [] (defScope s_law_plain) := ⟨rfl, rfl, rfl, by decide +kernel, rfl, by decide +kernel, by decide +kernel⟩
abbrev lx_law_plain_0 : Expr := (acList_elts 18 (acAssign_value (acFunctionDef_body 0 s_law_plain)))
def lsem_law_plain_0 : E := eFun 2 Fn_bracelets (aCons (eC (.int 1)) (aCons (eC (.int 13)) (aNil)))
abbrev lx_law_plain_1 : Expr := (acList_elts 17 (acAssign_value (acFunctionDef_body 0 s_law_plain)))
def lsem_law_plain_1 : E := eFun 2 Fn_bracelets (aCons (eC (.int 1)) (aCons (eC (.int 0)) (aNil)))
abbrev lx_law_plain_2 : Expr := (acList_elts 16 (acAssign_value (acFunctionDef_body 0 s_law_plain)))
def lsem_law_plain_2 : E := eFun 2 Fn_necklaces (aCons (eC (.int 13)) (aCons (eC (.int 1)) (aNil)))
abbrev lx_law_plain_3 : Expr := (acList_elts 15 (acAssign_value (acFunctionDef_body 0 s_law_plain)))
def lsem_law_plain_3 : E := eFun 2 Fn_necklaces (aCons (eC (.int 0)) (aCons (eC (.int 1)) (aNil)))
abbrev lx_law_plain_4 : Expr := (acList_elts 14 (acAssign_value (acFunctionDef_body 0 s_law_plain)))
def lsem_law_plain_4 : E := eFun 2 Fn_has_at_least (aCons (eFun 1 Fn_Strip_init (aCons (eLst (aCons (eC (.str "a")) (aNil))) (aNil))) (aCons (eC (.str "skip")) (aNil)))
abbrev lx_law_plain_5 : Expr := (acList_elts 13 (acAssign_value (acFunctionDef_body 0 s_law_plain)))
def lsem_law_plain_5 : E := eFun 3 Fn_nearest (aCons (eFun 1 Fn_Strip_init (aCons (eLst (aCons (eOp dMul (eC (.str "a")) (eC (.int 13))) (aNil))) (aNil))) (aCons (eC (.str "hop")) (aCons (eC (.str "ab")) (aNil))))
abbrev lx_law_plain_6 : Expr := (acList_elts 12 (acAssign_value (acFunctionDef_body 0 s_law_plain)))
def lsem_law_plain_6 : E := eFun 3 Fn_nearest (aCons (eFun 1 Fn_Strip_init (aCons (eLst (aCons (eC (.str "a")) (aNil))) (aNil))) (aCons (eC (.str "skip")) (aCons (eC (.str "a")) (aNil))))
abbrev lx_law_plain_7 : Expr := (acList_elts 11 (acAssign_value (acFunctionDef_body 0 s_law_plain)))
def lsem_law_plain_7 : E := eFun 3 Fn_unlike_ones (aCons (eC (.int 1)) (aCons (eC (.int 9)) (aCons (eC (.str "a")) (aNil))))
abbrev lx_law_plain_8 : Expr := (acList_elts 10 (acAssign_value (acFunctionDef_body 0 s_law_plain)))
def lsem_law_plain_8 : E := eFun 3 Fn_counted (aCons (eC (.int 13)) (aCons (eC (.int 1)) (aCons (eC (.str "ab")) (aNil))))
abbrev lx_law_plain_9 : Expr := (acList_elts 9 (acAssign_value (acFunctionDef_body 0 s_law_plain)))
def lsem_law_plain_9 : E := eFun 3 Fn_all_strips (aCons (eC (.int 13)) (aCons (eC (.int 1)) (aCons (eC (.str "ab")) (aNil))))
abbrev lx_law_plain_10 : Expr := (acList_elts 8 (acAssign_value (acFunctionDef_body 0 s_law_plain)))
def lsem_law_plain_10 : E := eFun 3 Fn_all_strips (aCons (eC (.int 25)) (aCons (eC (.int 1)) (aCons (eC (.str "a")) (aNil))))
abbrev lx_law_plain_11 : Expr := (acList_elts 7 (acAssign_value (acFunctionDef_body 0 s_law_plain)))
def lsem_law_plain_11 : E := eFun 3 Fn_all_strips (aCons (eC (.int 1)) (aCons (eC (.int 1)) (aCons (eC (.str "")) (aNil))))
abbrev lx_law_plain_12 : Expr := (acList_elts 6 (acAssign_value (acFunctionDef_body 0 s_law_plain)))
def lsem_law_plain_12 : E := eFun 3 Fn_all_strips (aCons (eC (.int 1)) (aCons (eC (.int 0)) (aCons (eC (.str "a")) (aNil))))
abbrev lx_law_plain_13 : Expr := (acList_elts 5 (acAssign_value (acFunctionDef_body 0 s_law_plain)))
def lsem_law_plain_13 : E := eFun 3 Fn_all_strips (aCons (eC (.int 0)) (aCons (eC (.int 1)) (aCons (eC (.str "a")) (aNil))))
abbrev lx_law_plain_14 : Expr := (acList_elts 4 (acAssign_value (acFunctionDef_body 0 s_law_plain)))
def lsem_law_plain_14 : E := eFun 1 Fn_beside (aCons (eLst (aCons (eFun 1 Fn_Strip_init (aCons (eLst (aCons (eC (.str "a")) (aNil))) (aNil))) (aCons (eFun 1 Fn_Strip_init (aCons (eLst (aCons (eC (.str "a")) (aCons (eC (.str "b")) (aNil)))) (aNil))) (aNil)))) (aNil))
abbrev lx_law_plain_15 : Expr := (acList_elts 3 (acAssign_value (acFunctionDef_body 0 s_law_plain)))
def lsem_law_plain_15 : E := eFun 1 Fn_beside (aCons (eLst (aNil)) (aNil))
abbrev lx_law_plain_16 : Expr := (acList_elts 2 (acAssign_value (acFunctionDef_body 0 s_law_plain)))
def lsem_law_plain_16 : E := eFun 2 Fn_made (aCons (eLst (aCons (eOp dMul (eC (.str "a")) (eC (.int 13))) (aNil))) (aCons (eC (.str "step")) (aNil)))
abbrev lx_law_plain_17 : Expr := (acList_elts 1 (acAssign_value (acFunctionDef_body 0 s_law_plain)))
def lsem_law_plain_17 : E := eFun 2 Fn_made (aCons (eLst (aNil)) (aCons (eC (.str "hop")) (aNil)))
abbrev lx_law_plain_18 : Expr := (acList_elts 0 (acAssign_value (acFunctionDef_body 0 s_law_plain)))
def lsem_law_plain_18 : E := eFun 2 Fn_made (aCons (eLst (aCons (eC (.str "a")) (aNil))) (aCons (eC (.str "skip")) (aNil)))
def lams_law_plain : List LamE := [⟨lamP lx_law_plain_0, lamB lx_law_plain_0, lamS lx_law_plain_0, lsem_law_plain_0⟩, ⟨lamP lx_law_plain_1, lamB lx_law_plain_1, lamS lx_law_plain_1, lsem_law_plain_1⟩, ⟨lamP lx_law_plain_2, lamB lx_law_plain_2, lamS lx_law_plain_2, lsem_law_plain_2⟩, ⟨lamP lx_law_plain_3, lamB lx_law_plain_3, lamS lx_law_plain_3, lsem_law_plain_3⟩, ⟨lamP lx_law_plain_4, lamB lx_law_plain_4, lamS lx_law_plain_4, lsem_law_plain_4⟩, ⟨lamP lx_law_plain_5, lamB lx_law_plain_5, lamS lx_law_plain_5, lsem_law_plain_5⟩, ⟨lamP lx_law_plain_6, lamB lx_law_plain_6, lamS lx_law_plain_6, lsem_law_plain_6⟩, ⟨lamP lx_law_plain_7, lamB lx_law_plain_7, lamS lx_law_plain_7, lsem_law_plain_7⟩, ⟨lamP lx_law_plain_8, lamB lx_law_plain_8, lamS lx_law_plain_8, lsem_law_plain_8⟩, ⟨lamP lx_law_plain_9, lamB lx_law_plain_9, lamS lx_law_plain_9, lsem_law_plain_9⟩, ⟨lamP lx_law_plain_10, lamB lx_law_plain_10, lamS lx_law_plain_10, lsem_law_plain_10⟩, ⟨lamP lx_law_plain_11, lamB lx_law_plain_11, lamS lx_law_plain_11, lsem_law_plain_11⟩, ⟨lamP lx_law_plain_12, lamB lx_law_plain_12, lamS lx_law_plain_12, lsem_law_plain_12⟩, ⟨lamP lx_law_plain_13, lamB lx_law_plain_13, lamS lx_law_plain_13, lsem_law_plain_13⟩, ⟨lamP lx_law_plain_14, lamB lx_law_plain_14, lamS lx_law_plain_14, lsem_law_plain_14⟩, ⟨lamP lx_law_plain_15, lamB lx_law_plain_15, lamS lx_law_plain_15, lsem_law_plain_15⟩, ⟨lamP lx_law_plain_16, lamB lx_law_plain_16, lamS lx_law_plain_16, lsem_law_plain_16⟩, ⟨lamP lx_law_plain_17, lamB lx_law_plain_17, lamS lx_law_plain_17, lsem_law_plain_17⟩, ⟨lamP lx_law_plain_18, lamB lx_law_plain_18, lamS lx_law_plain_18, lsem_law_plain_18⟩]
def F_law_plain : SF := sSeq (sSet 0 (eLst (aCons (eC (.lam 18)) (aCons (eC (.lam 17)) (aCons (eC (.lam 16)) (aCons (eC (.lam 15)) (aCons (eC (.lam 14)) (aCons (eC (.lam 13)) (aCons (eC (.lam 12)) (aCons (eC (.lam 11)) (aCons (eC (.lam 10)) (aCons (eC (.lam 9)) (aCons (eC (.lam 8)) (aCons (eC (.lam 7)) (aCons (eC (.lam 6)) (aCons (eC (.lam 5)) (aCons (eC (.lam 4)) (aCons (eC (.lam 3)) (aCons (eC (.lam 2)) (aCons (eC (.lam 1)) (aCons (eC (.lam 0)) (aNil))))))))))))))))))))))
      (sRet (eAnd (eOp dEq (eLcT 1 (iSeq (eVar 0)) lams_law_plain toldC toldR "FriezeError") (eLst (aNil))) (eAnd (eOp dEq (eC G_MOST_COUNTED) (eC (.int 5000))) (eAnd (eOp dEq (eFun 2 Fn_necklaces (aCons (eC (.int 6)) (aCons (eC (.int 2)) (aNil)))) (eC (.int 14))) (eAnd (eOp dEq (eFun 2 Fn_bracelets (aCons (eC (.int 6)) (aCons (eC (.int 2)) (aNil)))) (eC (.int 13))) (eAnd (eOp dEq (eFld 0 0 (eFun 2 Fn_made (aCons (eLst (aCons (eC (.str "ab")) (aCons (eC (.str "c.")) (aNil)))) (aCons (eC (.str "spinning hop")) (aNil))))) (eTup (aCons (eC (.str "ab.c")) (aCons (eC (.str "c.ba")) (aNil))))) (eOp dEq (eFun 3 Fn_nearest (aCons (eFun 1 Fn_Strip_init (aCons (eLst (aCons (eC (.str "ab")) (aNil))) (aNil))) (aCons (eC (.str "hop")) (aCons (eC (.str "ab")) (aNil))))) (eTup (aCons (eC (.int 0)) (aCons (eTup (aCons (eC (.str "ab")) (aNil))) (aNil)))))))))))
def Fn_law_plain : Fn := fnP 2 F_law_plain
def plSg (S : Sg) (cl : List (Str × Addr)) : Sg := { S with ρ := [], lamO := lamOf lams_law_plain ("_law_plain" ++ ".<locals>." ++ "<lambda>") cl, lamQ := ("_law_plain" ++ ".<locals>." ++ "<lambda>") }
theorem lams_plain {P : Program} {w : World} {K : PySem.W.Frag} {mg : Str → Option Value} {base : Heap} {S : Sg} {f0 c : Addr} {A0 : Around} {outer0 : List PySem.Env} {s0 : Shared} {H0 : Hp} {E0 : XK} (T : Txt K mg (plSg S (PyProof.Rows.envOfC "_law_plain" (defScope s_law_plain) s0.heap.objs.size f0 (.ref c)).cells)) (G : All P w K mg base (plSg S (PyProof.Rows.envOfC "_law_plain" (defScope s_law_plain) s0.heap.objs.size f0 (.ref c)).cells)) :
    LamsIn (cxOf (L2.CX P w) P w K mg base N_law_plain "_law_plain" (defScope s_law_plain) f0 (.ref c) A0 outer0 s0 H0 E0) (plSg S (PyProof.Rows.envOfC "_law_plain" (defScope s_law_plain) s0.heap.objs.size f0 (.ref c)).cells) 9 lams_law_plain := by
  obtain ⟨g_Strip_init, g_Strip_wide, g_Strip_at, g_Strip_moved, g_Strip_turned, g_Strip_left_right, g_Strip_up_down, g_Strip_has_level, g_Strip_period, g_Strip_mirrors, g_Strip_turns, g_Strip_slide, g_Strip_kind, g_Strip_shown, g_Strip_repeated, g_Strip_same, g_beside, g_made, g_has_at_least, g_all_strips, g_counted, g_unlike_ones, g_nearest, g_necklaces, g_bracelets, g_law_at, g_law_keeps, g_law_kind, g_law_dice, g_law_roll, g_law_rounds, g_law_has, g_law_beside, g_law_made, g_law_words, g_law_rings⟩ := G
  refine ⟨rfl, rfl, fun i l hl => ?_⟩
  rcases i with _ | i
  · cases hl; exact ⟨LamX.lamS_by (sc := defScope s_law_plain) (scope := lamS lx_law_plain_0) (by decide +kernel), fun _ _ _ _ _ => rfl, fun A outer s H E f c' hr => by
      have cx := ctx_lam (A := A) (outer := outer) (s := s) (H := H) (E := E) (scope := lamS lx_law_plain_0) (f := f) (c' := c') (X := cxOf (L2.CX P w) P w K mg base N_law_plain "_law_plain" (defScope s_law_plain) f0 (.ref c) A0 outer0 s0 H0 E0) sc_law_plain.nd
      show DE _ _ _ (lamB lx_law_plain_0) lsem_law_plain_0
      exact de_call g_bracelets (hr.mono (by decide)) cx.ps (da_cons (de_int) (da_cons (de_int) (da_nil)))⟩
  rcases i with _ | i
  · cases hl; exact ⟨LamX.lamS_by (sc := defScope s_law_plain) (scope := lamS lx_law_plain_1) (by decide +kernel), fun _ _ _ _ _ => rfl, fun A outer s H E f c' hr => by
      have cx := ctx_lam (A := A) (outer := outer) (s := s) (H := H) (E := E) (scope := lamS lx_law_plain_1) (f := f) (c' := c') (X := cxOf (L2.CX P w) P w K mg base N_law_plain "_law_plain" (defScope s_law_plain) f0 (.ref c) A0 outer0 s0 H0 E0) sc_law_plain.nd
      show DE _ _ _ (lamB lx_law_plain_1) lsem_law_plain_1
      exact de_call g_bracelets (hr.mono (by decide)) cx.ps (da_cons (de_int) (da_cons (de_int) (da_nil)))⟩
  rcases i with _ | i
  · cases hl; exact ⟨LamX.lamS_by (sc := defScope s_law_plain) (scope := lamS lx_law_plain_2) (by decide +kernel), fun _ _ _ _ _ => rfl, fun A outer s H E f c' hr => by
      have cx := ctx_lam (A := A) (outer := outer) (s := s) (H := H) (E := E) (scope := lamS lx_law_plain_2) (f := f) (c' := c') (X := cxOf (L2.CX P w) P w K mg base N_law_plain "_law_plain" (defScope s_law_plain) f0 (.ref c) A0 outer0 s0 H0 E0) sc_law_plain.nd
      show DE _ _ _ (lamB lx_law_plain_2) lsem_law_plain_2
      exact de_call g_necklaces (hr.mono (by decide)) cx.ps (da_cons (de_int) (da_cons (de_int) (da_nil)))⟩
  rcases i with _ | i
  · cases hl; exact ⟨LamX.lamS_by (sc := defScope s_law_plain) (scope := lamS lx_law_plain_3) (by decide +kernel), fun _ _ _ _ _ => rfl, fun A outer s H E f c' hr => by
      have cx := ctx_lam (A := A) (outer := outer) (s := s) (H := H) (E := E) (scope := lamS lx_law_plain_3) (f := f) (c' := c') (X := cxOf (L2.CX P w) P w K mg base N_law_plain "_law_plain" (defScope s_law_plain) f0 (.ref c) A0 outer0 s0 H0 E0) sc_law_plain.nd
      show DE _ _ _ (lamB lx_law_plain_3) lsem_law_plain_3
      exact de_call g_necklaces (hr.mono (by decide)) cx.ps (da_cons (de_int) (da_cons (de_int) (da_nil)))⟩
  rcases i with _ | i
  · cases hl; exact ⟨LamX.lamS_by (sc := defScope s_law_plain) (scope := lamS lx_law_plain_4) (by decide +kernel), fun _ _ _ _ _ => rfl, fun A outer s H E f c' hr => by
      have cx := ctx_lam (A := A) (outer := outer) (s := s) (H := H) (E := E) (scope := lamS lx_law_plain_4) (f := f) (c' := c') (X := cxOf (L2.CX P w) P w K mg base N_law_plain "_law_plain" (defScope s_law_plain) f0 (.ref c) A0 outer0 s0 H0 E0) sc_law_plain.nd
      show DE _ _ _ (lamB lx_law_plain_4) lsem_law_plain_4
      exact de_call g_has_at_least (hr.mono (by decide)) cx.ps (da_cons (de_make g_Strip_init (hr.mono (by decide)) cx.ps (da_cons (de_lst (da_cons (de_str) (da_nil))) (da_nil))) (da_cons (de_str) (da_nil)))⟩
  rcases i with _ | i
  · cases hl; exact ⟨LamX.lamS_by (sc := defScope s_law_plain) (scope := lamS lx_law_plain_5) (by decide +kernel), fun _ _ _ _ _ => rfl, fun A outer s H E f c' hr => by
      have cx := ctx_lam (A := A) (outer := outer) (s := s) (H := H) (E := E) (scope := lamS lx_law_plain_5) (f := f) (c' := c') (X := cxOf (L2.CX P w) P w K mg base N_law_plain "_law_plain" (defScope s_law_plain) f0 (.ref c) A0 outer0 s0 H0 E0) sc_law_plain.nd
      show DE _ _ _ (lamB lx_law_plain_5) lsem_law_plain_5
      exact de_call g_nearest (hr.mono (by decide)) cx.ps (da_cons (de_make g_Strip_init (hr.mono (by decide)) cx.ps (da_cons (de_lst (da_cons (de_op op_mulD hd_mul (de_str) (de_int)) (da_nil))) (da_nil))) (da_cons (de_str) (da_cons (de_str) (da_nil))))⟩
  rcases i with _ | i
  · cases hl; exact ⟨LamX.lamS_by (sc := defScope s_law_plain) (scope := lamS lx_law_plain_6) (by decide +kernel), fun _ _ _ _ _ => rfl, fun A outer s H E f c' hr => by
      have cx := ctx_lam (A := A) (outer := outer) (s := s) (H := H) (E := E) (scope := lamS lx_law_plain_6) (f := f) (c' := c') (X := cxOf (L2.CX P w) P w K mg base N_law_plain "_law_plain" (defScope s_law_plain) f0 (.ref c) A0 outer0 s0 H0 E0) sc_law_plain.nd
      show DE _ _ _ (lamB lx_law_plain_6) lsem_law_plain_6
      exact de_call g_nearest (hr.mono (by decide)) cx.ps (da_cons (de_make g_Strip_init (hr.mono (by decide)) cx.ps (da_cons (de_lst (da_cons (de_str) (da_nil))) (da_nil))) (da_cons (de_str) (da_cons (de_str) (da_nil))))⟩
  rcases i with _ | i
  · cases hl; exact ⟨LamX.lamS_by (sc := defScope s_law_plain) (scope := lamS lx_law_plain_7) (by decide +kernel), fun _ _ _ _ _ => rfl, fun A outer s H E f c' hr => by
      have cx := ctx_lam (A := A) (outer := outer) (s := s) (H := H) (E := E) (scope := lamS lx_law_plain_7) (f := f) (c' := c') (X := cxOf (L2.CX P w) P w K mg base N_law_plain "_law_plain" (defScope s_law_plain) f0 (.ref c) A0 outer0 s0 H0 E0) sc_law_plain.nd
      show DE _ _ _ (lamB lx_law_plain_7) lsem_law_plain_7
      exact de_call g_unlike_ones (hr.mono (by decide)) cx.ps (da_cons (de_int) (da_cons (de_int) (da_cons (de_str) (da_nil))))⟩
  rcases i with _ | i
  · cases hl; exact ⟨LamX.lamS_by (sc := defScope s_law_plain) (scope := lamS lx_law_plain_8) (by decide +kernel), fun _ _ _ _ _ => rfl, fun A outer s H E f c' hr => by
      have cx := ctx_lam (A := A) (outer := outer) (s := s) (H := H) (E := E) (scope := lamS lx_law_plain_8) (f := f) (c' := c') (X := cxOf (L2.CX P w) P w K mg base N_law_plain "_law_plain" (defScope s_law_plain) f0 (.ref c) A0 outer0 s0 H0 E0) sc_law_plain.nd
      show DE _ _ _ (lamB lx_law_plain_8) lsem_law_plain_8
      exact de_call g_counted (hr.mono (by decide)) cx.ps (da_cons (de_int) (da_cons (de_int) (da_cons (de_str) (da_nil))))⟩
  rcases i with _ | i
  · cases hl; exact ⟨LamX.lamS_by (sc := defScope s_law_plain) (scope := lamS lx_law_plain_9) (by decide +kernel), fun _ _ _ _ _ => rfl, fun A outer s H E f c' hr => by
      have cx := ctx_lam (A := A) (outer := outer) (s := s) (H := H) (E := E) (scope := lamS lx_law_plain_9) (f := f) (c' := c') (X := cxOf (L2.CX P w) P w K mg base N_law_plain "_law_plain" (defScope s_law_plain) f0 (.ref c) A0 outer0 s0 H0 E0) sc_law_plain.nd
      show DE _ _ _ (lamB lx_law_plain_9) lsem_law_plain_9
      exact de_call g_all_strips (hr.mono (by decide)) cx.ps (da_cons (de_int) (da_cons (de_int) (da_cons (de_str) (da_nil))))⟩
  rcases i with _ | i
  · cases hl; exact ⟨LamX.lamS_by (sc := defScope s_law_plain) (scope := lamS lx_law_plain_10) (by decide +kernel), fun _ _ _ _ _ => rfl, fun A outer s H E f c' hr => by
      have cx := ctx_lam (A := A) (outer := outer) (s := s) (H := H) (E := E) (scope := lamS lx_law_plain_10) (f := f) (c' := c') (X := cxOf (L2.CX P w) P w K mg base N_law_plain "_law_plain" (defScope s_law_plain) f0 (.ref c) A0 outer0 s0 H0 E0) sc_law_plain.nd
      show DE _ _ _ (lamB lx_law_plain_10) lsem_law_plain_10
      exact de_call g_all_strips (hr.mono (by decide)) cx.ps (da_cons (de_int) (da_cons (de_int) (da_cons (de_str) (da_nil))))⟩
  rcases i with _ | i
  · cases hl; exact ⟨LamX.lamS_by (sc := defScope s_law_plain) (scope := lamS lx_law_plain_11) (by decide +kernel), fun _ _ _ _ _ => rfl, fun A outer s H E f c' hr => by
      have cx := ctx_lam (A := A) (outer := outer) (s := s) (H := H) (E := E) (scope := lamS lx_law_plain_11) (f := f) (c' := c') (X := cxOf (L2.CX P w) P w K mg base N_law_plain "_law_plain" (defScope s_law_plain) f0 (.ref c) A0 outer0 s0 H0 E0) sc_law_plain.nd
      show DE _ _ _ (lamB lx_law_plain_11) lsem_law_plain_11
      exact de_call g_all_strips (hr.mono (by decide)) cx.ps (da_cons (de_int) (da_cons (de_int) (da_cons (de_str) (da_nil))))⟩
  rcases i with _ | i
  · cases hl; exact ⟨LamX.lamS_by (sc := defScope s_law_plain) (scope := lamS lx_law_plain_12) (by decide +kernel), fun _ _ _ _ _ => rfl, fun A outer s H E f c' hr => by
      have cx := ctx_lam (A := A) (outer := outer) (s := s) (H := H) (E := E) (scope := lamS lx_law_plain_12) (f := f) (c' := c') (X := cxOf (L2.CX P w) P w K mg base N_law_plain "_law_plain" (defScope s_law_plain) f0 (.ref c) A0 outer0 s0 H0 E0) sc_law_plain.nd
      show DE _ _ _ (lamB lx_law_plain_12) lsem_law_plain_12
      exact de_call g_all_strips (hr.mono (by decide)) cx.ps (da_cons (de_int) (da_cons (de_int) (da_cons (de_str) (da_nil))))⟩
  rcases i with _ | i
  · cases hl; exact ⟨LamX.lamS_by (sc := defScope s_law_plain) (scope := lamS lx_law_plain_13) (by decide +kernel), fun _ _ _ _ _ => rfl, fun A outer s H E f c' hr => by
      have cx := ctx_lam (A := A) (outer := outer) (s := s) (H := H) (E := E) (scope := lamS lx_law_plain_13) (f := f) (c' := c') (X := cxOf (L2.CX P w) P w K mg base N_law_plain "_law_plain" (defScope s_law_plain) f0 (.ref c) A0 outer0 s0 H0 E0) sc_law_plain.nd
      show DE _ _ _ (lamB lx_law_plain_13) lsem_law_plain_13
      exact de_call g_all_strips (hr.mono (by decide)) cx.ps (da_cons (de_int) (da_cons (de_int) (da_cons (de_str) (da_nil))))⟩
  rcases i with _ | i
  · cases hl; exact ⟨LamX.lamS_by (sc := defScope s_law_plain) (scope := lamS lx_law_plain_14) (by decide +kernel), fun _ _ _ _ _ => rfl, fun A outer s H E f c' hr => by
      have cx := ctx_lam (A := A) (outer := outer) (s := s) (H := H) (E := E) (scope := lamS lx_law_plain_14) (f := f) (c' := c') (X := cxOf (L2.CX P w) P w K mg base N_law_plain "_law_plain" (defScope s_law_plain) f0 (.ref c) A0 outer0 s0 H0 E0) sc_law_plain.nd
      show DE _ _ _ (lamB lx_law_plain_14) lsem_law_plain_14
      exact de_call g_beside (hr.mono (by decide)) cx.ps (da_cons (de_lst (da_cons (de_make g_Strip_init (hr.mono (by decide)) cx.ps (da_cons (de_lst (da_cons (de_str) (da_nil))) (da_nil))) (da_cons (de_make g_Strip_init (hr.mono (by decide)) cx.ps (da_cons (de_lst (da_cons (de_str) (da_cons (de_str) (da_nil)))) (da_nil))) (da_nil)))) (da_nil))⟩
  rcases i with _ | i
  · cases hl; exact ⟨LamX.lamS_by (sc := defScope s_law_plain) (scope := lamS lx_law_plain_15) (by decide +kernel), fun _ _ _ _ _ => rfl, fun A outer s H E f c' hr => by
      have cx := ctx_lam (A := A) (outer := outer) (s := s) (H := H) (E := E) (scope := lamS lx_law_plain_15) (f := f) (c' := c') (X := cxOf (L2.CX P w) P w K mg base N_law_plain "_law_plain" (defScope s_law_plain) f0 (.ref c) A0 outer0 s0 H0 E0) sc_law_plain.nd
      show DE _ _ _ (lamB lx_law_plain_15) lsem_law_plain_15
      exact de_call g_beside (hr.mono (by decide)) cx.ps (da_cons (de_lst (da_nil)) (da_nil))⟩
  rcases i with _ | i
  · cases hl; exact ⟨LamX.lamS_by (sc := defScope s_law_plain) (scope := lamS lx_law_plain_16) (by decide +kernel), fun _ _ _ _ _ => rfl, fun A outer s H E f c' hr => by
      have cx := ctx_lam (A := A) (outer := outer) (s := s) (H := H) (E := E) (scope := lamS lx_law_plain_16) (f := f) (c' := c') (X := cxOf (L2.CX P w) P w K mg base N_law_plain "_law_plain" (defScope s_law_plain) f0 (.ref c) A0 outer0 s0 H0 E0) sc_law_plain.nd
      show DE _ _ _ (lamB lx_law_plain_16) lsem_law_plain_16
      exact de_call g_made (hr.mono (by decide)) cx.ps (da_cons (de_lst (da_cons (de_op op_mulD hd_mul (de_str) (de_int)) (da_nil))) (da_cons (de_str) (da_nil)))⟩
  rcases i with _ | i
  · cases hl; exact ⟨LamX.lamS_by (sc := defScope s_law_plain) (scope := lamS lx_law_plain_17) (by decide +kernel), fun _ _ _ _ _ => rfl, fun A outer s H E f c' hr => by
      have cx := ctx_lam (A := A) (outer := outer) (s := s) (H := H) (E := E) (scope := lamS lx_law_plain_17) (f := f) (c' := c') (X := cxOf (L2.CX P w) P w K mg base N_law_plain "_law_plain" (defScope s_law_plain) f0 (.ref c) A0 outer0 s0 H0 E0) sc_law_plain.nd
      show DE _ _ _ (lamB lx_law_plain_17) lsem_law_plain_17
      exact de_call g_made (hr.mono (by decide)) cx.ps (da_cons (de_lst (da_nil)) (da_cons (de_str) (da_nil)))⟩
  rcases i with _ | i
  · cases hl; exact ⟨LamX.lamS_by (sc := defScope s_law_plain) (scope := lamS lx_law_plain_18) (by decide +kernel), fun _ _ _ _ _ => rfl, fun A outer s H E f c' hr => by
      have cx := ctx_lam (A := A) (outer := outer) (s := s) (H := H) (E := E) (scope := lamS lx_law_plain_18) (f := f) (c' := c') (X := cxOf (L2.CX P w) P w K mg base N_law_plain "_law_plain" (defScope s_law_plain) f0 (.ref c) A0 outer0 s0 H0 E0) sc_law_plain.nd
      show DE _ _ _ (lamB lx_law_plain_18) lsem_law_plain_18
      exact de_call g_made (hr.mono (by decide)) cx.ps (da_cons (de_lst (da_cons (de_str) (da_nil))) (da_cons (de_str) (da_nil)))⟩
  · cases hl
theorem ok_plain {P : Program} {w : World} {K : PySem.W.Frag} {mg : Str → Option Value} {base : Heap} {S : Sg} (HT : ∀ (lo : Nat → Addr → Addr → HO) (lq : Str) (ρ : List Addr), ρ.Nodup → Txt K mg { S with ρ := ρ, lamO := lo, lamQ := lq }) (HG : ∀ (lo : Nat → Addr → Addr → HO) (lq : Str) (ρ : List Addr), ρ.Nodup → All P w K mg base { S with ρ := ρ, lamO := lo, lamQ := lq }) {c Pt : Addr} (TBg : TbL base mg (plSg S []) c Pt) {g_told : Addr} (Td : ∀ S' : Sg, S'.EX = S.EX → Told P K mg S' "_law_told" toldR toldC s_told g_told) {f : Addr} {fd : FuncData} (Fu : FunT K "_law_plain" "_law_plain" s_law_plain f fd c) (hm : mg "_law_plain" = some (.ref f)) (b : Binds K fd [] [])
    (lo : Nat → Addr → Addr → HO) (lq : Str) (ρ : List Addr) : GF P w K mg base { S with ρ := ρ, lamO := lo, lamQ := lq } "_law_plain" [] 12 Fn_law_plain :=
  gf_mkP (k := 11) hm Fu b sc_law_plain (fun cl => plSg S cl) (fun cl => ⟨rfl, rfl⟩) fun A outer s H E hr => by
    have cx := ctx_of (P := P) (w := w) (K := K) (mg := mg) (base := base) (qual := "_law_plain") (scope := defScope s_law_plain) (f := f) (cd := .ref c) (A := A) (outer := outer) (s := s) (H := H) (E := E) sc_law_plain.nd
    have T := HT (lamOf lams_law_plain ("_law_plain" ++ ".<locals>." ++ "<lambda>") (PyProof.Rows.envOfC "_law_plain" (defScope s_law_plain) s.heap.objs.size f (.ref c)).cells) ("_law_plain" ++ ".<locals>." ++ "<lambda>") [] List.nodup_nil
    have G := HG (lamOf lams_law_plain ("_law_plain" ++ ".<locals>." ++ "<lambda>") (PyProof.Rows.envOfC "_law_plain" (defScope s_law_plain) s.heap.objs.size f (.ref c)).cells) ("_law_plain" ++ ".<locals>." ++ "<lambda>") [] List.nodup_nil
    have L := lams_plain (S := S) (A0 := A) (outer0 := outer) (s0 := s) (H0 := H) (E0 := E) (f0 := f) (c := c) T G
    have TB : TbL base mg (plSg S (PyProof.Rows.envOfC "_law_plain" (defScope s_law_plain) s.heap.objs.size f (.ref c)).cells) c Pt := ⟨TBg.cd, TBg.bm, TBg.gP, TBg.mem, TBg.uni⟩
    have Td := Td (plSg S (PyProof.Rows.envOfC "_law_plain" (defScope s_law_plain) s.heap.objs.size f (.ref c)).cells) rfl
    obtain ⟨g_Strip_init, g_Strip_wide, g_Strip_at, g_Strip_moved, g_Strip_turned, g_Strip_left_right, g_Strip_up_down, g_Strip_has_level, g_Strip_period, g_Strip_mirrors, g_Strip_turns, g_Strip_slide, g_Strip_kind, g_Strip_shown, g_Strip_repeated, g_Strip_same, g_beside, g_made, g_has_at_least, g_all_strips, g_counted, g_unlike_ones, g_nearest, g_necklaces, g_bracelets, g_law_at, g_law_keeps, g_law_kind, g_law_dice, g_law_roll, g_law_rounds, g_law_has, g_law_beside, g_law_made, g_law_words, g_law_rings⟩ := G
    exact dss_cons (ds_set 0 cx.nd (de_lst (da_cons (de_lam 18 L TB rfl) (da_cons (de_lam 17 L TB rfl) (da_cons (de_lam 16 L TB rfl) (da_cons (de_lam 15 L TB rfl) (da_cons (de_lam 14 L TB rfl) (da_cons (de_lam 13 L TB rfl) (da_cons (de_lam 12 L TB rfl) (da_cons (de_lam 11 L TB rfl) (da_cons (de_lam 10 L TB rfl) (da_cons (de_lam 9 L TB rfl) (da_cons (de_lam 8 L TB rfl) (da_cons (de_lam 7 L TB rfl) (da_cons (de_lam 6 L TB rfl) (da_cons (de_lam 5 L TB rfl) (da_cons (de_lam 4 L TB rfl) (da_cons (de_lam 3 L TB rfl) (da_cons (de_lam 2 L TB rfl) (da_cons (de_lam 1 L TB rfl) (da_cons (de_lam 0 L TB rfl) (da_nil))))))))))))))))))))))
          (dss_one (ds_ret (de_and (de_cmp (op_eqD hr.units) hd_eq (de_lcT 1 Td L (hr.mono (by decide)) rfl cx.nd (di_seq (de_var 0)) rfl (blkOk_by (N := N_law_plain) (sc := defScope s_law_plain) (by decide +kernel)) (by decide +kernel) (fun _ _ _ _ _ => ⟨by first | exact Or.inl rfl | exact Or.inr rfl, by first | exact Or.inl rfl | exact Or.inr rfl, by first | exact Or.inl rfl | exact Or.inr (Or.inl rfl), rfl, rfl, rfl⟩)) (de_lst (da_nil))) (de_and (de_cmp (op_eqD hr.units) hd_eq (de_glob T.c_MOST_COUNTED) (de_int)) (de_and (de_cmp (op_eqD hr.units) hd_eq (de_call g_necklaces (hr.mono (by decide)) cx.ps (da_cons (de_int) (da_cons (de_int) (da_nil)))) (de_int)) (de_and (de_cmp (op_eqD hr.units) hd_eq (de_call g_bracelets (hr.mono (by decide)) cx.ps (da_cons (de_int) (da_cons (de_int) (da_nil)))) (de_int)) (de_and (de_cmp (op_eqD hr.units) hd_eq (de_fld T.f_0_0 (de_call g_made (hr.mono (by decide)) cx.ps (da_cons (de_lst (da_cons (de_str) (da_cons (de_str) (da_nil)))) (da_cons (de_str) (da_nil))))) (de_tup (da_cons (de_str) (da_cons (de_str) (da_nil))))) (de_one (de_cmp (op_eqD hr.units) hd_eq (de_call g_nearest (hr.mono (by decide)) cx.ps (da_cons (de_make g_Strip_init (hr.mono (by decide)) cx.ps (da_cons (de_lst (da_cons (de_str) (da_nil))) (da_nil))) (da_cons (de_str) (da_cons (de_str) (da_nil))))) (de_tup (da_cons (de_int) (da_cons (de_tup (da_cons (de_str) (da_nil))) (da_nil)))))))))))))
/-! ### law -/
abbrev s_law : Stmt := top 36
abbrev N_law : List Str := ["script", "kinds", "dice", "wide", "high", "kind", "rows", "strip", "other", "many", "signs", "whole", "one", "counts", "first", "seen", "images", "image", "mine", "near", "place", "beads", "colours", "y", "word", "row", "start", "x", "k", "a", "b"]
theorem sc_law : FnScope N_law ["script"] (defScope s_law) := ⟨rfl, rfl, rfl, by decide +kernel, rfl, by decide +kernel, by decide +kernel⟩
def lams_law : List LamE := []
def E_pre : E := eLst (aCons (eC (.str "hop")) (aCons (eC (.str "step")) (aCons (eC (.str "sidle")) (aCons (eC (.str "spinning hop")) (aCons (eC (.str "spinning sidle")) (aCons (eC (.str "jump")) (aCons (eC (.str "spinning jump")) (aNil))))))))
def strs_law : List Str := ["hop", "step", "sidle", "spinning hop", "spinning sidle", "jump", "spinning jump"]
def E_law : E := eFun 2 Fn_law_rounds (aCons (eVar 0) (aCons (eC (.int 1)) (aNil)))
def FB_law : SF := sSeq (sAsg (eTup (aCons (eOp dAdd (eC (.int 1)) (eFun 2 Fn_law_roll (aCons (eVar 2) (aCons (eC (.int 6)) (aNil))))) (aCons (eOp dAdd (eC (.int 1)) (eFun 2 Fn_law_roll (aCons (eVar 2) (aCons (eC (.int 4)) (aNil))))) (aCons (eIx (eVar 1) (eFun 2 Fn_law_roll (aCons (eVar 2) (aCons (eC (.int 7)) (aNil))))) (aNil))))) (tTup 3 (tsCons (tName 3) (tsCons (tName 4) (tsCons (tName 5) (tsNil))))))
      (sSeq (sSet 6 (eLc (iRng1 (aCons (eVar 4) (aNil))) (tName 23) (bYes) (eJoin (eC (.str "")) (eLc (iRng1 (aCons (eVar 3) (aNil))) (tName 27) (bYes) (eIx (eC (.str "ab.")) (eFun 2 Fn_law_roll (aCons (eVar 2) (aCons (eC (.int 3)) (aNil))))) [27])) [23]))
      (sSeq (sSet 7 (eFun 2 Fn_made (aCons (eVar 6) (aCons (eVar 5) (aNil)))))
      (sSeq (sIf (bOr (bOf (eOp dNe (eCall dList (aCons (eFld 0 0 (eVar 7)) (aNil))) (eFun 2 Fn_law_made (aCons (eVar 6) (aCons (eVar 5) (aNil)))))) (bOr (bNot (bOf (eFun 2 Fn_law_has (aCons (eFun 2 Fn_law_made (aCons (eVar 6) (aCons (eVar 5) (aNil)))) (aCons (eVar 5) (aNil)))))) (bNot (bOf (eFun 2 Fn_has_at_least (aCons (eVar 7) (aCons (eVar 5) (aNil)))))))) (sRet (eC (.bl false))) (sNil))
      (sSeq (sSet 8 (eIx (eVar 1) (eFun 2 Fn_law_roll (aCons (eVar 2) (aCons (eC (.int 7)) (aNil))))))
      (sSeq (sIf (bOf (eOp dNe (eFun 2 Fn_has_at_least (aCons (eVar 7) (aCons (eVar 8) (aNil)))) (eFun 2 Fn_law_has (aCons (eFun 2 Fn_law_made (aCons (eVar 6) (aCons (eVar 5) (aNil)))) (aCons (eVar 8) (aNil)))))) (sRet (eC (.bl false))) (sNil))
      (sSeq (sSet 9 (eOp dAdd (eC (.int 1)) (eFun 2 Fn_law_roll (aCons (eVar 2) (aCons (eC (.int 3)) (aNil))))))
      (sSeq (sIf (bOf (eOp dNe (eCall dList (aCons (eFld 0 0 (eFun 1 Fn_beside (aCons (eOp dMul (eLst (aCons (eFun 1 Fn_Strip_init (aCons (eVar 6) (aNil))) (aNil))) (eVar 9)) (aNil)))) (aNil))) (eLc (iSeq (eVar 6)) (tName 25) (bYes) (eOp dMul (eVar 25) (eVar 9)) [25]))) (sRet (eC (.bl false))) (sNil))
      (sSeq (sAsg (eIx (eLst (aCons (eTup (aCons (eC (.int 1)) (aCons (eC (.int 1)) (aNil)))) (aCons (eTup (aCons (eC (.int 2)) (aCons (eC (.int 1)) (aNil)))) (aCons (eTup (aCons (eC (.int 1)) (aCons (eC (.int 2)) (aNil)))) (aCons (eTup (aCons (eC (.int 2)) (aCons (eC (.int 2)) (aNil)))) (aCons (eTup (aCons (eC (.int 3)) (aCons (eC (.int 1)) (aNil)))) (aCons (eTup (aCons (eC (.int 3)) (aCons (eC (.int 2)) (aNil)))) (aCons (eTup (aCons (eC (.int 2)) (aCons (eC (.int 3)) (aNil)))) (aCons (eTup (aCons (eC (.int 4)) (aCons (eC (.int 1)) (aNil)))) (aNil)))))))))) (eFun 2 Fn_law_roll (aCons (eVar 2) (aCons (eC (.int 8)) (aNil))))) (tTup 2 (tsCons (tName 3) (tsCons (tName 4) (tsNil)))))
      (sSeq (sSet 10 (eIf (bOf (eOp dGt (eOp dMul (eVar 3) (eVar 4)) (eC (.int 4)))) (eSl (eC (.str "ab")) oNone (oSome (eOp dAdd (eC (.int 1)) (eFun 2 Fn_law_roll (aCons (eVar 2) (aCons (eC (.int 2)) (aNil))))))) (eSl (eC (.str "abc")) oNone (oSome (eOp dAdd (eC (.int 1)) (eFun 2 Fn_law_roll (aCons (eVar 2) (aCons (eC (.int 3)) (aNil)))))))))
      (sSeq (sSet 11 (eLc (iSeq (eFun 2 Fn_law_words (aCons (eVar 10) (aCons (eOp dMul (eVar 3) (eVar 4)) (aNil))))) (tName 24) (bYes) (eLc (iRng3E (aCons (eC (.int 0)) (aCons (eOp dMul (eVar 3) (eVar 4)) (aCons (eVar 3) (aNil))))) (tName 26) (bYes) (eSl (eVar 24) (oSome (eVar 26)) (oSome (eOp dAdd (eVar 26) (eVar 3)))) [26]) [24]))
      (sSeq (sOwnDict 13 (aCons (eLc (iSeq (eVar 1)) (tName 12) (bYes) (eTup (aCons (eVar 12) (aCons (eC (.int 0)) (aNil)))) [12]) (aNil)))
      (sSeq (sFor (iSeq (eVar 11)) (tName 12) (sPutO 13 (eOp dAdd (eGetO 13 (eFun 1 Fn_law_kind (aCons (eVar 12) (aNil)))) (eC (.int 1))) (eFun 1 Fn_law_kind (aCons (eVar 12) (aNil)))))
      (sSeq (sIf (bOr (bOf (eOp dNe (eLc (iSeq (eFun 3 Fn_all_strips (aCons (eVar 3) (aCons (eVar 4) (aCons (eVar 10) (aNil)))))) (tName 12) (bYes) (eCall dList (aCons (eFld 0 0 (eVar 12)) (aNil))) [12]) (eVar 11))) (bOf (eNeDO (eFun 3 Fn_counted (aCons (eVar 3) (aCons (eVar 4) (aCons (eVar 10) (aNil))))) 13))) (sRet (eC (.bl false))) (sNil))
      (sSeq (sPar 14 15 (aCons (eLst (aNil)) (aCons (eLst (aNil)) (aNil))))
      (sSeq (sFor (iSeq (eVar 11)) (tName 12) (sSeq (sSet 16 (eLst (aNil)))
      (sSeq (sFor (iSeq (eLst (aCons (eVar 12) (aCons (eRev (eVar 12)) (aCons (eLc (iSeq (eVar 12)) (tName 25) (bYes) (eRev (eVar 25)) [25]) (aCons (eLc (iSeq (eRev (eVar 12))) (tName 25) (bYes) (eRev (eVar 25)) [25]) (aNil))))))) (tName 17) (sSet 16 (eOp dAdd (eVar 16) (eLc (iRng1 (aCons (eVar 3) (aNil))) (tName 28) (bYes) (eLc (iSeq (eVar 17)) (tName 25) (bYes) (eOp dAdd (eSl (eVar 25) (oSome (eVar 28)) oNone) (eSl (eVar 25) oNone (oSome (eVar 28)))) [25]) [28]))))
      (sIf (bOf (eOp dNotInL (eVar 12) (eVar 15))) (sPar 14 15 (aCons (eOp dAdd (eVar 14) (eLst (aCons (eVar 12) (aNil)))) (aCons (eOp dAdd (eVar 15) (eVar 16)) (aNil)))) (sNil)))))
      (sSeq (sIf (bOf (eOp dNe (eLc (iSeq (eFun 3 Fn_unlike_ones (aCons (eVar 3) (aCons (eVar 4) (aCons (eVar 10) (aNil)))))) (tName 12) (bYes) (eCall dList (aCons (eFld 0 0 (eVar 12)) (aNil))) [12]) (eVar 14))) (sRet (eC (.bl false))) (sNil))
      (sSeq (sSet 18 (eIx (eVar 11) (eFun 2 Fn_law_roll (aCons (eVar 2) (aCons (eCall dLen (aCons (eVar 11) (aNil))) (aNil))))))
      (sSeq (sOwnL 19)
      (sSeq (sFor (iEnumE (aCons (eVar 11) (aNil))) (tTup 2 (tsCons (tName 20) (tsCons (tName 12) (tsNil)))) (sIf (bOf (eFun 2 Fn_law_has (aCons (eVar 12) (aCons (eVar 5) (aNil))))) (sAppend 19 (eTup (aCons (eCall dLen (aCons (eLc (iZipE (aCons (eJoin (eC (.str "")) (eVar 18)) (aCons (eJoin (eC (.str "")) (eVar 12)) (aNil)))) (tTup 2 (tsCons (tName 29) (tsCons (tName 30) (tsNil)))) (bOf (eOp dNe (eVar 29) (eVar 30))) (eC (.int 1)) [29, 30]) (aNil))) (aCons (eVar 20) (aCons (eCall dTuple (aCons (eVar 12) (aNil))) (aNil)))))) (sNil)))
      (sSeq (sIf (bOf (eOp dNe (eFun 3 Fn_nearest (aCons (eFun 1 Fn_Strip_init (aCons (eVar 18) (aNil))) (aCons (eVar 5) (aCons (eVar 10) (aNil))))) (eTup (aCons (eIx (eMinO 19) (eC (.int 0))) (aCons (eIx (eMinO 19) (eC (.int 2))) (aNil)))))) (sRet (eC (.bl false))) (sNil))
      (sSeq (sPar 21 22 (aCons (eOp dAdd (eC (.int 1)) (eFun 2 Fn_law_roll (aCons (eVar 2) (aCons (eC (.int 6)) (aNil))))) (aCons (eOp dAdd (eC (.int 1)) (eFun 2 Fn_law_roll (aCons (eVar 2) (aCons (eC (.int 3)) (aNil))))) (aNil))))
      (sIf (bOr (bOf (eOp dNe (eFun 2 Fn_necklaces (aCons (eVar 21) (aCons (eVar 22) (aNil)))) (eFun 3 Fn_law_rings (aCons (eVar 21) (aCons (eVar 22) (aCons (eC (.bl false)) (aNil))))))) (bOf (eOp dNe (eFun 2 Fn_bracelets (aCons (eVar 21) (aCons (eVar 22) (aNil)))) (eFun 3 Fn_law_rings (aCons (eVar 21) (aCons (eVar 22) (aCons (eC (.bl true)) (aNil)))))))) (sRet (eC (.bl false))) (sNil)))))))))))))))))))))))
def FR_law : SF := sRet (fun _ => Fn_law_plain [])
def lawSg (S : Sg) (cl : List (Str × Addr)) : Sg := { S with ρ := [], lamO := lamOf lams_law ("law" ++ ".<locals>." ++ "<lambda>") cl, lamQ := "law" ++ ".<locals>." ++ "<lambda>" }
theorem ok_law {P : Program} {w : World} {K : PySem.W.Frag} {mg : Str → Option Value} {base : Heap} {S : Sg} (HT : ∀ (lo : Nat → Addr → Addr → HO) (lq : Str) (ρ : List Addr), ρ.Nodup → Txt K mg { S with ρ := ρ, lamO := lo, lamQ := lq }) (HG : ∀ (lo : Nat → Addr → Addr → HO) (lq : Str) (ρ : List Addr), ρ.Nodup → All P w K mg base { S with ρ := ρ, lamO := lo, lamQ := lq }) {c Pt : Addr}  (HP : ∀ (lo : Nat → Addr → Addr → HO) (lq : Str) (ρ : List Addr), ρ.Nodup → GF P w K mg base { S with ρ := ρ, lamO := lo, lamQ := lq } "_law_plain" [] 12 Fn_law_plain) {f : Addr} {fd : FuncData} (Fu : FunT K "law" "law" s_law f fd c)
    (hw : ∀ ns : List Int, ns.length ≤ 63 → Dd.Good (E_law ((.v (.rol (ns.map .int)) :: Dd.nos (31 - 1)).set 1 (.v (Dd.strsD strs_law))) []) (fun d μ1 => μ1 = [] ∧ ∃ x y z : Int, d = .lst [.lst [.int x, .int y, .int z]] ∧ Dd.diceOk2 31 2 1 (Dd.strsD strs_law) FB_law FR_law (.lst [.int x, .int y, .int z])) (fun _ _ => False)) :
    FnOk P w K mg base (L2.CX P w) 13 f fd ["script"] (spL K S) :=
  law_ok2 (i := 2) (j := 1) (k := 12) (fk := E_pre) (ss := strs_law) (fun cl => lawSg S cl) (fun cl => ⟨rfl, rfl⟩) Fu sc_law rfl (by decide) (by decide) (by decide) (by decide) rfl (by first | exact Or.inl rfl | exact Or.inr rfl) (fun _ _ => rfl) hw fun A outer s H E hr => by
    have cx := ctx_of (P := P) (w := w) (K := K) (mg := mg) (base := base) (qual := "law") (scope := defScope s_law) (f := f) (cd := .ref c) (A := A) (outer := outer) (s := s) (H := H) (E := E) sc_law.nd
    refine ⟨?_, ?_, fun a => ?_, fun a => ?_, fun _ => rfl⟩
    · have T := HT (lamOf lams_law ("law" ++ ".<locals>." ++ "<lambda>") (PyProof.Rows.envOfC "law" (defScope s_law) s.heap.objs.size f (.ref c)).cells) ("law" ++ ".<locals>." ++ "<lambda>") [] List.nodup_nil
      exact ds_set 1 cx.nd (de_lst (da_cons (de_str) (da_cons (de_str) (da_cons (de_str) (da_cons (de_str) (da_cons (de_str) (da_cons (de_str) (da_cons (de_str) (da_nil)))))))))
    · have T := HT (lamOf lams_law ("law" ++ ".<locals>." ++ "<lambda>") (PyProof.Rows.envOfC "law" (defScope s_law) s.heap.objs.size f (.ref c)).cells) ("law" ++ ".<locals>." ++ "<lambda>") [] List.nodup_nil
      obtain ⟨g_Strip_init, g_Strip_wide, g_Strip_at, g_Strip_moved, g_Strip_turned, g_Strip_left_right, g_Strip_up_down, g_Strip_has_level, g_Strip_period, g_Strip_mirrors, g_Strip_turns, g_Strip_slide, g_Strip_kind, g_Strip_shown, g_Strip_repeated, g_Strip_same, g_beside, g_made, g_has_at_least, g_all_strips, g_counted, g_unlike_ones, g_nearest, g_necklaces, g_bracelets, g_law_at, g_law_keeps, g_law_kind, g_law_dice, g_law_roll, g_law_rounds, g_law_has, g_law_beside, g_law_made, g_law_words, g_law_rings⟩ := HG (lamOf lams_law ("law" ++ ".<locals>." ++ "<lambda>") (PyProof.Rows.envOfC "law" (defScope s_law) s.heap.objs.size f (.ref c)).cells) ("law" ++ ".<locals>." ++ "<lambda>") [] List.nodup_nil
      exact de_call g_law_rounds (hr.mono (by decide)) cx.ps (da_cons (de_var 0) (da_cons (de_int) (da_nil)))
    · have T := HT (lamOf lams_law ("law" ++ ".<locals>." ++ "<lambda>") (PyProof.Rows.envOfC "law" (defScope s_law) s.heap.objs.size f (.ref c)).cells) ("law" ++ ".<locals>." ++ "<lambda>") [a] (List.nodup_cons.mpr ⟨List.not_mem_nil, List.nodup_nil⟩)
      have G := HG (lamOf lams_law ("law" ++ ".<locals>." ++ "<lambda>") (PyProof.Rows.envOfC "law" (defScope s_law) s.heap.objs.size f (.ref c)).cells) ("law" ++ ".<locals>." ++ "<lambda>") [a] (List.nodup_cons.mpr ⟨List.not_mem_nil, List.nodup_nil⟩)
      have g_law_plain := HP (lamOf lams_law ("law" ++ ".<locals>." ++ "<lambda>") (PyProof.Rows.envOfC "law" (defScope s_law) s.heap.objs.size f (.ref c)).cells) ("law" ++ ".<locals>." ++ "<lambda>") [a] (List.nodup_cons.mpr ⟨List.not_mem_nil, List.nodup_nil⟩)
      obtain ⟨g_Strip_init, g_Strip_wide, g_Strip_at, g_Strip_moved, g_Strip_turned, g_Strip_left_right, g_Strip_up_down, g_Strip_has_level, g_Strip_period, g_Strip_mirrors, g_Strip_turns, g_Strip_slide, g_Strip_kind, g_Strip_shown, g_Strip_repeated, g_Strip_same, g_beside, g_made, g_has_at_least, g_all_strips, g_counted, g_unlike_ones, g_nearest, g_necklaces, g_bracelets, g_law_at, g_law_keeps, g_law_kind, g_law_dice, g_law_roll, g_law_rounds, g_law_has, g_law_beside, g_law_made, g_law_words, g_law_rings⟩ := G
      exact dss_cons (ds_asg (de_tup (da_cons (de_op op_addD hd_add (de_int) (de_call g_law_roll (hr.mono (by decide)) cx.ps (da_cons (de_var 2) (da_cons (de_int) (da_nil))))) (da_cons (de_op op_addD hd_add (de_int) (de_call g_law_roll (hr.mono (by decide)) cx.ps (da_cons (de_var 2) (da_cons (de_int) (da_nil))))) (da_cons (de_ix (de_var 1) (de_call g_law_roll (hr.mono (by decide)) cx.ps (da_cons (de_var 2) (da_cons (de_int) (da_nil))))) (da_nil))))) (dg_tup cx.calm (dgs_cons (dg_name 3 cx.nd) (dgs_cons (dg_name 4 cx.nd) (dgs_cons (dg_name 5 cx.nd) (dgs_nil))))))
          (dss_cons (ds_setLc 6 (own := [("y", 23)]) cx.calm cx.nd (sw_true rfl rfl rfl (by decide +kernel)) (di_range1 T.range (da_cons (de_var 4) (da_nil))) (blkOk_by (N := N_law) (sc := defScope s_law) (by decide +kernel)) (by decide) (fun _ _ _ _ _ => dg_name 23 cx.nd) (fun _ _ _ _ _ => dts_nil) (fun _ _ _ _ _ => de_join (de_str) (de_lc (own := [("x", 27)]) cx.calm cx.nd (di_range1 T.range (da_cons (de_var 3) (da_nil))) (blkOk_by (N := N_law) (sc := relS _ (defScope s_law)) (by decide +kernel)) (by decide) (fun _ _ _ _ _ => dg_name 27 cx.nd) (fun _ _ _ _ _ => dts_nil) (fun _ _ _ _ _ => de_ix (de_str) (de_call g_law_roll (hr.mono (by decide)) passB (da_cons (de_var 2) (da_cons (de_int) (da_nil))))))))
          (dss_cons (ds_set 7 cx.nd (de_call g_made (hr.mono (by decide)) cx.ps (da_cons (de_var 6) (da_cons (de_var 5) (da_nil)))))
          (dss_cons (ds_if (dt_w (dw_or (dt_cmp (op_neD hr.units) hd_ne (de_callTy call_list_of hd_list T.list (by decide +kernel) (da_cons (de_fld T.f_0_0 (de_var 7)) (da_nil))) (de_call g_law_made (hr.mono (by decide)) cx.ps (da_cons (de_var 6) (da_cons (de_var 5) (da_nil))))) (dw_or (dt_not (dt_val (de_call g_law_has (hr.mono (by decide)) cx.ps (da_cons (de_call g_law_made (hr.mono (by decide)) cx.ps (da_cons (de_var 6) (da_cons (de_var 5) (da_nil)))) (da_cons (de_var 5) (da_nil)))))) (dw_or1 (dt_not (dt_val (de_call g_has_at_least (hr.mono (by decide)) cx.ps (da_cons (de_var 7) (da_cons (de_var 5) (da_nil)))))))))) (dss_one (ds_ret (de_bl))) (dss_nil))
          (dss_cons (ds_set 8 cx.nd (de_ix (de_var 1) (de_call g_law_roll (hr.mono (by decide)) cx.ps (da_cons (de_var 2) (da_cons (de_int) (da_nil))))))
          (dss_cons (ds_if (dt_cmp (op_neD hr.units) hd_ne (de_call g_has_at_least (hr.mono (by decide)) cx.ps (da_cons (de_var 7) (da_cons (de_var 8) (da_nil)))) (de_call g_law_has (hr.mono (by decide)) cx.ps (da_cons (de_call g_law_made (hr.mono (by decide)) cx.ps (da_cons (de_var 6) (da_cons (de_var 5) (da_nil)))) (da_cons (de_var 8) (da_nil))))) (dss_one (ds_ret (de_bl))) (dss_nil))
          (dss_cons (ds_set 9 cx.nd (de_op op_addD hd_add (de_int) (de_call g_law_roll (hr.mono (by decide)) cx.ps (da_cons (de_var 2) (da_cons (de_int) (da_nil))))))
          (dss_cons (ds_if (dt_cmp (op_neD hr.units) hd_ne (de_callTy call_list_of hd_list T.list (by decide +kernel) (da_cons (de_fld T.f_0_0 (de_call g_beside (hr.mono (by decide)) cx.ps (da_cons (de_op op_mulD hd_mul (de_lst (da_cons (de_make g_Strip_init (hr.mono (by decide)) cx.ps (da_cons (de_var 6) (da_nil))) (da_nil))) (de_var 9)) (da_nil)))) (da_nil))) (de_lc (own := [("row", 25)]) cx.calm cx.nd (di_seq (de_var 6)) (blkOk_by (N := N_law) (sc := defScope s_law) (by decide +kernel)) (by decide) (fun _ _ _ _ _ => dg_name 25 cx.nd) (fun _ _ _ _ _ => dts_nil) (fun _ _ _ _ _ => de_op op_mulD hd_mul (de_var 25) (de_var 9)))) (dss_one (ds_ret (de_bl))) (dss_nil))
          (dss_cons (ds_asg (de_ix (de_lst (da_cons (de_tup (da_cons (de_int) (da_cons (de_int) (da_nil)))) (da_cons (de_tup (da_cons (de_int) (da_cons (de_int) (da_nil)))) (da_cons (de_tup (da_cons (de_int) (da_cons (de_int) (da_nil)))) (da_cons (de_tup (da_cons (de_int) (da_cons (de_int) (da_nil)))) (da_cons (de_tup (da_cons (de_int) (da_cons (de_int) (da_nil)))) (da_cons (de_tup (da_cons (de_int) (da_cons (de_int) (da_nil)))) (da_cons (de_tup (da_cons (de_int) (da_cons (de_int) (da_nil)))) (da_cons (de_tup (da_cons (de_int) (da_cons (de_int) (da_nil)))) (da_nil)))))))))) (de_call g_law_roll (hr.mono (by decide)) cx.ps (da_cons (de_var 2) (da_cons (de_int) (da_nil))))) (dg_tup cx.calm (dgs_cons (dg_name 3 cx.nd) (dgs_cons (dg_name 4 cx.nd) (dgs_nil)))))
          (dss_cons (ds_set 10 cx.nd (de_if (dt_cmp op_gt hd_cmp (de_op op_mulD hd_mul (de_var 3) (de_var 4)) (de_int)) (de_sl (de_str) do_none (do_some (de_op op_addD hd_add (de_int) (de_call g_law_roll (hr.mono (by decide)) cx.ps (da_cons (de_var 2) (da_cons (de_int) (da_nil))))))) (de_sl (de_str) do_none (do_some (de_op op_addD hd_add (de_int) (de_call g_law_roll (hr.mono (by decide)) cx.ps (da_cons (de_var 2) (da_cons (de_int) (da_nil)))))))))
          (dss_cons (ds_setLc 11 (own := [("word", 24)]) cx.calm cx.nd (sw_true rfl rfl rfl (by decide +kernel)) (di_seq (de_call g_law_words (hr.mono (by decide)) cx.ps (da_cons (de_var 10) (da_cons (de_op op_mulD hd_mul (de_var 3) (de_var 4)) (da_nil))))) (blkOk_by (N := N_law) (sc := defScope s_law) (by decide +kernel)) (by decide) (fun _ _ _ _ _ => dg_name 24 cx.nd) (fun _ _ _ _ _ => dts_nil) (fun _ _ _ _ _ => de_lc (own := [("start", 26)]) cx.calm cx.nd (di_range3 T.range (da_cons (de_int) (da_cons (de_op op_mulD hd_mul (de_var 3) (de_var 4)) (da_cons (de_var 3) (da_nil))))) (blkOk_by (N := N_law) (sc := relS _ (defScope s_law)) (by decide +kernel)) (by decide) (fun _ _ _ _ _ => dg_name 26 cx.nd) (fun _ _ _ _ _ => dts_nil) (fun _ _ _ _ _ => de_sl (de_var 24) (do_some (de_var 26)) (do_some (de_op op_addD hd_add (de_var 26) (de_var 3))))))
          (dss_cons (ds_ownDict 13 rfl cx.nd (da_cons (de_lc (own := [("one", 12)]) cx.calm cx.nd (di_seq (de_var 1)) (blkOk_by (N := N_law) (sc := defScope s_law) (by decide +kernel)) (by decide) (fun _ _ _ _ _ => dg_name 12 cx.nd) (fun _ _ _ _ _ => dts_nil) (fun _ _ _ _ _ => de_tup (da_cons (de_var 12) (da_cons (de_int) (da_nil))))) (da_nil)) T.dict (by decide +kernel))
          (dss_cons (ds_for cx.po cx.calm (di_seq (de_var 11)) (dg_name 12 cx.nd) (dss_one (ds_putO 13 hr.units (de_op op_addD hd_add (de_getO 13 hr.units (de_call g_law_kind (hr.mono (by decide)) cx.ps (da_cons (de_var 12) (da_nil)))) (de_int)) (de_call g_law_kind (hr.mono (by decide)) cx.ps (da_cons (de_var 12) (da_nil))))))
          (dss_cons (ds_if (dt_w (dw_or (dt_cmp (op_neD hr.units) hd_ne (de_lc (own := [("one", 12)]) cx.calm cx.nd (di_seq (de_call g_all_strips (hr.mono (by decide)) cx.ps (da_cons (de_var 3) (da_cons (de_var 4) (da_cons (de_var 10) (da_nil)))))) (blkOk_by (N := N_law) (sc := defScope s_law) (by decide +kernel)) (by decide) (fun _ _ _ _ _ => dg_name 12 cx.nd) (fun _ _ _ _ _ => dts_nil) (fun _ _ _ _ _ => de_callTy call_list_of hd_list T.list (by decide +kernel) (da_cons (de_fld T.f_0_0 (de_var 12)) (da_nil)))) (de_var 11)) (dw_or1 (dt_neDO 13 hr.units (de_call g_counted (hr.mono (by decide)) cx.ps (da_cons (de_var 3) (da_cons (de_var 4) (da_cons (de_var 10) (da_nil))))))))) (dss_one (ds_ret (de_bl))) (dss_nil))
          (dss_cons (ds_par 14 15 cx.calm cx.nd (da_cons (de_lst (da_nil)) (da_cons (de_lst (da_nil)) (da_nil))))
          (dss_cons (ds_for cx.po cx.calm (di_seq (de_var 11)) (dg_name 12 cx.nd) (dss_cons (ds_set 16 cx.nd (de_lst (da_nil)))
          (dss_cons (ds_for cx.po cx.calm (di_seq (de_lst (da_cons (de_var 12) (da_cons (de_rev (de_var 12)) (da_cons (de_lc (own := [("row", 25)]) cx.calm cx.nd (di_seq (de_var 12)) (blkOk_by (N := N_law) (sc := defScope s_law) (by decide +kernel)) (by decide) (fun _ _ _ _ _ => dg_name 25 cx.nd) (fun _ _ _ _ _ => dts_nil) (fun _ _ _ _ _ => de_rev (de_var 25))) (da_cons (de_lc (own := [("row", 25)]) cx.calm cx.nd (di_seq (de_rev (de_var 12))) (blkOk_by (N := N_law) (sc := defScope s_law) (by decide +kernel)) (by decide) (fun _ _ _ _ _ => dg_name 25 cx.nd) (fun _ _ _ _ _ => dts_nil) (fun _ _ _ _ _ => de_rev (de_var 25))) (da_nil))))))) (dg_name 17 cx.nd) (dss_one (ds_set 16 cx.nd (de_op op_addD hd_add (de_var 16) (de_lc (own := [("k", 28)]) cx.calm cx.nd (di_range1 T.range (da_cons (de_var 3) (da_nil))) (blkOk_by (N := N_law) (sc := defScope s_law) (by decide +kernel)) (by decide) (fun _ _ _ _ _ => dg_name 28 cx.nd) (fun _ _ _ _ _ => dts_nil) (fun _ _ _ _ _ => de_lc (own := [("row", 25)]) cx.calm cx.nd (di_seq (de_var 17)) (blkOk_by (N := N_law) (sc := relS _ (defScope s_law)) (by decide +kernel)) (by decide) (fun _ _ _ _ _ => dg_name 25 cx.nd) (fun _ _ _ _ _ => dts_nil) (fun _ _ _ _ _ => de_op op_addD hd_add (de_sl (de_var 25) (do_some (de_var 28)) do_none) (de_sl (de_var 25) do_none (do_some (de_var 28))))))))))
          (dss_one (ds_if (dt_cmp (op_notInD (un65 hr)) hd_notInL (de_var 12) (de_var 15)) (dss_one (ds_par 14 15 cx.calm cx.nd (da_cons (de_op op_addD hd_add (de_var 14) (de_lst (da_cons (de_var 12) (da_nil)))) (da_cons (de_op op_addD hd_add (de_var 15) (de_var 16)) (da_nil))))) (dss_nil))))))
          (dss_cons (ds_if (dt_cmp (op_neD hr.units) hd_ne (de_lc (own := [("one", 12)]) cx.calm cx.nd (di_seq (de_call g_unlike_ones (hr.mono (by decide)) cx.ps (da_cons (de_var 3) (da_cons (de_var 4) (da_cons (de_var 10) (da_nil)))))) (blkOk_by (N := N_law) (sc := defScope s_law) (by decide +kernel)) (by decide) (fun _ _ _ _ _ => dg_name 12 cx.nd) (fun _ _ _ _ _ => dts_nil) (fun _ _ _ _ _ => de_callTy call_list_of hd_list T.list (by decide +kernel) (da_cons (de_fld T.f_0_0 (de_var 12)) (da_nil)))) (de_var 14)) (dss_one (ds_ret (de_bl))) (dss_nil))
          (dss_cons (ds_set 18 cx.nd (de_ix (de_var 11) (de_call g_law_roll (hr.mono (by decide)) cx.ps (da_cons (de_var 2) (da_cons (de_callB call_len hd_len T.len (by decide +kernel) (da_cons (de_var 11) (da_nil))) (da_nil))))))
          (dss_cons (ds_ownL 19 cx.nd)
          (dss_cons (ds_for cx.po cx.calm (di_enum T.enumerate (da_cons (de_var 11) (da_nil))) (dg_tup cx.calm (dgs_cons (dg_name 20 cx.nd) (dgs_cons (dg_name 12 cx.nd) (dgs_nil)))) (dss_one (ds_if (dt_val (de_call g_law_has (hr.mono (by decide)) cx.ps (da_cons (de_var 12) (da_cons (de_var 5) (da_nil))))) (dss_one (ds_append 19 (de_tup (da_cons (de_callB call_len hd_len T.len (by decide +kernel) (da_cons (de_lc (own := [("a", 29), ("b", 30)]) cx.calm cx.nd (di_zipB T.zip (da_cons (de_join (de_str) (de_var 18)) (da_cons (de_join (de_str) (de_var 12)) (da_nil)))) (blkOk_by (N := N_law) (sc := defScope s_law) (by decide +kernel)) (by decide) (fun _ _ _ _ _ => dg_tup cx.calm (dgs_cons (dg_name 29 cx.nd) (dgs_cons (dg_name 30 cx.nd) (dgs_nil)))) (fun _ _ _ _ _ => dts_one (dt_cmp (op_neD hr.units) hd_ne (de_var 29) (de_var 30))) (fun _ _ _ _ _ => de_int)) (da_nil))) (da_cons (de_var 20) (da_cons (de_callTy call_tuple_of hd_tuple T.tuple (by decide +kernel) (da_cons (de_var 12) (da_nil))) (da_nil))))))) (dss_nil))))
          (dss_cons (ds_if (dt_cmp (op_neD hr.units) hd_ne (de_call g_nearest (hr.mono (by decide)) cx.ps (da_cons (de_make g_Strip_init (hr.mono (by decide)) cx.ps (da_cons (de_var 18) (da_nil))) (da_cons (de_var 5) (da_cons (de_var 10) (da_nil))))) (de_tup (da_cons (de_ix (de_minO 19 hr.units rfl T.min (by decide +kernel)) (de_int)) (da_cons (de_ix (de_minO 19 hr.units rfl T.min (by decide +kernel)) (de_int)) (da_nil))))) (dss_one (ds_ret (de_bl))) (dss_nil))
          (dss_cons (ds_par 21 22 cx.calm cx.nd (da_cons (de_op op_addD hd_add (de_int) (de_call g_law_roll (hr.mono (by decide)) cx.ps (da_cons (de_var 2) (da_cons (de_int) (da_nil))))) (da_cons (de_op op_addD hd_add (de_int) (de_call g_law_roll (hr.mono (by decide)) cx.ps (da_cons (de_var 2) (da_cons (de_int) (da_nil))))) (da_nil))))
          (dss_one (ds_if (dt_w (dw_or (dt_cmp (op_neD hr.units) hd_ne (de_call g_necklaces (hr.mono (by decide)) cx.ps (da_cons (de_var 21) (da_cons (de_var 22) (da_nil)))) (de_call g_law_rings (hr.mono (by decide)) cx.ps (da_cons (de_var 21) (da_cons (de_var 22) (da_cons (de_bl) (da_nil)))))) (dw_or1 (dt_cmp (op_neD hr.units) hd_ne (de_call g_bracelets (hr.mono (by decide)) cx.ps (da_cons (de_var 21) (da_cons (de_var 22) (da_nil)))) (de_call g_law_rings (hr.mono (by decide)) cx.ps (da_cons (de_var 21) (da_cons (de_var 22) (da_cons (de_bl) (da_nil))))))))) (dss_one (ds_ret (de_bl))) (dss_nil))))))))))))))))))))))))
    · have T := HT (lamOf lams_law ("law" ++ ".<locals>." ++ "<lambda>") (PyProof.Rows.envOfC "law" (defScope s_law) s.heap.objs.size f (.ref c)).cells) ("law" ++ ".<locals>." ++ "<lambda>") [a] (List.nodup_cons.mpr ⟨List.not_mem_nil, List.nodup_nil⟩)
      have G := HG (lamOf lams_law ("law" ++ ".<locals>." ++ "<lambda>") (PyProof.Rows.envOfC "law" (defScope s_law) s.heap.objs.size f (.ref c)).cells) ("law" ++ ".<locals>." ++ "<lambda>") [a] (List.nodup_cons.mpr ⟨List.not_mem_nil, List.nodup_nil⟩)
      have g_law_plain := HP (lamOf lams_law ("law" ++ ".<locals>." ++ "<lambda>") (PyProof.Rows.envOfC "law" (defScope s_law) s.heap.objs.size f (.ref c)).cells) ("law" ++ ".<locals>." ++ "<lambda>") [a] (List.nodup_cons.mpr ⟨List.not_mem_nil, List.nodup_nil⟩)
      obtain ⟨g_Strip_init, g_Strip_wide, g_Strip_at, g_Strip_moved, g_Strip_turned, g_Strip_left_right, g_Strip_up_down, g_Strip_has_level, g_Strip_period, g_Strip_mirrors, g_Strip_turns, g_Strip_slide, g_Strip_kind, g_Strip_shown, g_Strip_repeated, g_Strip_same, g_beside, g_made, g_has_at_least, g_all_strips, g_counted, g_unlike_ones, g_nearest, g_necklaces, g_bracelets, g_law_at, g_law_keeps, g_law_kind, g_law_dice, g_law_roll, g_law_rounds, g_law_has, g_law_beside, g_law_made, g_law_words, g_law_rings⟩ := G
      exact dss_one (ds_ret (de_call0 g_law_plain (hr.mono (by decide)) cx.ps))
end K1
namespace K1
open PySem PySem.Spec L2 Dd PyProof.Rows
def faL : List He.Fa := [.free "len", .free "range", .free "tuple", .free "list", .free "int", .free "abs", .free "any", .free "zip", .free "dict", .free "min", .free "enumerate", .int "MOST_WIDE" 24, .int "MOST_HIGH" 8, .glo "KINDS_OF_STRIPS", .int "MOST_COUNTED" 5000, .cls "Strip", .glo "Strip", .mkr "Strip", .noat "Strip" "rows", .meth "Strip" "wide", .meth "Strip" "at", .meth "Strip" "moved", .meth "Strip" "turned", .meth "Strip" "left_right", .meth "Strip" "up_down", .meth "Strip" "has_level", .meth "Strip" "period", .meth "Strip" "mirrors", .meth "Strip" "turns", .meth "Strip" "slide", .meth "Strip" "kind", .meth "Strip" "shown", .meth "Strip" "repeated", .meth "Strip" "same", .glo "beside", .glo "made", .glo "has_at_least", .glo "all_strips", .glo "counted", .glo "unlike_ones", .glo "nearest", .glo "necklaces", .glo "bracelets", .glo "_law_at", .glo "_law_keeps", .glo "_law_kind", .glo "_law_dice", .glo "_law_roll", .glo "_law_rounds", .glo "_law_has", .glo "_law_beside", .glo "_law_made", .glo "_law_words", .glo "_law_rings", .glo "_law_plain", .glo "law", .glo "_law_told", .glo "FriezeError", .exc "FriezeError", .glo "StripError", .exc "StripError", .glo "MakingError", .exc "MakingError", .glo "CountError", .exc "CountError", .exm "StripError" "FriezeError" true, .exm "MakingError" "FriezeError" true, .exm "CountError" "FriezeError" true]
def d_Strip_init : He.DefD := ⟨("Strip", some "__init__"), "__init__", "Strip.__init__", defArgs s_Strip_init, defBody s_Strip_init, defScope s_Strip_init, [], []⟩
def d_Strip_wide : He.DefD := ⟨("Strip", some "wide"), "wide", "Strip.wide", defArgs s_Strip_wide, defBody s_Strip_wide, defScope s_Strip_wide, [], []⟩
def d_Strip_at : He.DefD := ⟨("Strip", some "at"), "at", "Strip.at", defArgs s_Strip_at, defBody s_Strip_at, defScope s_Strip_at, [], []⟩
def d_Strip_moved : He.DefD := ⟨("Strip", some "moved"), "moved", "Strip.moved", defArgs s_Strip_moved, defBody s_Strip_moved, defScope s_Strip_moved, [], []⟩
def d_Strip_turned : He.DefD := ⟨("Strip", some "turned"), "turned", "Strip.turned", defArgs s_Strip_turned, defBody s_Strip_turned, defScope s_Strip_turned, [], []⟩
def d_Strip_left_right : He.DefD := ⟨("Strip", some "left_right"), "left_right", "Strip.left_right", defArgs s_Strip_left_right, defBody s_Strip_left_right, defScope s_Strip_left_right, [], []⟩
def d_Strip_up_down : He.DefD := ⟨("Strip", some "up_down"), "up_down", "Strip.up_down", defArgs s_Strip_up_down, defBody s_Strip_up_down, defScope s_Strip_up_down, [], []⟩
def d_Strip_has_level : He.DefD := ⟨("Strip", some "has_level"), "has_level", "Strip.has_level", defArgs s_Strip_has_level, defBody s_Strip_has_level, defScope s_Strip_has_level, [], []⟩
def d_Strip_period : He.DefD := ⟨("Strip", some "period"), "period", "Strip.period", defArgs s_Strip_period, defBody s_Strip_period, defScope s_Strip_period, [], []⟩
def d_Strip_mirrors : He.DefD := ⟨("Strip", some "mirrors"), "mirrors", "Strip.mirrors", defArgs s_Strip_mirrors, defBody s_Strip_mirrors, defScope s_Strip_mirrors, [], []⟩
def d_Strip_turns : He.DefD := ⟨("Strip", some "turns"), "turns", "Strip.turns", defArgs s_Strip_turns, defBody s_Strip_turns, defScope s_Strip_turns, [], []⟩
def d_Strip_slide : He.DefD := ⟨("Strip", some "slide"), "slide", "Strip.slide", defArgs s_Strip_slide, defBody s_Strip_slide, defScope s_Strip_slide, [], []⟩
def d_Strip_kind : He.DefD := ⟨("Strip", some "kind"), "kind", "Strip.kind", defArgs s_Strip_kind, defBody s_Strip_kind, defScope s_Strip_kind, [], []⟩
def d_Strip_shown : He.DefD := ⟨("Strip", some "shown"), "shown", "Strip.shown", defArgs s_Strip_shown, defBody s_Strip_shown, defScope s_Strip_shown, [], []⟩
def d_Strip_repeated : He.DefD := ⟨("Strip", some "repeated"), "repeated", "Strip.repeated", defArgs s_Strip_repeated, defBody s_Strip_repeated, defScope s_Strip_repeated, [], []⟩
def d_Strip_same : He.DefD := ⟨("Strip", some "same"), "same", "Strip.same", defArgs s_Strip_same, defBody s_Strip_same, defScope s_Strip_same, [], []⟩
def d_beside : He.DefD := ⟨("beside", none), "beside", "beside", defArgs s_beside, defBody s_beside, defScope s_beside, [], []⟩
def d_made : He.DefD := ⟨("made", none), "made", "made", defArgs s_made, defBody s_made, defScope s_made, [], []⟩
def d_has_at_least : He.DefD := ⟨("has_at_least", none), "has_at_least", "has_at_least", defArgs s_has_at_least, defBody s_has_at_least, defScope s_has_at_least, [], []⟩
def d_all_strips : He.DefD := ⟨("all_strips", none), "all_strips", "all_strips", defArgs s_all_strips, defBody s_all_strips, defScope s_all_strips, [], []⟩
def d_counted : He.DefD := ⟨("counted", none), "counted", "counted", defArgs s_counted, defBody s_counted, defScope s_counted, [], []⟩
def d_unlike_ones : He.DefD := ⟨("unlike_ones", none), "unlike_ones", "unlike_ones", defArgs s_unlike_ones, defBody s_unlike_ones, defScope s_unlike_ones, [], []⟩
def d_nearest : He.DefD := ⟨("nearest", none), "nearest", "nearest", defArgs s_nearest, defBody s_nearest, defScope s_nearest, [], []⟩
def d_necklaces : He.DefD := ⟨("necklaces", none), "necklaces", "necklaces", defArgs s_necklaces, defBody s_necklaces, defScope s_necklaces, [], []⟩
def d_bracelets : He.DefD := ⟨("bracelets", none), "bracelets", "bracelets", defArgs s_bracelets, defBody s_bracelets, defScope s_bracelets, [], []⟩
def d_law_at : He.DefD := ⟨("_law_at", none), "_law_at", "_law_at", defArgs s_law_at, defBody s_law_at, defScope s_law_at, [], []⟩
def d_law_keeps : He.DefD := ⟨("_law_keeps", none), "_law_keeps", "_law_keeps", defArgs s_law_keeps, defBody s_law_keeps, defScope s_law_keeps, [], []⟩
def d_law_kind : He.DefD := ⟨("_law_kind", none), "_law_kind", "_law_kind", defArgs s_law_kind, defBody s_law_kind, defScope s_law_kind, [], []⟩
def d_law_dice : He.DefD := ⟨("_law_dice", none), "_law_dice", "_law_dice", defArgs s_law_dice, defBody s_law_dice, defScope s_law_dice, [], []⟩
def d_law_roll : He.DefD := ⟨("_law_roll", none), "_law_roll", "_law_roll", defArgs s_law_roll, defBody s_law_roll, defScope s_law_roll, [], []⟩
def d_law_rounds : He.DefD := ⟨("_law_rounds", none), "_law_rounds", "_law_rounds", defArgs s_law_rounds, defBody s_law_rounds, defScope s_law_rounds, [], []⟩
def d_law_has : He.DefD := ⟨("_law_has", none), "_law_has", "_law_has", defArgs s_law_has, defBody s_law_has, defScope s_law_has, [], []⟩
def d_law_beside : He.DefD := ⟨("_law_beside", none), "_law_beside", "_law_beside", defArgs s_law_beside, defBody s_law_beside, defScope s_law_beside, [], []⟩
def d_law_made : He.DefD := ⟨("_law_made", none), "_law_made", "_law_made", defArgs s_law_made, defBody s_law_made, defScope s_law_made, [], []⟩
def d_law_words : He.DefD := ⟨("_law_words", none), "_law_words", "_law_words", defArgs s_law_words, defBody s_law_words, defScope s_law_words, [], []⟩
def d_law_rings : He.DefD := ⟨("_law_rings", none), "_law_rings", "_law_rings", defArgs s_law_rings, defBody s_law_rings, defScope s_law_rings, [], []⟩
def d_law_told : He.DefD := ⟨("_law_told", none), "_law_told", "_law_told", defArgs s_told, defBody s_told, defScope s_told, [], []⟩
def d_law_plain : He.DefD := ⟨("_law_plain", none), "_law_plain", "_law_plain", defArgs s_law_plain, defBody s_law_plain, defScope s_law_plain, [], []⟩
def d_law : He.DefD := ⟨("law", none), "law", "law", defArgs s_law, defBody s_law, defScope s_law, [], []⟩
def fnL : List He.DefD := [d_Strip_init, d_Strip_wide, d_Strip_at, d_Strip_moved, d_Strip_turned, d_Strip_left_right, d_Strip_up_down, d_Strip_has_level, d_Strip_period, d_Strip_mirrors, d_Strip_turns, d_Strip_slide, d_Strip_kind, d_Strip_shown, d_Strip_repeated, d_Strip_same, d_beside, d_made, d_has_at_least, d_all_strips, d_counted, d_unlike_ones, d_nearest, d_necklaces, d_bracelets, d_law_at, d_law_keeps, d_law_kind, d_law_dice, d_law_roll, d_law_rounds, d_law_has, d_law_beside, d_law_made, d_law_words, d_law_rings, d_law_told, d_law_plain, d_law]
def tfL : List He.Defn := [("Strip", some "__init__"), ("beside", none), ("all_strips", none), ("unlike_ones", none), ("_law_plain", none)]
def exL (K : PySem.W.Frag) : Bool := (He.tupB K "KINDS_OF_STRIPS" [.str "hop", .str "step", .str "sidle", .str "spinning hop", .str "spinning sidle", .str "jump", .str "spinning jump"]) && ((!decide ((He.cT K ("beside", none)).2 = (He.cT K ("Strip", some "__init__")).2)) && ((!decide ((He.cT K ("all_strips", none)).2 = (He.cT K ("Strip", some "__init__")).2)) && ((!decide ((He.cT K ("all_strips", none)).2 = (He.cT K ("beside", none)).2)) && ((!decide ((He.cT K ("unlike_ones", none)).2 = (He.cT K ("Strip", some "__init__")).2)) && ((!decide ((He.cT K ("unlike_ones", none)).2 = (He.cT K ("beside", none)).2)) && ((!decide ((He.cT K ("unlike_ones", none)).2 = (He.cT K ("all_strips", none)).2)) && ((!decide ((He.cT K ("_law_plain", none)).2 = (He.cT K ("Strip", some "__init__")).2)) && ((!decide ((He.cT K ("_law_plain", none)).2 = (He.cT K ("beside", none)).2)) && ((!decide ((He.cT K ("_law_plain", none)).2 = (He.cT K ("all_strips", none)).2)) && ((!decide ((He.cT K ("_law_plain", none)).2 = (He.cT K ("unlike_ones", none)).2)) && (true)))))))))))
def caL (K : PySem.W.Frag) : Nat → Addr
  | 0 => He.ga K "Strip"
  | _ => 0
def fieldsL : Nat → List Str
  | 0 => [("rows" : Str)]
  | _ => []
def exnL (K : PySem.W.Frag) : Nat → Addr
  | 0 => He.ga K "FriezeError"
  | 1 => He.ga K "StripError"
  | 2 => He.ga K "MakingError"
  | 3 => He.ga K "CountError"
  | _ => 0
def Sk (K : PySem.W.Frag) : Sg := ⟨[((He.cT K ("Strip", some "__init__")).2, none), ((He.cT K ("beside", none)).2, none), ((He.cT K ("all_strips", none)).2, none), ((He.cT K ("unlike_ones", none)).2, none), ((He.cT K ("_law_plain", none)).2, some (("_law_plain" : Str) ++ ".<locals>." ++ "<lambda>"))], [], caL K, fieldsL, exnL K, fun _ _ _ => .lst [], ""⟩
theorem txt_ok {K : PySem.W.Frag} {w : World} {h : Heap} {mg : Str → Option Value} (X : K.In h) (G : h.Ns mainGlobals mg) (c : He.SaysX faL fnL [] tfL exL w h K) (lo : Nat → Addr → Addr → HO) (lq : Str) (ρ : List Addr) (hρ : ρ.Nodup) : Txt K mg { Sk K with ρ := ρ, lamO := lo, lamQ := lq } := by
  have hx := c.more
  obtain ⟨e0, hx⟩ := He.ba hx
  obtain ⟨e1, hx⟩ := He.ba hx
  obtain ⟨e2, hx⟩ := He.ba hx
  obtain ⟨e3, hx⟩ := He.ba hx
  obtain ⟨e4, hx⟩ := He.ba hx
  obtain ⟨e5, hx⟩ := He.ba hx
  obtain ⟨e6, hx⟩ := He.ba hx
  obtain ⟨e7, hx⟩ := He.ba hx
  obtain ⟨e8, hx⟩ := He.ba hx
  obtain ⟨e9, hx⟩ := He.ba hx
  obtain ⟨e10, hx⟩ := He.ba hx
  exact ⟨hρ,
    He.free_ok X G (c.t.d.fact 0 rfl),
    He.free_ok X G (c.t.d.fact 1 rfl),
    He.free_ok X G (c.t.d.fact 2 rfl),
    He.free_ok X G (c.t.d.fact 3 rfl),
    He.free_ok X G (c.t.d.fact 4 rfl),
    He.free_ok X G (c.t.d.fact 5 rfl),
    He.free_ok X G (c.t.d.fact 6 rfl),
    He.free_ok X G (c.t.d.fact 7 rfl),
    He.free_ok X G (c.t.d.fact 8 rfl),
    He.free_ok X G (c.t.d.fact 9 rfl),
    He.free_ok X G (c.t.d.fact 10 rfl),
    (let ⟨t, e⟩ := He.int_ok X G (c.t.d.fact 11 rfl); ⟨V.int 24, _, e, ⟨t, rfl⟩, fun S H => .int _⟩),
    (let ⟨t, e⟩ := He.int_ok X G (c.t.d.fact 12 rfl); ⟨V.int 8, _, e, ⟨t, rfl⟩, fun S H => .int _⟩),
    ⟨.ref _, _, He.glo_ok X G (c.t.d.fact 13 rfl), rfl, fun S H => .tup (He.tupB_ok e0 H) (by rw [sizeLine_def]; exact (show 7 ≤ 16777216 by decide)) (.cons (.str _ (by decide +kernel) (by decide +kernel)) (.cons (.str _ (by decide +kernel) (by decide +kernel)) (.cons (.str _ (by decide +kernel) (by decide +kernel)) (.cons (.str _ (by decide +kernel) (by decide +kernel)) (.cons (.str _ (by decide +kernel) (by decide +kernel)) (.cons (.str _ (by decide +kernel) (by decide +kernel)) (.cons (.str _ (by decide +kernel) (by decide +kernel)) (.nil))))))))⟩,
    (let ⟨t, e⟩ := He.int_ok X G (c.t.d.fact 14 rfl); ⟨V.int 5000, _, e, ⟨t, rfl⟩, fun S H => .int _⟩),
    (let ⟨q1, q2, q3, q4⟩ := He.exc_ok (c.t.d.fact 60 rfl); ⟨He.glo_ok X G (c.t.d.fact 59 rfl), q1, q2, q3, q4⟩),
    (let ⟨q1, q2, q3, q4⟩ := He.exc_ok (c.t.d.fact 62 rfl); ⟨He.glo_ok X G (c.t.d.fact 61 rfl), q1, q2, q3, q4⟩),
    (let ⟨q1, q2, q3, q4⟩ := He.exc_ok (c.t.d.fact 64 rfl); ⟨He.glo_ok X G (c.t.d.fact 63 rfl), q1, q2, q3, q4⟩),
    He.cls_ok (c.t.d.fact 15 rfl),
    rfl,
    fun m hm z => (by cases List.mem_singleton.mp z; exact hm rfl),
    ⟨He.cls_ok (c.t.d.fact 15 rfl), He.noat_ok (c.t.d.fact 18 rfl), rfl, (by show (fieldsL 0).Nodup; decide +kernel)⟩⟩
theorem fun_of {K : PySem.W.Frag} {x q : Str} {st : Stmt} {f : Addr} {fd : FuncData} (F : FunD K x q (defArgs st) (defBody st) (defScope st) [] [] f fd) : Fun K x q st f fd := by
  obtain ⟨oc, od, dV, kV, doc, pm, an, cdv, ct, osl, e, lk, cd, dv, kv⟩ := F.ex
  rcases dv with ⟨_, rfl⟩ | ⟨z, _⟩
  · exact ⟨⟨oc, od, kV, doc, pm, an, cdv, ct, osl, e, lk, cd⟩, F.kp⟩
  · exact absurd rfl z
theorem funT_of {K : PySem.W.Frag} {x q : Str} {st : Stmt} {p : He.Defn} {fd : FuncData} (F : FunD K x q (defArgs st) (defBody st) (defScope st) [] [] (He.fAd K p) fd) : FunT K x q st (He.fAd K p) fd (He.cT K p).1 := by
  obtain ⟨oc, od, dV, kV, doc, pm, an, cdv, ct, osl, e, lk, cd, dv, kv⟩ := F.ex
  obtain ⟨c, hc⟩ := He.codeIn_ref cd
  have e1 : (He.cT K p).1 = c := He.codeOf_eq lk (by rw [e]; exact hc)
  rcases dv with ⟨_, rfl⟩ | ⟨z, _⟩
  · rw [e1]
    subst hc
    exact ⟨⟨oc, od, kV, doc, pm, an, ct, osl, e, lk, cd⟩, F.kp⟩
  · exact absurd rfl z
theorem all_ok {P : Program} {w : World} {K : PySem.W.Frag} {h base : Heap} {mg : Str → Option Value} (X : K.In h) (G : h.Ns mainGlobals mg) (c : He.SaysX faL fnL [] tfL exL w h K) (TB : ∀ p ∈ tfL, LamX.TabB base mg (He.cT K p).1 (He.cT K p).2) (lo : Nat → Addr → Addr → HO) (lq : Str) (ρ : List Addr) (hρ : ρ.Nodup) :
    All P w K mg base { Sk K with ρ := ρ, lamO := lo, lamQ := lq } := by
  have T := txt_ok X G c lo lq ρ hρ
  have hx := c.more
  obtain ⟨e0, hx⟩ := He.ba hx
  obtain ⟨e1, hx⟩ := He.ba hx
  obtain ⟨e2, hx⟩ := He.ba hx
  obtain ⟨e3, hx⟩ := He.ba hx
  obtain ⟨e4, hx⟩ := He.ba hx
  obtain ⟨e5, hx⟩ := He.ba hx
  obtain ⟨e6, hx⟩ := He.ba hx
  obtain ⟨e7, hx⟩ := He.ba hx
  obtain ⟨e8, hx⟩ := He.ba hx
  obtain ⟨e9, hx⟩ := He.ba hx
  obtain ⟨e10, hx⟩ := He.ba hx
  have tb_Strip_init : TbG base mg { Sk K with ρ := ρ, lamO := lo, lamQ := lq } (He.cT K ("Strip", some "__init__")).1 (He.cT K ("Strip", some "__init__")).2 := by
    obtain ⟨t1, t2, t3⟩ := TB ("Strip", some "__init__") (by simp [tfL])
    refine ⟨⟨t1, t2, t3⟩, by simp [Sk], fun p hp e => ?_⟩
    have hp : p ∈ [((He.cT K ("Strip", some "__init__")).2, none), ((He.cT K ("beside", none)).2, none), ((He.cT K ("all_strips", none)).2, none), ((He.cT K ("unlike_ones", none)).2, none), ((He.cT K ("_law_plain", none)).2, some (("_law_plain" : Str) ++ ".<locals>." ++ "<lambda>"))] := hp
    rcases List.mem_cons.mp hp with rfl | hp
    · rfl
    rcases List.mem_cons.mp hp with rfl | hp
    · rfl
    rcases List.mem_cons.mp hp with rfl | hp
    · rfl
    rcases List.mem_cons.mp hp with rfl | hp
    · rfl
    rcases List.mem_cons.mp hp with rfl | hp
    · exact absurd e (by simpa using e7)
    · cases hp
  have tb_beside : TbG base mg { Sk K with ρ := ρ, lamO := lo, lamQ := lq } (He.cT K ("beside", none)).1 (He.cT K ("beside", none)).2 := by
    obtain ⟨t1, t2, t3⟩ := TB ("beside", none) (by simp [tfL])
    refine ⟨⟨t1, t2, t3⟩, by simp [Sk], fun p hp e => ?_⟩
    have hp : p ∈ [((He.cT K ("Strip", some "__init__")).2, none), ((He.cT K ("beside", none)).2, none), ((He.cT K ("all_strips", none)).2, none), ((He.cT K ("unlike_ones", none)).2, none), ((He.cT K ("_law_plain", none)).2, some (("_law_plain" : Str) ++ ".<locals>." ++ "<lambda>"))] := hp
    rcases List.mem_cons.mp hp with rfl | hp
    · rfl
    rcases List.mem_cons.mp hp with rfl | hp
    · rfl
    rcases List.mem_cons.mp hp with rfl | hp
    · rfl
    rcases List.mem_cons.mp hp with rfl | hp
    · rfl
    rcases List.mem_cons.mp hp with rfl | hp
    · exact absurd e (by simpa using e8)
    · cases hp
  have tb_all_strips : TbG base mg { Sk K with ρ := ρ, lamO := lo, lamQ := lq } (He.cT K ("all_strips", none)).1 (He.cT K ("all_strips", none)).2 := by
    obtain ⟨t1, t2, t3⟩ := TB ("all_strips", none) (by simp [tfL])
    refine ⟨⟨t1, t2, t3⟩, by simp [Sk], fun p hp e => ?_⟩
    have hp : p ∈ [((He.cT K ("Strip", some "__init__")).2, none), ((He.cT K ("beside", none)).2, none), ((He.cT K ("all_strips", none)).2, none), ((He.cT K ("unlike_ones", none)).2, none), ((He.cT K ("_law_plain", none)).2, some (("_law_plain" : Str) ++ ".<locals>." ++ "<lambda>"))] := hp
    rcases List.mem_cons.mp hp with rfl | hp
    · rfl
    rcases List.mem_cons.mp hp with rfl | hp
    · rfl
    rcases List.mem_cons.mp hp with rfl | hp
    · rfl
    rcases List.mem_cons.mp hp with rfl | hp
    · rfl
    rcases List.mem_cons.mp hp with rfl | hp
    · exact absurd e (by simpa using e9)
    · cases hp
  have tb_unlike_ones : TbG base mg { Sk K with ρ := ρ, lamO := lo, lamQ := lq } (He.cT K ("unlike_ones", none)).1 (He.cT K ("unlike_ones", none)).2 := by
    obtain ⟨t1, t2, t3⟩ := TB ("unlike_ones", none) (by simp [tfL])
    refine ⟨⟨t1, t2, t3⟩, by simp [Sk], fun p hp e => ?_⟩
    have hp : p ∈ [((He.cT K ("Strip", some "__init__")).2, none), ((He.cT K ("beside", none)).2, none), ((He.cT K ("all_strips", none)).2, none), ((He.cT K ("unlike_ones", none)).2, none), ((He.cT K ("_law_plain", none)).2, some (("_law_plain" : Str) ++ ".<locals>." ++ "<lambda>"))] := hp
    rcases List.mem_cons.mp hp with rfl | hp
    · rfl
    rcases List.mem_cons.mp hp with rfl | hp
    · rfl
    rcases List.mem_cons.mp hp with rfl | hp
    · rfl
    rcases List.mem_cons.mp hp with rfl | hp
    · rfl
    rcases List.mem_cons.mp hp with rfl | hp
    · exact absurd e (by simpa using e10)
    · cases hp
  obtain ⟨fd_Strip_init, F_Strip_init⟩ := c.t.d.def_ 0 (d := d_Strip_init) rfl
  have g_Strip_init := ok_Strip_init (P := P) (w := w) T tb_Strip_init  (funT_of (x := "__init__") (q := "Strip.__init__") (st := s_Strip_init) (p := ("Strip", some "__init__")) F_Strip_init) (He.glo_ok X G (c.t.d.fact 16 rfl)) (He.mkr_ok (c.t.d.fact 17 rfl)) ((fun_of (x := "__init__") (q := "Strip.__init__") (st := s_Strip_init) F_Strip_init).binds (ps := ["self", "rows"]) fun _ _ _ _ _ _ us hl => match us, hl with | [_, _], _ => rfl)
  obtain ⟨fd_Strip_wide, F_Strip_wide⟩ := c.t.d.def_ 1 (d := d_Strip_wide) rfl
  have g_Strip_wide := ok_Strip_wide (P := P) (w := w) (base := base) T  (fun_of (x := "wide") (q := "Strip.wide") (st := s_Strip_wide) F_Strip_wide) (He.meth_ok (c.t.d.fact 19 rfl)) ((fun_of (x := "wide") (q := "Strip.wide") (st := s_Strip_wide) F_Strip_wide).binds (ps := ["self"]) fun _ _ _ _ _ _ us hl => match us, hl with | [_], _ => rfl)
  obtain ⟨fd_Strip_at, F_Strip_at⟩ := c.t.d.def_ 2 (d := d_Strip_at) rfl
  have g_Strip_at := ok_Strip_at (P := P) (w := w) (base := base) T g_Strip_wide (fun_of (x := "at") (q := "Strip.at") (st := s_Strip_at) F_Strip_at) (He.meth_ok (c.t.d.fact 20 rfl)) ((fun_of (x := "at") (q := "Strip.at") (st := s_Strip_at) F_Strip_at).binds (ps := ["self", "x", "y"]) fun _ _ _ _ _ _ us hl => match us, hl with | [_, _, _], _ => rfl)
  obtain ⟨fd_Strip_moved, F_Strip_moved⟩ := c.t.d.def_ 3 (d := d_Strip_moved) rfl
  have g_Strip_moved := ok_Strip_moved (P := P) (w := w) (base := base) T g_Strip_wide g_Strip_init (fun_of (x := "moved") (q := "Strip.moved") (st := s_Strip_moved) F_Strip_moved) (He.meth_ok (c.t.d.fact 21 rfl)) ((fun_of (x := "moved") (q := "Strip.moved") (st := s_Strip_moved) F_Strip_moved).binds (ps := ["self", "many"]) fun _ _ _ _ _ _ us hl => match us, hl with | [_, _], _ => rfl)
  obtain ⟨fd_Strip_turned, F_Strip_turned⟩ := c.t.d.def_ 4 (d := d_Strip_turned) rfl
  have g_Strip_turned := ok_Strip_turned (P := P) (w := w) (base := base) T g_Strip_init (fun_of (x := "turned") (q := "Strip.turned") (st := s_Strip_turned) F_Strip_turned) (He.meth_ok (c.t.d.fact 22 rfl)) ((fun_of (x := "turned") (q := "Strip.turned") (st := s_Strip_turned) F_Strip_turned).binds (ps := ["self"]) fun _ _ _ _ _ _ us hl => match us, hl with | [_], _ => rfl)
  obtain ⟨fd_Strip_left_right, F_Strip_left_right⟩ := c.t.d.def_ 5 (d := d_Strip_left_right) rfl
  have g_Strip_left_right := ok_Strip_left_right (P := P) (w := w) (base := base) T g_Strip_init (fun_of (x := "left_right") (q := "Strip.left_right") (st := s_Strip_left_right) F_Strip_left_right) (He.meth_ok (c.t.d.fact 23 rfl)) ((fun_of (x := "left_right") (q := "Strip.left_right") (st := s_Strip_left_right) F_Strip_left_right).binds (ps := ["self"]) fun _ _ _ _ _ _ us hl => match us, hl with | [_], _ => rfl)
  obtain ⟨fd_Strip_up_down, F_Strip_up_down⟩ := c.t.d.def_ 6 (d := d_Strip_up_down) rfl
  have g_Strip_up_down := ok_Strip_up_down (P := P) (w := w) (base := base) T g_Strip_init (fun_of (x := "up_down") (q := "Strip.up_down") (st := s_Strip_up_down) F_Strip_up_down) (He.meth_ok (c.t.d.fact 24 rfl)) ((fun_of (x := "up_down") (q := "Strip.up_down") (st := s_Strip_up_down) F_Strip_up_down).binds (ps := ["self"]) fun _ _ _ _ _ _ us hl => match us, hl with | [_], _ => rfl)
  obtain ⟨fd_Strip_has_level, F_Strip_has_level⟩ := c.t.d.def_ 7 (d := d_Strip_has_level) rfl
  have g_Strip_has_level := ok_Strip_has_level (P := P) (w := w) (base := base) T g_Strip_up_down (fun_of (x := "has_level") (q := "Strip.has_level") (st := s_Strip_has_level) F_Strip_has_level) (He.meth_ok (c.t.d.fact 25 rfl)) ((fun_of (x := "has_level") (q := "Strip.has_level") (st := s_Strip_has_level) F_Strip_has_level).binds (ps := ["self"]) fun _ _ _ _ _ _ us hl => match us, hl with | [_], _ => rfl)
  obtain ⟨fd_Strip_period, F_Strip_period⟩ := c.t.d.def_ 8 (d := d_Strip_period) rfl
  have g_Strip_period := ok_Strip_period (P := P) (w := w) (base := base) T g_Strip_wide g_Strip_moved (fun_of (x := "period") (q := "Strip.period") (st := s_Strip_period) F_Strip_period) (He.meth_ok (c.t.d.fact 26 rfl)) ((fun_of (x := "period") (q := "Strip.period") (st := s_Strip_period) F_Strip_period).binds (ps := ["self"]) fun _ _ _ _ _ _ us hl => match us, hl with | [_], _ => rfl)
  obtain ⟨fd_Strip_mirrors, F_Strip_mirrors⟩ := c.t.d.def_ 9 (d := d_Strip_mirrors) rfl
  have g_Strip_mirrors := ok_Strip_mirrors (P := P) (w := w) (base := base) T g_Strip_left_right g_Strip_period g_Strip_moved (fun_of (x := "mirrors") (q := "Strip.mirrors") (st := s_Strip_mirrors) F_Strip_mirrors) (He.meth_ok (c.t.d.fact 27 rfl)) ((fun_of (x := "mirrors") (q := "Strip.mirrors") (st := s_Strip_mirrors) F_Strip_mirrors).binds (ps := ["self"]) fun _ _ _ _ _ _ us hl => match us, hl with | [_], _ => rfl)
  obtain ⟨fd_Strip_turns, F_Strip_turns⟩ := c.t.d.def_ 10 (d := d_Strip_turns) rfl
  have g_Strip_turns := ok_Strip_turns (P := P) (w := w) (base := base) T g_Strip_turned g_Strip_period g_Strip_moved (fun_of (x := "turns") (q := "Strip.turns") (st := s_Strip_turns) F_Strip_turns) (He.meth_ok (c.t.d.fact 28 rfl)) ((fun_of (x := "turns") (q := "Strip.turns") (st := s_Strip_turns) F_Strip_turns).binds (ps := ["self"]) fun _ _ _ _ _ _ us hl => match us, hl with | [_], _ => rfl)
  obtain ⟨fd_Strip_slide, F_Strip_slide⟩ := c.t.d.def_ 11 (d := d_Strip_slide) rfl
  have g_Strip_slide := ok_Strip_slide (P := P) (w := w) (base := base) T g_Strip_wide g_Strip_moved g_Strip_up_down (fun_of (x := "slide") (q := "Strip.slide") (st := s_Strip_slide) F_Strip_slide) (He.meth_ok (c.t.d.fact 29 rfl)) ((fun_of (x := "slide") (q := "Strip.slide") (st := s_Strip_slide) F_Strip_slide).binds (ps := ["self"]) fun _ _ _ _ _ _ us hl => match us, hl with | [_], _ => rfl)
  obtain ⟨fd_Strip_kind, F_Strip_kind⟩ := c.t.d.def_ 12 (d := d_Strip_kind) rfl
  have g_Strip_kind := ok_Strip_kind (P := P) (w := w) (base := base) T g_Strip_turns g_Strip_mirrors g_Strip_has_level g_Strip_slide (fun_of (x := "kind") (q := "Strip.kind") (st := s_Strip_kind) F_Strip_kind) (He.meth_ok (c.t.d.fact 30 rfl)) ((fun_of (x := "kind") (q := "Strip.kind") (st := s_Strip_kind) F_Strip_kind).binds (ps := ["self"]) fun _ _ _ _ _ _ us hl => match us, hl with | [_], _ => rfl)
  obtain ⟨fd_Strip_shown, F_Strip_shown⟩ := c.t.d.def_ 13 (d := d_Strip_shown) rfl
  have g_Strip_shown := ok_Strip_shown (P := P) (w := w) (base := base) T g_Strip_at (fun_of (x := "shown") (q := "Strip.shown") (st := s_Strip_shown) F_Strip_shown) (He.meth_ok (c.t.d.fact 31 rfl)) ((fun_of (x := "shown") (q := "Strip.shown") (st := s_Strip_shown) F_Strip_shown).binds (ps := ["self", "y", "many"]) fun _ _ _ _ _ _ us hl => match us, hl with | [_, _, _], _ => rfl)
  obtain ⟨fd_Strip_repeated, F_Strip_repeated⟩ := c.t.d.def_ 14 (d := d_Strip_repeated) rfl
  have g_Strip_repeated := ok_Strip_repeated (P := P) (w := w) (base := base) T g_Strip_period g_Strip_init g_Strip_shown (fun_of (x := "repeated") (q := "Strip.repeated") (st := s_Strip_repeated) F_Strip_repeated) (He.meth_ok (c.t.d.fact 32 rfl)) ((fun_of (x := "repeated") (q := "Strip.repeated") (st := s_Strip_repeated) F_Strip_repeated).binds (ps := ["self", "many"]) fun _ _ _ _ _ _ us hl => match us, hl with | [_, _], _ => rfl)
  obtain ⟨fd_Strip_same, F_Strip_same⟩ := c.t.d.def_ 15 (d := d_Strip_same) rfl
  have g_Strip_same := ok_Strip_same (P := P) (w := w) (base := base) T g_Strip_period g_Strip_up_down g_Strip_left_right g_Strip_turned g_Strip_moved g_Strip_repeated g_Strip_wide (fun_of (x := "same") (q := "Strip.same") (st := s_Strip_same) F_Strip_same) (He.meth_ok (c.t.d.fact 33 rfl)) ((fun_of (x := "same") (q := "Strip.same") (st := s_Strip_same) F_Strip_same).binds (ps := ["self", "other"]) fun _ _ _ _ _ _ us hl => match us, hl with | [_, _], _ => rfl)
  obtain ⟨fd_beside, F_beside⟩ := c.t.d.def_ 16 (d := d_beside) rfl
  have g_beside := ok_beside (P := P) (w := w) (base := base) T tb_beside g_Strip_init (funT_of (x := "beside") (q := "beside") (st := s_beside) (p := ("beside", none)) F_beside) (He.glo_ok X G (c.t.d.fact 34 rfl)) ((fun_of (x := "beside") (q := "beside") (st := s_beside) F_beside).binds (ps := ["strips"]) fun _ _ _ _ _ _ us hl => match us, hl with | [_], _ => rfl)
  obtain ⟨fd_made, F_made⟩ := c.t.d.def_ 17 (d := d_made) rfl
  have g_made := ok_made (P := P) (w := w) (base := base) T g_Strip_init g_beside g_Strip_up_down g_Strip_left_right g_Strip_turned (fun_of (x := "made") (q := "made") (st := s_made) F_made) (He.glo_ok X G (c.t.d.fact 35 rfl)) ((fun_of (x := "made") (q := "made") (st := s_made) F_made).binds (ps := ["piece", "kind"]) fun _ _ _ _ _ _ us hl => match us, hl with | [_, _], _ => rfl)
  obtain ⟨fd_has_at_least, F_has_at_least⟩ := c.t.d.def_ 18 (d := d_has_at_least) rfl
  have g_has_at_least := ok_has_at_least (P := P) (w := w) (base := base) T g_Strip_turns g_Strip_mirrors g_Strip_slide g_Strip_has_level (fun_of (x := "has_at_least") (q := "has_at_least") (st := s_has_at_least) F_has_at_least) (He.glo_ok X G (c.t.d.fact 36 rfl)) ((fun_of (x := "has_at_least") (q := "has_at_least") (st := s_has_at_least) F_has_at_least).binds (ps := ["strip", "kind"]) fun _ _ _ _ _ _ us hl => match us, hl with | [_, _], _ => rfl)
  obtain ⟨fd_all_strips, F_all_strips⟩ := c.t.d.def_ 19 (d := d_all_strips) rfl
  have g_all_strips := ok_all_strips (P := P) (w := w) (base := base) T tb_all_strips g_Strip_init (funT_of (x := "all_strips") (q := "all_strips") (st := s_all_strips) (p := ("all_strips", none)) F_all_strips) (He.glo_ok X G (c.t.d.fact 37 rfl)) ((fun_of (x := "all_strips") (q := "all_strips") (st := s_all_strips) F_all_strips).binds (ps := ["wide", "high", "signs"]) fun _ _ _ _ _ _ us hl => match us, hl with | [_, _, _], _ => rfl)
  obtain ⟨fd_counted, F_counted⟩ := c.t.d.def_ 20 (d := d_counted) rfl
  have g_counted := ok_counted (P := P) (w := w) (base := base) T g_all_strips g_Strip_kind (fun_of (x := "counted") (q := "counted") (st := s_counted) F_counted) (He.glo_ok X G (c.t.d.fact 38 rfl)) ((fun_of (x := "counted") (q := "counted") (st := s_counted) F_counted).binds (ps := ["wide", "high", "signs"]) fun _ _ _ _ _ _ us hl => match us, hl with | [_, _, _], _ => rfl)
  obtain ⟨fd_unlike_ones, F_unlike_ones⟩ := c.t.d.def_ 21 (d := d_unlike_ones) rfl
  have g_unlike_ones := ok_unlike_ones (P := P) (w := w) (base := base) T tb_unlike_ones g_all_strips g_Strip_same (funT_of (x := "unlike_ones") (q := "unlike_ones") (st := s_unlike_ones) (p := ("unlike_ones", none)) F_unlike_ones) (He.glo_ok X G (c.t.d.fact 39 rfl)) ((fun_of (x := "unlike_ones") (q := "unlike_ones") (st := s_unlike_ones) F_unlike_ones).binds (ps := ["wide", "high", "signs"]) fun _ _ _ _ _ _ us hl => match us, hl with | [_, _, _], _ => rfl)
  obtain ⟨fd_nearest, F_nearest⟩ := c.t.d.def_ 22 (d := d_nearest) rfl
  have g_nearest := ok_nearest (P := P) (w := w) (base := base) T g_all_strips g_Strip_wide g_has_at_least (fun_of (x := "nearest") (q := "nearest") (st := s_nearest) F_nearest) (He.glo_ok X G (c.t.d.fact 40 rfl)) ((fun_of (x := "nearest") (q := "nearest") (st := s_nearest) F_nearest).binds (ps := ["strip", "kind", "signs"]) fun _ _ _ _ _ _ us hl => match us, hl with | [_, _, _], _ => rfl)
  obtain ⟨fd_necklaces, F_necklaces⟩ := c.t.d.def_ 23 (d := d_necklaces) rfl
  have g_necklaces := ok_necklaces (P := P) (w := w) (base := base) T  (fun_of (x := "necklaces") (q := "necklaces") (st := s_necklaces) F_necklaces) (He.glo_ok X G (c.t.d.fact 41 rfl)) ((fun_of (x := "necklaces") (q := "necklaces") (st := s_necklaces) F_necklaces).binds (ps := ["many", "colours"]) fun _ _ _ _ _ _ us hl => match us, hl with | [_, _], _ => rfl)
  obtain ⟨fd_bracelets, F_bracelets⟩ := c.t.d.def_ 24 (d := d_bracelets) rfl
  have g_bracelets := ok_bracelets (P := P) (w := w) (base := base) T g_necklaces (fun_of (x := "bracelets") (q := "bracelets") (st := s_bracelets) F_bracelets) (He.glo_ok X G (c.t.d.fact 42 rfl)) ((fun_of (x := "bracelets") (q := "bracelets") (st := s_bracelets) F_bracelets).binds (ps := ["many", "colours"]) fun _ _ _ _ _ _ us hl => match us, hl with | [_, _], _ => rfl)
  obtain ⟨fd_law_at, F_law_at⟩ := c.t.d.def_ 25 (d := d_law_at) rfl
  have g_law_at := ok_law_at (P := P) (w := w) (base := base) T  (fun_of (x := "_law_at") (q := "_law_at") (st := s_law_at) F_law_at) (He.glo_ok X G (c.t.d.fact 43 rfl)) ((fun_of (x := "_law_at") (q := "_law_at") (st := s_law_at) F_law_at).binds (ps := ["rows", "x", "y"]) fun _ _ _ _ _ _ us hl => match us, hl with | [_, _, _], _ => rfl)
  obtain ⟨fd_law_keeps, F_law_keeps⟩ := c.t.d.def_ 26 (d := d_law_keeps) rfl
  have g_law_keeps := ok_law_keeps (P := P) (w := w) (base := base) T g_law_at (fun_of (x := "_law_keeps") (q := "_law_keeps") (st := s_law_keeps) F_law_keeps) (He.glo_ok X G (c.t.d.fact 44 rfl)) ((fun_of (x := "_law_keeps") (q := "_law_keeps") (st := s_law_keeps) F_law_keeps).binds (ps := ["rows", "wide", "flip", "turn", "more"]) fun _ _ _ _ _ _ us hl => match us, hl with | [_, _, _, _, _], _ => rfl)
  obtain ⟨fd_law_kind, F_law_kind⟩ := c.t.d.def_ 27 (d := d_law_kind) rfl
  have g_law_kind := ok_law_kind (P := P) (w := w) (base := base) T g_law_keeps (fun_of (x := "_law_kind") (q := "_law_kind") (st := s_law_kind) F_law_kind) (He.glo_ok X G (c.t.d.fact 45 rfl)) ((fun_of (x := "_law_kind") (q := "_law_kind") (st := s_law_kind) F_law_kind).binds (ps := ["rows"]) fun _ _ _ _ _ _ us hl => match us, hl with | [_], _ => rfl)
  obtain ⟨fd_law_dice, F_law_dice⟩ := c.t.d.def_ 28 (d := d_law_dice) rfl
  have g_law_dice := ok_law_dice (P := P) (w := w) (base := base) T  (fun_of (x := "_law_dice") (q := "_law_dice") (st := s_law_dice) F_law_dice) (He.glo_ok X G (c.t.d.fact 46 rfl)) ((fun_of (x := "_law_dice") (q := "_law_dice") (st := s_law_dice) F_law_dice).binds (ps := ["cell"]) fun _ _ _ _ _ _ us hl => match us, hl with | [_], _ => rfl)
  obtain ⟨fd_law_roll, F_law_roll⟩ := c.t.d.def_ 29 (d := d_law_roll) rfl
  have g_law_roll := ok_law_roll (P := P) (w := w) (base := base) T  (fun_of (x := "_law_roll") (q := "_law_roll") (st := s_law_roll) F_law_roll) (He.glo_ok X G (c.t.d.fact 47 rfl)) ((fun_of (x := "_law_roll") (q := "_law_roll") (st := s_law_roll) F_law_roll).binds (ps := ["dice", "many"]) fun _ _ _ _ _ _ us hl => match us, hl with | [_, _], _ => rfl)
  obtain ⟨fd_law_rounds, F_law_rounds⟩ := c.t.d.def_ 30 (d := d_law_rounds) rfl
  have g_law_rounds := ok_law_rounds (P := P) (w := w) (base := base) T g_law_dice (fun_of (x := "_law_rounds") (q := "_law_rounds") (st := s_law_rounds) F_law_rounds) (He.glo_ok X G (c.t.d.fact 48 rfl)) ((fun_of (x := "_law_rounds") (q := "_law_rounds") (st := s_law_rounds) F_law_rounds).binds (ps := ["script", "most"]) fun _ _ _ _ _ _ us hl => match us, hl with | [_, _], _ => rfl)
  obtain ⟨fd_law_has, F_law_has⟩ := c.t.d.def_ 31 (d := d_law_has) rfl
  have g_law_has := ok_law_has (P := P) (w := w) (base := base) T g_law_keeps (fun_of (x := "_law_has") (q := "_law_has") (st := s_law_has) F_law_has) (He.glo_ok X G (c.t.d.fact 49 rfl)) ((fun_of (x := "_law_has") (q := "_law_has") (st := s_law_has) F_law_has).binds (ps := ["rows", "kind"]) fun _ _ _ _ _ _ us hl => match us, hl with | [_, _], _ => rfl)
  obtain ⟨fd_law_beside, F_law_beside⟩ := c.t.d.def_ 32 (d := d_law_beside) rfl
  have g_law_beside := ok_law_beside (P := P) (w := w) (base := base) T  (fun_of (x := "_law_beside") (q := "_law_beside") (st := s_law_beside) F_law_beside) (He.glo_ok X G (c.t.d.fact 50 rfl)) ((fun_of (x := "_law_beside") (q := "_law_beside") (st := s_law_beside) F_law_beside).binds (ps := ["pieces"]) fun _ _ _ _ _ _ us hl => match us, hl with | [_], _ => rfl)
  obtain ⟨fd_law_made, F_law_made⟩ := c.t.d.def_ 33 (d := d_law_made) rfl
  have g_law_made := ok_law_made (P := P) (w := w) (base := base) T g_law_beside (fun_of (x := "_law_made") (q := "_law_made") (st := s_law_made) F_law_made) (He.glo_ok X G (c.t.d.fact 51 rfl)) ((fun_of (x := "_law_made") (q := "_law_made") (st := s_law_made) F_law_made).binds (ps := ["rows", "kind"]) fun _ _ _ _ _ _ us hl => match us, hl with | [_, _], _ => rfl)
  obtain ⟨fd_law_words, F_law_words⟩ := c.t.d.def_ 34 (d := d_law_words) rfl
  have g_law_words := ok_law_words (P := P) (w := w) (base := base) T  (fun_of (x := "_law_words") (q := "_law_words") (st := s_law_words) F_law_words) (He.glo_ok X G (c.t.d.fact 52 rfl)) ((fun_of (x := "_law_words") (q := "_law_words") (st := s_law_words) F_law_words).binds (ps := ["signs", "many"]) fun _ _ _ _ _ _ us hl => match us, hl with | [_, _], _ => rfl)
  obtain ⟨fd_law_rings, F_law_rings⟩ := c.t.d.def_ 35 (d := d_law_rings) rfl
  have g_law_rings := ok_law_rings (P := P) (w := w) (base := base) T g_law_words (fun_of (x := "_law_rings") (q := "_law_rings") (st := s_law_rings) F_law_rings) (He.glo_ok X G (c.t.d.fact 53 rfl)) ((fun_of (x := "_law_rings") (q := "_law_rings") (st := s_law_rings) F_law_rings).binds (ps := ["many", "colours", "over"]) fun _ _ _ _ _ _ us hl => match us, hl with | [_, _, _], _ => rfl)
  exact ⟨g_Strip_init, g_Strip_wide, g_Strip_at, g_Strip_moved, g_Strip_turned, g_Strip_left_right, g_Strip_up_down, g_Strip_has_level, g_Strip_period, g_Strip_mirrors, g_Strip_turns, g_Strip_slide, g_Strip_kind, g_Strip_shown, g_Strip_repeated, g_Strip_same, g_beside, g_made, g_has_at_least, g_all_strips, g_counted, g_unlike_ones, g_nearest, g_necklaces, g_bracelets, g_law_at, g_law_keeps, g_law_kind, g_law_dice, g_law_roll, g_law_rounds, g_law_has, g_law_beside, g_law_made, g_law_words, g_law_rings⟩
theorem plain_ok {w : World} {K : PySem.W.Frag} {h base : Heap} {mg : Str → Option Value} (X : K.In h) (G : h.Ns mainGlobals mg) (c : He.SaysX faL fnL [] tfL exL w h K) (TB : ∀ p ∈ tfL, LamX.TabB base mg (He.cT K p).1 (He.cT K p).2) (lo : Nat → Addr → Addr → HO) (lq : Str) (ρ : List Addr) :
    GF PySem.Challenge.pw_friezestack_k02_strips_that_are_made w K mg base { Sk K with ρ := ρ, lamO := lo, lamQ := lq } "_law_plain" [] 12 Fn_law_plain := by
  obtain ⟨t1, t2, t3⟩ := TB ("_law_plain", none) (by simp [tfL])
  have hx := c.more
  obtain ⟨e0, hx⟩ := He.ba hx
  obtain ⟨e1, hx⟩ := He.ba hx
  obtain ⟨e2, hx⟩ := He.ba hx
  obtain ⟨e3, hx⟩ := He.ba hx
  obtain ⟨e4, hx⟩ := He.ba hx
  obtain ⟨e5, hx⟩ := He.ba hx
  obtain ⟨e6, hx⟩ := He.ba hx
  obtain ⟨e7, hx⟩ := He.ba hx
  obtain ⟨e8, hx⟩ := He.ba hx
  obtain ⟨e9, hx⟩ := He.ba hx
  obtain ⟨e10, hx⟩ := He.ba hx
  have TBg : TbL base mg (plSg (Sk K) []) (He.cT K ("_law_plain", none)).1 (He.cT K ("_law_plain", none)).2 := by
    refine ⟨t1, t2, t3, by simp [plSg, Sk], fun p hp e => ?_⟩
    have hp : p ∈ (Sk K).T := hp
    rcases List.mem_cons.mp hp with rfl | hp
    · exact absurd e.symm (by simpa using e7)
    rcases List.mem_cons.mp hp with rfl | hp
    · exact absurd e.symm (by simpa using e8)
    rcases List.mem_cons.mp hp with rfl | hp
    · exact absurd e.symm (by simpa using e9)
    rcases List.mem_cons.mp hp with rfl | hp
    · exact absurd e.symm (by simpa using e10)
    rcases List.mem_cons.mp hp with rfl | hp
    · rfl
    · cases hp
  obtain ⟨fdt, FDt⟩ := c.t.d.def_ 36 (d := d_law_told) rfl
  have Td : ∀ S' : Sg, S'.EX = (Sk K).EX → Told PySem.Challenge.pw_friezestack_k02_strips_that_are_made K mg S' "_law_told" toldR toldC s_told (He.fAd K ("_law_told", none)) := fun S' hE => by
    refine ⟨He.glo_ok X G (c.t.d.fact 56 (f := .glo "_law_told") rfl), ⟨fdt, fun_of (x := "_law_told") (q := "_law_told") (st := s_told) FDt, (fun_of (x := "_law_told") (q := "_law_told") (st := s_told) FDt).binds (ps := ["what"]) fun _ _ _ _ _ _ us hl => match us, hl with | [_], _ => rfl⟩, ⟨"FriezeError", He.ga K "FriezeError", _, _, _, _, _, _, _, _, _, rfl, rfl, He.glo_ok X G (c.t.d.fact 57 (f := .glo "FriezeError") rfl), by decide, fun cc hcc => ?_⟩, ⟨rfl, rfl, rfl, by decide +kernel, rfl, by decide +kernel, by decide +kernel⟩, by first | exact Or.inl rfl | exact Or.inr (Or.inl rfl), by decide +kernel⟩
    rw [hE]
    rcases List.mem_cons.mp hcc with rfl | hcc
    · exact He.exm_ok (c.t.d.fact 65 (f := .exm "StripError" "FriezeError" true) rfl)
    rcases List.mem_cons.mp hcc with rfl | hcc
    · exact He.exm_ok (c.t.d.fact 66 (f := .exm "MakingError" "FriezeError" true) rfl)
    rcases List.mem_cons.mp hcc with rfl | hcc
    · exact He.exm_ok (c.t.d.fact 67 (f := .exm "CountError" "FriezeError" true) rfl)
    · cases hcc
  obtain ⟨fdp, FDp⟩ := c.t.d.def_ 37 (d := d_law_plain) rfl
  exact ok_plain (P := PySem.Challenge.pw_friezestack_k02_strips_that_are_made) (w := w) (base := base) (fun lo lq ρ hρ => txt_ok X G c lo lq ρ hρ) (fun lo lq ρ hρ => all_ok X G c TB lo lq ρ hρ) TBg Td (funT_of (x := "_law_plain") (q := "_law_plain") (st := s_law_plain) (p := ("_law_plain", none)) FDp) (He.glo_ok X G (c.t.d.fact 54 (f := .glo "_law_plain") rfl)) ((fun_of (x := "_law_plain") (q := "_law_plain") (st := s_law_plain) FDp).binds (ps := []) fun _ _ _ _ _ _ us hl => match us, hl with | [], _ => rfl) lo lq ρ
section
variable (hw : ∀ ns : List Int, ns.length ≤ 63 → Dd.Good (E_law ((.v (.rol (ns.map .int)) :: Dd.nos (31 - 1)).set 1 (.v (Dd.strsD strs_law))) []) (fun d μ1 => μ1 = [] ∧ ∃ x y z : Int, d = .lst [.lst [.int x, .int y, .int z]] ∧ Dd.diceOk2 31 2 1 (Dd.strsD strs_law) FB_law FR_law (.lst [.int x, .int y, .int z])) (fun _ _ => False))
include hw
theorem law_at {w : World} {K : PySem.W.Frag} {h : Heap} {mg : Str → Option Value} {f : Addr} (X : K.In h) (G : h.Ns mainGlobals mg) (hfa : mg ("law" : Str) = some (.ref f)) (c : He.SaysX faL fnL [] tfL exL w h K) : LamX.LawAtS PySem.Challenge.rw_friezestack_k02_strips_that_are_made w K (L2.CX (PySem.Challenge.rw_friezestack_k02_strips_that_are_made).prog w) 13 63 "script" mg f h := by
  obtain ⟨fd, FD⟩ := c.t.d.def_ 38 (d := d_law) rfl
  have e := hfa.symm.trans (He.glo_ok X G (c.t.d.fact 55 (f := .glo "law") rfl))
  cases e
  have b := (fun_of (x := "law") (q := "law") (st := s_law) FD).binds (ps := ["script"]) fun _ _ _ _ _ _ us hl => match us, hl with | [_], _ => rfl
  refine ⟨fd, [He.cT K ("Strip", some "__init__"), He.cT K ("beside", none), He.cT K ("all_strips", none), He.cT K ("unlike_ones", none), He.cT K ("_law_plain", none)], spL K (Sk K), fun p hp => ?_, fun p hp => ?_, fun p hp => ?_, fun s v => ?_, fun H a ns hl hb ht hS => ⟨a, ns, rfl, hl, fun p hp => ?_, hS, fun _ => rfl⟩, fun base KB GB TB => ?_⟩
  · obtain ⟨q, hq, rfl⟩ : ∃ q ∈ tfL, He.cT K q = p := by simpa [tfL, eq_comm] using hp
    exact c.empty q hq
  · obtain ⟨q, hq, rfl⟩ : ∃ q ∈ tfL, He.cT K q = p := by simpa [tfL, eq_comm] using hp
    exact c.out q hq
  · obtain ⟨q, hq, rfl⟩ : ∃ q ∈ tfL, He.cT K q = p := by simpa [tfL, eq_comm] using hp
    exact PySem.W.codeHd_of_K X (c.hd q hq)
  · obtain ⟨oc, od, kV, doc, pm, an, cdv, ct, osl, e, lk, cd⟩ := (fun_of (x := "law") (q := "law") (st := s_law) FD).ex
    rw [e]
    exact .of_eq rfl
  · have hp : p ∈ (Sk K).T := hp
    rcases List.mem_cons.mp hp with rfl | hp
    · exact ht _ (by simp)
    rcases List.mem_cons.mp hp with rfl | hp
    · exact ht _ (by simp)
    rcases List.mem_cons.mp hp with rfl | hp
    · exact ht _ (by simp)
    rcases List.mem_cons.mp hp with rfl | hp
    · exact ht _ (by simp)
    rcases List.mem_cons.mp hp with rfl | hp
    · exact ht _ (by simp)
    · cases hp
  · have TB' : ∀ p ∈ tfL, LamX.TabB base mg (He.cT K p).1 (He.cT K p).2 := fun p hp => TB _ (by simpa [tfL] using (show He.cT K p ∈ tfL.map (He.cT K) from List.mem_map_of_mem hp))
    exact ok_law (P := PySem.Challenge.pw_friezestack_k02_strips_that_are_made) (w := w) (base := base) (Pt := 0) (fun lo lq ρ hρ => txt_ok X G c lo lq ρ hρ) (fun lo lq ρ hρ => all_ok X G c TB' lo lq ρ hρ) (fun lo lq ρ hρ => plain_ok X G c TB' lo lq ρ) (funT_of (x := "law") (q := "law") (st := s_law) (p := ("law", none)) FD) hw
end
end K1
namespace K1
open PySem PySem.Spec L2 Dd PyProof.Rows
abbrev R : PySem.W.OpenRow := PySem.W.OpenLaw.row PySem.Challenge.rw_friezestack_k02_strips_that_are_made
abbrev hk : PySem.W.Hook := He.hookX 6 faL fnL [] tfL exL
def ob (s : PySem.W.SharedT) : He.AlX := He.obsX 6 faL fnL [] tfL exL (HandSHeadRun.getT s)
theorem ob_eq (s : PySem.W.SharedT) : ob s = hk.obs s.abs := He.obsX_eq (HandSHeadRun.getT_eq s)
def looseL : List Str := ["FriezeError", "StripError", "MakingError", "CountError", "MOST_WIDE", "MOST_HIGH", "KINDS_OF_STRIPS", "Strip", "MOST_COUNTED", "made", "beside", "all_strips", "counted", "unlike_ones", "nearest", "has_at_least", "necklaces", "bracelets", "_law_dice", "_law_roll", "_law_rounds", "_law_told", "_law_at", "_law_keeps", "_law_kind", "_law_strip", "_law_has", "_law_beside", "_law_made", "_law_words", "_law_rings", "_law_plain"]
theorem run (w : World) : HandSHeadRun.RunEq R (PySem.W.view R.prog [36]) hk ob 3000 looseL w := by
  intro os
  kernel_rfl
end K1
namespace K1
open PySem PySem.W PySem.Calls PyProof.Rows
theorem law_holds (hw0 : ∀ ns : List Int, ns.length ≤ 63 → Dd.Good (E_law ((.v (.rol (ns.map .int)) :: Dd.nos (31 - 1)).set 1 (.v (Dd.strsD strs_law))) []) (fun d μ1 => μ1 = [] ∧ ∃ x y z : Int, d = .lst [.lst [.int x, .int y, .int z]] ∧ Dd.diceOk2 31 2 1 (Dd.strsD strs_law) FB_law FR_law (.lst [.int x, .int y, .int z])) (fun _ _ => False)) : PySem.Challenge.rw_friezestack_k02_strips_that_are_made.Holds := by
  w_on; o_law
  refine HandSHeadRun.head_any (r := OpenLaw.row PySem.Challenge.rw_friezestack_k02_strips_that_are_made) (q := view (OpenLaw.row PySem.Challenge.rw_friezestack_k02_strips_that_are_made).prog [36]) (H := hk) (ob := ob) (M := 3000) (loose := looseL) (d := HandSHeadRun.topDef (OpenLaw.row PySem.Challenge.rw_friezestack_k02_strips_that_are_made).prog 36) (kwd := []) ob_eq
    (by kernel_rfl) (fun s => by kernel_rfl) run (by kernel_rfl) (by kernel_rfl) (by kernel_rfl) (by rfl) (by first | assumption | decide +kernel) (by decide +kernel) ⟨rfl, rfl, rfl, rfl, rfl, by decide +kernel⟩ ?hw ?hc
  case hw => w_witness2
  case hc =>
    refine LamX.walk_ofTsE (l := PySem.Challenge.rw_friezestack_k02_strips_that_are_made) (n := 63) (k := 13) (x := "script") (CX := fun w => L2.CX (PySem.Challenge.rw_friezestack_k02_strips_that_are_made).prog w) rfl (by decide) (by kernel_rfl) ⟨rfl, by decide, by decide⟩ ?F ?C
    case F =>
      intro w mg fa h Y G hmg0
      obtain ⟨K, KX, c⟩ := Y
      have hmg : mg ("law" : PySem.Str) = some (.ref fa) := by
        have e : (HandSHeadRun.topDef (OpenLaw.row PySem.Challenge.rw_friezestack_k02_strips_that_are_made).prog 36).name = ("law" : PySem.Str) := by kernel_rfl
        rw [← e]
        exact hmg0
      exact ⟨K, KX, law_at hw0 KX G hmg c⟩
    case C =>
      intro w H s e s' h
      obtain ⟨_, _, _, _, _, _, _, _, _, _, _, _, z⟩ := h
      exact z
end K1
namespace Dd.Ma
open PySem L2

/-! ### the combinators, opened -/
section
variable {α β : Type}
@[simp] theorem bind_ite {c : Prop} [Decidable c] (a b : M α) (k : α → M β) : M.bind (if c then a else b) k = if c then M.bind a k else M.bind b k := by split <;> rfl
@[simp] theorem o_eC (d : D) (Γ : Env) : eC d Γ = M.pure d := rfl
@[simp] theorem o_eOp (o : D → D → Option D) (f g : E) (Γ : Env) : eOp o f g Γ = M.bind (f Γ) fun x => M.bind (g Γ) fun y => M.opt (o x y) := rfl
@[simp] theorem o_eIx (f g : E) (Γ : Env) : eIx f g Γ = M.bind (f Γ) fun x => M.bind (g Γ) fun y => M.opt (dIx x y) := rfl
@[simp] theorem o_eChain (o o' : D → D → Option D) (f g k : E) (Γ : Env) : eChain o o' f g k Γ = M.bind (f Γ) fun x => M.bind (g Γ) fun y => M.bind (M.opt (o x y)) fun z => M.bind (M.opt (asB z)) fun b => if b = true then M.bind (k Γ) fun w => M.opt (o' y w) else M.pure (.bl false) := rfl
@[simp] theorem o_bOf (f : E) (Γ : Env) : bOf f Γ = M.bind (f Γ) fun d => M.opt (asB d) := rfl
@[simp] theorem o_bAnd (f g : Env → M Bool) (Γ : Env) : bAnd f g Γ = M.bind (f Γ) fun c => if c = true then g Γ else M.pure false := rfl
@[simp] theorem o_bOr (f g : Env → M Bool) (Γ : Env) : bOr f g Γ = M.bind (f Γ) fun c => if c = true then M.pure true else g Γ := rfl
@[simp] theorem o_bNot (f : Env → M Bool) (Γ : Env) : bNot f Γ = M.bind (f Γ) fun c => M.pure (!c) := rfl
@[simp] theorem o_bYes (Γ : Env) : bYes Γ = M.pure true := rfl
@[simp] theorem o_eAnd (f g : E) (Γ : Env) : eAnd f g Γ = M.bind (f Γ) fun x => M.bind (M.opt (asB x)) fun c => if c = true then g Γ else M.pure (.bl false) := rfl
@[simp] theorem o_eOr (f g : E) (Γ : Env) : eOr f g Γ = M.bind (f Γ) fun x => M.bind (M.opt (asB x)) fun c => if c = true then M.pure (.bl true) else g Γ := rfl
@[simp] theorem o_eNot (f : E) (Γ : Env) : eNot f Γ = M.bind (f Γ) fun x => M.bind (M.opt (asB x)) fun c => M.pure (.bl (!c)) := rfl
@[simp] theorem o_eIf (t : Env → M Bool) (f g : E) (Γ : Env) : eIf t f g Γ = M.bind (t Γ) fun c => if c = true then f Γ else g Γ := rfl
@[simp] theorem o_aNil (Γ : Env) : aNil Γ = M.pure [] := rfl
@[simp] theorem o_aCons (f : E) (g : Env → M (List D)) (Γ : Env) : aCons f g Γ = M.bind (f Γ) fun x => M.bind (g Γ) fun xs => M.pure (x :: xs) := rfl
@[simp] theorem o_eTup (fs : Env → M (List D)) (Γ : Env) : eTup fs Γ = M.bind (fs Γ) fun xs => if xs.length ≤ 16777216 then M.pure (.tup xs) else M.bad := rfl
@[simp] theorem o_eLst (fs : Env → M (List D)) (Γ : Env) : eLst fs Γ = M.bind (fs Γ) fun xs => if xs.length ≤ 16777216 then M.pure (.lst xs) else M.bad := rfl
@[simp] theorem o_eCall (o : List D → Option D) (fs : Env → M (List D)) (Γ : Env) : eCall o fs Γ = M.bind (fs Γ) fun xs => M.opt (o xs) := rfl
@[simp] theorem o_oNone (Γ : Env) : oNone Γ = M.pure none := rfl
@[simp] theorem o_oSome (f : E) (Γ : Env) : oSome f Γ = M.bind (f Γ) fun x => M.bind (M.opt (asI x)) fun i => M.pure (some i) := rfl
@[simp] theorem o_eSl (f : E) (l h : Env → M (Option Int)) (Γ : Env) : eSl f l h Γ = M.bind (f Γ) fun x => M.bind (l Γ) fun lo => M.bind (h Γ) fun hi => M.opt (dSl x lo hi) := rfl
@[simp] theorem o_eRev (f : E) (Γ : Env) : eRev f Γ = M.bind (f Γ) fun x => M.opt (dRev x) := rfl
@[simp] theorem o_eM1S (o : Str → D → Option D) (f g : E) (Γ : Env) : eM1S o f g Γ = M.bind (f Γ) fun x => M.bind (M.opt (asS x)) fun s => M.bind (g Γ) fun y => M.opt (o s y) := rfl
@[simp] theorem o_eJoin (f g : E) (Γ : Env) : eJoin f g Γ = M.bind (f Γ) fun x => M.bind (M.opt (asS x)) fun s => M.bind (g Γ) fun y => M.opt (dJoin s y) := rfl
@[simp] theorem o_eFun (n : Nat) (F : Fn) (fs : Env → M (List D)) (Γ : Env) : eFun n F fs Γ = M.bind (fs Γ) fun ds => if ds.length = n then F ds else M.bad := rfl
@[simp] theorem o_eMeth (c n : Nat) (F : Fn) (f : E) (fs : Env → M (List D)) (Γ : Env) : eMeth c n F f fs Γ = M.bind (f Γ) fun o => M.bind (M.opt (isObj? c o)) fun _ => M.bind (fs Γ) fun ds => if ds.length + 1 = n then F (o :: ds) else M.bad := rfl
@[simp] theorem o_eFld (c i : Nat) (f : E) (Γ : Env) : eFld c i f Γ = M.bind (f Γ) fun o => M.opt (fldD c i o) := rfl
@[simp] theorem o_iSeq (f : E) (Γ : Env) : iSeq f Γ = M.bind (f Γ) fun x => M.opt (seqOf x) := rfl
@[simp] theorem o_iRng1 (fs : Env → M (List D)) (Γ : Env) : iRng1 fs Γ = M.bind (fs Γ) fun xs => if xs.length = 1 then M.opt (rangeD xs) else M.bad := (rfl)
@[simp] theorem o_iRng2 (fs : Env → M (List D)) (Γ : Env) : iRng2 fs Γ = M.bind (fs Γ) fun xs => if xs.length = 2 then M.opt (rangeD xs) else M.bad := (rfl)
@[simp] theorem o_iZip (fs : Env → M (List D)) (Γ : Env) : iZip fs Γ = M.bind (fs Γ) fun xs => M.opt (zipD xs) := rfl
@[simp] theorem o_tName (i : Nat) (d : D) (Γ : Env) : tName i d Γ = some (Γ.set i (.v d)) := rfl
@[simp] theorem o_sSeq (F G : SF) (Γ : Env) : sSeq F G Γ = M.bind (F Γ) fun r => match r with
  | .nx Γ' => G Γ'
  | r => M.pure r := rfl
@[simp] theorem o_sNil (Γ : Env) : sNil Γ = M.pure (.nx Γ) := rfl
@[simp] theorem o_sRet (f : E) (Γ : Env) : sRet f Γ = M.bind (f Γ) fun d => M.pure (.ret d) := rfl
@[simp] theorem o_sSet (i : Nat) (f : E) (Γ : Env) : sSet i f Γ = M.bind (f Γ) fun d => M.pure (.nx (Γ.set i (.v d))) := rfl
@[simp] theorem o_sIf (t : Env → M Bool) (F G : SF) (Γ : Env) : sIf t F G Γ = M.bind (t Γ) fun c => if c = true then F Γ else G Γ := rfl
@[simp] theorem o_sRaise (c : Nat) (Γ : Env) : sRaise c Γ = M.exc c := rfl
@[simp] theorem o_sFor (fi : Env → M (List D)) (T : Tgt) (F : SF) (Γ : Env) : sFor fi T F Γ = M.bind (fi Γ) fun ds => loopF T F ds Γ := rfl
@[simp] theorem o_sAsg (f : E) (T : Tgt) (Γ : Env) : sAsg f T Γ = M.bind (f Γ) fun d => M.bind (M.opt (T d Γ)) fun Γ' => M.pure (.nx Γ') := rfl
@[simp] theorem o_sOwnL1 (i j : Nat) (f : E) (Γ : Env) : sOwnL1 i j f Γ = M.bind (f Γ) fun d => M.pure (.nx ((Γ.set i (.o (.lst []))).set j (.v d))) := rfl
@[simp] theorem o_eTupO (i : Nat) (Γ : Env) : eTupO i Γ = M.bind (M.opt (ownL i Γ)) fun xs => M.pure (.tup xs) := rfl
@[simp] theorem o_sAppend (i : Nat) (f : E) (Γ : Env) : sAppend i f Γ = M.bind (M.opt (ownL i Γ)) fun xs => M.bind (f Γ) fun d => if xs.length < 16777216 then M.pure (.nx (Γ.set i (.o (.lst (xs ++ [d]))))) else M.bad := rfl
@[simp] theorem o_eLc (fi : Env → M (List D)) (T : Tgt) (fb : Env → M Bool) (fe : E) (vs : List Nat) (Γ : Env) : eLc fi T fb fe vs Γ = M.bind (fi Γ) fun ds => M.bind (nox (lcF T fb fe (wipeG Γ vs) ds)) fun ys => M.pure (.lst ys) := rfl
@[simp] theorem o_fnF (n : Nat) (F : SF) (ds : List D) : fnF n F ds = M.bind (F (ds.map .v ++ nos (n - ds.length))) fnEnd := rfl
@[simp] theorem o_fnEnd1 (Γ : Env) : fnEnd (.nx Γ) = M.pure .non := rfl
@[simp] theorem o_fnEnd2 (d : D) : fnEnd (.ret d) = M.pure d := rfl
@[simp] theorem o_sPar3 (i j l : Nat) (fs : Env → M (List D)) (Γ : Env) : sPar3 i j l fs Γ = M.bind (fs Γ) fun ds => match ds with
  | [x, y, z] => M.pure (.nx (((Γ.set i (.v x)).set j (.v y)).set l (.v z)))
  | _ => M.bad := rfl
@[simp] theorem o_sPar (i j : Nat) (fs : Env → M (List D)) (Γ : Env) : sPar i j fs Γ = M.bind (fs Γ) fun ds => match ds with
  | [x, y] => M.pure (.nx ((Γ.set i (.v x)).set j (.v y)))
  | _ => M.bad := rfl
@[simp] theorem o_asB (b : Bool) : asB (.bl b) = some b := rfl
@[simp] theorem o_asI (b : Int) : asI (.int b) = some b := rfl
@[simp] theorem o_asS (b : Str) : asS (.str b) = some b := rfl
@[simp] theorem o_lt (i j : Int) : dLt (.int i) (.int j) = some (.bl (decide (i < j))) := rfl
@[simp] theorem o_le (i j : Int) : dLe (.int i) (.int j) = some (.bl (decide (i ≤ j))) := rfl
@[simp] theorem o_gt (i j : Int) : dGt (.int i) (.int j) = some (.bl (decide (j < i))) := rfl
@[simp] theorem o_add (i j : Int) : dAdd (.int i) (.int j) = some (.int (i + j)) := rfl
@[simp] theorem o_sub (i j : Int) : dSub (.int i) (.int j) = some (.int (i - j)) := rfl
@[simp] theorem o_mod (i j : Int) : dMod (.int i) (.int j) = if 0 < j then some (.int (i % j)) else none := rfl
@[simp] theorem o_isObj (c : Nat) (xs : List D) : isObj? c (.obj c xs) = some () := by unfold isObj?; simp
@[simp] theorem o_fld (c i : Nat) (xs : List D) : fldD c i (.obj c xs) = xs[i]? := by unfold fldD; simp
@[simp] theorem o_len1 (xs : List D) : dLen [.lst xs] = some (.int xs.length) := rfl
@[simp] theorem o_len2 (xs : List D) : dLen [.tup xs] = some (.int xs.length) := rfl
@[simp] theorem o_len3 (z : Str) : dLen [.str z] = some (.int z.length) := rfl
@[simp] theorem o_ix1 (xs : List D) (i : Int) : dIx (.lst xs) (.int i) = atI xs i := rfl
@[simp] theorem o_ix2 (xs : List D) (i : Int) : dIx (.tup xs) (.int i) = atI xs i := rfl
@[simp] theorem o_ix3 (z : Str) (i : Int) : dIx (.str z) (.int i) = (atI z.cps.toList i).map signD := rfl
@[simp] theorem nos_succ (n : Nat) : nos (n + 1) = .no :: nos n := rfl
@[simp] theorem nos_zero : nos 0 = [] := rfl
@[simp] theorem var_v {i : Nat} {Γ : Env} {d : D} (h : Γ[i]? = some (.v d)) : eVar i Γ = M.pure d := by unfold eVar; rw [h]
theorem eVar_def (i : Nat) (Γ : Env) : eVar i Γ = match Γ[i]? with
  | some (.v d) => M.pure d
  | _ => M.bad := rfl
end
theorem atI_nat {α : Type} {xs : List α} {i : Nat} (h : i < xs.length) : atI xs (i : Int) = xs[i]? := by
  unfold atI ixN
  rw [if_pos (by omega), if_pos (by omega)]
  simp
theorem atI_zero {α : Type} (x : α) (xs : List α) : atI (x :: xs) 0 = some x := by
  have := atI_nat (xs := x :: xs) (i := 0) (by simp)
  simpa using this

/-! ### loops -/
theorem lc_pure {T : Tgt} {fb : Env → M Bool} {fe : E} {Γ : Env} {b : D → Bool} {e : D → D} : ∀ {ds : List D}, (∀ d ∈ ds, ∃ Γ1, T d Γ = some Γ1 ∧ fb Γ1 = M.pure (b d) ∧ (b d = true → fe Γ1 = M.pure (e d))) → lcF T fb fe Γ ds = M.pure ((ds.filter b).map e)
  | [], _ => rfl
  | d :: ds, h => by
    obtain ⟨Γ1, h1, h2, h3⟩ := h d List.mem_cons_self
    have ih := lc_pure (ds := ds) fun x hx => h x (List.mem_cons_of_mem _ hx)
    unfold lcF
    rw [h1, M.opt_some, M.pure_bind, h2, M.pure_bind, ih]
    cases hb : b d with
    | false => rw [if_neg (by decide), List.filter_cons_of_neg (by rw [hb]; decide)]
    | true => rw [if_pos rfl, h3 hb, List.filter_cons_of_pos hb]; rfl
theorem loop_find {T : Tgt} {F : SF} (I : Env → Prop) (p : D → Bool) (r : D → D) : ∀ {ds : List D} {Γ : Env}, I Γ → (∀ d ∈ ds, ∀ Γ, I Γ → ∃ Γ1, T d Γ = some Γ1 ∧ ((p d = true ∧ F Γ1 = M.pure (.ret (r d))) ∨ (p d = false ∧ ∃ Γ2, I Γ2 ∧ F Γ1 = M.pure (.nx Γ2)))) →
    (∃ d, ds.find? p = some d ∧ loopF T F ds Γ = M.pure (.ret (r d))) ∨ (ds.find? p = none ∧ ∃ Γ', I Γ' ∧ loopF T F ds Γ = M.pure (.nx Γ'))
  | [], Γ, hI, _ => .inr ⟨rfl, Γ, hI, rfl⟩
  | d :: ds, Γ, hI, h => by
    obtain ⟨Γ1, h1, h2⟩ := h d List.mem_cons_self Γ hI
    rcases h2 with ⟨hp, hF⟩ | ⟨hp, Γ2, hI2, hF⟩
    · refine .inl ⟨d, by rw [List.find?_cons, hp], ?_⟩
      unfold loopF
      rw [h1, M.opt_some, M.pure_bind, hF, M.pure_bind]
    · have ih := loop_find I p r (ds := ds) hI2 fun x hx => h x (List.mem_cons_of_mem _ hx)
      have e : loopF T F (d :: ds) Γ = loopF T F ds Γ2 := by
        unfold loopF
        rw [h1, M.opt_some, M.pure_bind, hF, M.pure_bind]
        cases ds <;> rfl
      rw [e, List.find?_cons, hp]
      exact ih
theorem any_pure {T : Tgt} {fe : E} {Γ : Env} {b : D → Bool} : ∀ {ds : List D}, (∀ d ∈ ds, ∃ Γ1, T d Γ = some Γ1 ∧ fe Γ1 = M.pure (.bl (b d))) → anyF T fe Γ ds = M.pure (ds.any b)
  | [], _ => rfl
  | d :: ds, h => by
    obtain ⟨Γ1, h1, h2⟩ := h d List.mem_cons_self
    have ih := any_pure (ds := ds) fun x hx => h x (List.mem_cons_of_mem _ hx)
    unfold anyF
    rw [h1, M.opt_some, M.pure_bind, h2, M.pure_bind]
    cases hb : b d with
    | true => simp [hb]
    | false => simp [hb, ih]

/-! ### texts and strips as lists of signs -/
def rS (r : List Nat) : Str := ⟨r.toArray⟩
def rD (r : List Nat) : D := .str (rS r)
def rows (R : List (List Nat)) : List D := R.map rD
def sD (R : List (List Nat)) : D := .obj 0 [.tup (rows R)]
@[simp] theorem rS_len (r : List Nat) : (rS r).length = r.length := by
  show r.toArray.size = _
  simp
@[simp] theorem rS_cps (r : List Nat) : (rS r).cps.toList = r := by simp [rS]
@[simp] theorem rows_len (R : List (List Nat)) : (rows R).length = R.length := by unfold rows; rw [List.length_map]
theorem rS_inj {a b : List Nat} : rS a = rS b ↔ a = b := by
  constructor
  · intro h
    rw [← rS_cps a, h, rS_cps]
  · intro h
    rw [h]
theorem sign_eq (c : Nat) : signD c = rD [c] := rfl
@[simp] theorem rows_nil : rows [] = [] := rfl
@[simp] theorem rows_cons (r : List Nat) (R : List (List Nat)) : rows (r :: R) = rD r :: rows R := rfl
theorem rows_get {R : List (List Nat)} {i : Nat} : (rows R)[i]? = (R[i]?).map rD := by unfold rows; rw [List.getElem?_map]
theorem rS_app (a b : List Nat) : rS a ++ rS b = rS (a ++ b) := by
  show (⟨a.toArray ++ b.toArray⟩ : Str) = ⟨(a ++ b).toArray⟩
  simp
theorem rS_rev (r : List Nat) : revS (rS r) = rS r.reverse := by
  unfold revS
  rw [rS_cps]
  rfl
theorem rS_cut (r : List Nat) (lo hi : Option Int) : cutS (rS r) lo hi = rS (cutG r lo hi) := by
  unfold cutS cutG
  rw [rS_cps, rS_len]
  rfl
theorem py_str (r : List Nat) (n : Nat) : isPy n (rD r) = true := by cases n <;> rfl
theorem are_rows (n : Nat) : ∀ R : List (List Nat), arePy n (rows R) = true
  | [] => by cases n <;> rfl
  | r :: R => by
    rw [rows_cons]
    unfold arePy
    rw [py_str, are_rows n R]
    rfl
theorem py_tup (R : List (List Nat)) (n : Nat) : isPy (n + 1) (.tup (rows R)) = true := by
  unfold isPy
  exact are_rows n R
theorem py_lst (R : List (List Nat)) (n : Nat) : isPy (n + 1) (.lst (rows R)) = true := by
  unfold isPy
  exact are_rows n R
theorem eq_str (a b : List Nat) : eqD (rD a) (rD b) = decide (a = b) := by
  unfold eqD rD
  show (rS a == rS b) = _
  by_cases h : a = b
  · subst h; simp
  · have : ¬ rS a = rS b := fun z => h (rS_inj.mp z)
    simp [h, this]
theorem eq_rows : ∀ A B : List (List Nat), PyData.eqvAll (toPys (rows A)) (toPys (rows B)) = decide (A = B)
  | [], [] => by simp [rows, toPys, PyData.eqvAll]
  | [], _ :: _ => by simp [rows, toPys, PyData.eqvAll]
  | _ :: _, [] => by simp [rows, toPys, PyData.eqvAll]
  | a :: A, b :: B => by
    show (eqD (rD a) (rD b) && PyData.eqvAll (toPys (rows A)) (toPys (rows B))) = _
    rw [eq_str, eq_rows A B]
    by_cases h : a = b <;> by_cases h' : A = B <;> simp [h, h']
theorem eq_tup (A B : List (List Nat)) : dEq (.tup (rows A)) (.tup (rows B)) = some (.bl (decide (A = B))) := by
  unfold dEq
  rw [py_tup, py_tup, if_pos ⟨rfl, rfl⟩]
  show some (D.bl (PyData.eqvAll (toPys (rows A)) (toPys (rows B)))) = _
  rw [eq_rows]
theorem ne_lst (A B : List (List Nat)) : dNe (.lst (rows A)) (.lst (rows B)) = some (.bl (!decide (A = B))) := by
  unfold dNe
  rw [py_lst, py_lst, if_pos ⟨rfl, rfl⟩]
  show some (D.bl (!PyData.eqvAll (toPys (rows A)) (toPys (rows B)))) = _
  rw [eq_rows]
theorem ne_str (a b : List Nat) : dNe (rD a) (rD b) = some (.bl (!decide (a = b))) := by
  unfold dNe
  rw [py_str, py_str, if_pos ⟨rfl, rfl⟩, eq_str]
theorem ne_int (i j : Int) : dNe (.int i) (.int j) = some (.bl (!decide (i = j))) := by
  unfold dNe
  rw [if_pos ⟨rfl, rfl⟩]
  show some (D.bl (!(i == j))) = _
  by_cases h : i = j
  · subst h; simp
  · simp [h]
theorem eq_int (i j : Int) : dEq (.int i) (.int j) = some (.bl (decide (i = j))) := by
  unfold dEq
  rw [if_pos ⟨rfl, rfl⟩]
  show some (D.bl (i == j)) = _
  by_cases h : i = j
  · subst h; simp
  · simp [h]
end Dd.Ma
namespace Dd.Ma
open PySem L2
@[simp] theorem nox_pure {α : Type} (a : α) : nox (M.pure a) = M.pure a := rfl
theorem ixs_none (n d : Nat) : HT.sIx n d none = d := rfl
theorem cut_hi {α : Type} (r : List α) (k : Nat) (hk : k ≤ r.length) : cutG r none (some (k : Int)) = r.take k := by
  unfold cutG
  rw [HT.sIx_nat, ixs_none, List.drop_zero, Nat.sub_zero, Nat.min_eq_left hk]
theorem cut_lo {α : Type} (r : List α) (k : Nat) (hk : k ≤ r.length) : cutG r (some (k : Int)) none = r.drop k := by
  unfold cutG
  rw [HT.sIx_nat, ixs_none, Nat.min_eq_left hk, List.take_of_length_le (by simp)]
section
variable {α : Type} {T : Tgt} {fb : Env → M Bool} {fe : E} {Γ : Env}
theorem lc_map (g : α → D) (b : α → Bool) (e : α → D) : ∀ (l : List α), (∀ a ∈ l, ∃ Γ1, T (g a) Γ = some Γ1 ∧ fb Γ1 = M.pure (b a) ∧ (b a = true → fe Γ1 = M.pure (e a))) → lcF T fb fe Γ (l.map g) = M.pure ((l.filter b).map e)
  | [], _ => rfl
  | a :: l, h => by
    obtain ⟨Γ1, h1, h2, h3⟩ := h a List.mem_cons_self
    have ih := lc_map g b e l fun x hx => h x (List.mem_cons_of_mem _ hx)
    rw [List.map_cons]
    unfold lcF
    rw [h1, M.opt_some, M.pure_bind, h2, M.pure_bind, ih]
    cases hb : b a with
    | false => rw [if_neg (by decide), List.filter_cons_of_neg (by rw [hb]; decide)]
    | true => rw [if_pos rfl, h3 hb, List.filter_cons_of_pos hb]; rfl
theorem lc_rows (e : List Nat → D) (R : List (List Nat)) (h : ∀ r ∈ R, ∃ Γ1, T (rD r) Γ = some Γ1 ∧ fb Γ1 = M.pure true ∧ fe Γ1 = M.pure (e r)) : lcF T fb fe Γ (rows R) = M.pure (R.map e) := by
  have := lc_map (T := T) (fb := fb) (fe := fe) (Γ := Γ) rD (fun _ => true) e R fun a ha => by
    obtain ⟨Γ1, h1, h2, h3⟩ := h a ha
    exact ⟨Γ1, h1, h2, fun _ => h3⟩
  rw [List.filter_eq_self.mpr (by simp)] at this
  exact this
theorem intsD_zero (n : Nat) : intsD 0 n = (List.range n).map fun i => .int ((i : Nat) : Int) := by
  unfold intsD
  apply List.map_congr_left
  intro i _
  simp
def ones (n : Nat) : List Nat := (List.range n).map (1 + ·)
theorem mem_ones {n k : Nat} : k ∈ ones n ↔ 0 < k ∧ k ≤ n := by
  unfold ones
  constructor
  · intro h
    obtain ⟨q, hq, e⟩ := List.mem_map.mp h
    have := List.mem_range.mp hq
    omega
  · intro h
    exact List.mem_map.mpr ⟨k - 1, List.mem_range.mpr (by omega), by omega⟩
theorem intsD_one (n : Nat) : intsD 1 n = (ones n).map fun i => .int ((i : Nat) : Int) := by
  unfold intsD ones
  rw [List.map_map]
  apply List.map_congr_left
  intro i _
  simp
theorem lc_nat (b : Nat → Bool) (e : Nat → D) (n : Nat) (h : ∀ i, i < n → ∃ Γ1, T (.int ((i : Nat) : Int)) Γ = some Γ1 ∧ fb Γ1 = M.pure (b i) ∧ (b i = true → fe Γ1 = M.pure (e i))) : lcF T fb fe Γ (intsD 0 n) = M.pure (((List.range n).filter b).map e) := by
  rw [intsD_zero]
  exact lc_map _ b e _ fun a ha => h a (List.mem_range.mp ha)
theorem lc_nats (e : Nat → D) (n : Nat) (h : ∀ i, i < n → ∃ Γ1, T (.int ((i : Nat) : Int)) Γ = some Γ1 ∧ fb Γ1 = M.pure true ∧ fe Γ1 = M.pure (e i)) : lcF T fb fe Γ (intsD 0 n) = M.pure ((List.range n).map e) := by
  rw [lc_nat (fun _ => true) e n fun i hi => by
    obtain ⟨Γ1, h1, h2, h3⟩ := h i hi
    exact ⟨Γ1, h1, h2, fun _ => h3⟩, List.filter_eq_self.mpr (by simp)]
theorem lc_one (b : Nat → Bool) (e : Nat → D) (n : Nat) (h : ∀ i, 0 < i → i ≤ n → ∃ Γ1, T (.int ((i : Nat) : Int)) Γ = some Γ1 ∧ fb Γ1 = M.pure (b i) ∧ (b i = true → fe Γ1 = M.pure (e i))) : lcF T fb fe Γ (intsD 1 n) = M.pure (((ones n).filter b).map e) := by
  rw [intsD_one]
  exact lc_map _ b e _ fun a ha => h a (mem_ones.mp ha).1 (mem_ones.mp ha).2
end
section
variable {α : Type} {T : Tgt} {F : SF}
theorem loop_first (I : Env → Prop) (g : α → D) (p : α → Bool) (r : α → D) : ∀ (l : List α) {Γ : Env}, I Γ → (∀ a ∈ l, ∀ Γ, I Γ → ∃ Γ1, T (g a) Γ = some Γ1 ∧ ((p a = true ∧ F Γ1 = M.pure (.ret (r a))) ∨ (p a = false ∧ ∃ Γ2, I Γ2 ∧ F Γ1 = M.pure (.nx Γ2)))) →
    (∃ a, l.find? p = some a ∧ loopF T F (l.map g) Γ = M.pure (.ret (r a))) ∨ (l.find? p = none ∧ ∃ Γ', I Γ' ∧ loopF T F (l.map g) Γ = M.pure (.nx Γ'))
  | [], Γ, hI, _ => .inr ⟨rfl, Γ, hI, rfl⟩
  | d :: ds, Γ, hI, h => by
    obtain ⟨Γ1, h1, h2⟩ := h d List.mem_cons_self Γ hI
    rcases h2 with ⟨hp, hF⟩ | ⟨hp, Γ2, hI2, hF⟩
    · refine .inl ⟨d, by rw [List.find?_cons, hp], ?_⟩
      rw [List.map_cons]
      unfold loopF
      rw [h1, M.opt_some, M.pure_bind, hF, M.pure_bind]
    · have ih := loop_first I g p r ds hI2 fun x hx => h x (List.mem_cons_of_mem _ hx)
      have e : loopF T F ((d :: ds).map g) Γ = loopF T F (ds.map g) Γ2 := by
        rw [List.map_cons, loopF, h1, M.opt_some, M.pure_bind, hF, M.pure_bind]
      rw [e, List.find?_cons, hp]
      exact ih
/-- a loop that goes on to its end -/
theorem loop_all (I : List α → Env → Prop) (g : α → D) (N : Nat) : ∀ (l don : List α) {Γ : Env}, don.length + l.length ≤ N → I don Γ → (∀ a don Γ, a ∈ l → don.length < N → I don Γ → ∃ Γ1, T (g a) Γ = some Γ1 ∧ ∃ Γ2, I (don ++ [a]) Γ2 ∧ F Γ1 = M.pure (.nx Γ2)) →
    ∃ Γ', I (don ++ l) Γ' ∧ loopF T F (l.map g) Γ = M.pure (.nx Γ')
  | [], don, Γ, _, hI, _ => ⟨Γ, by simpa using hI, rfl⟩
  | d :: ds, don, Γ, hN, hI, h => by
    rw [List.length_cons] at hN
    obtain ⟨Γ1, h1, Γ2, hI2, hF⟩ := h d don Γ List.mem_cons_self (by omega) hI
    obtain ⟨Γ', h3, h4⟩ := loop_all I g N ds (don ++ [d]) (by simp; omega) hI2 fun a b c ha => h a b c (List.mem_cons_of_mem _ ha)
    refine ⟨Γ', by simpa using h3, ?_⟩
    rw [List.map_cons, loopF, h1, M.opt_some, M.pure_bind, hF, M.pure_bind]
    exact h4
end
theorem strs_rows (R : List (List Nat)) : strsOf (rows R) = some (R.map rS) := by
  induction R with
  | nil => rfl
  | cons r R ih =>
    rw [rows_cons]
    show (strsOf (rows R)).map (rS r :: ·) = _
    rw [ih]
    rfl
end Dd.Ma
namespace Dd.Ma
open PySem L2
section
variable {α β : Type} {T : Tgt} {F : SF}
theorem loop_then (I : Env → Prop) (g : α → D) (p : α → Bool) (r : α → D) (l : List α) {Γ : Env} {k : SO → M β} {z : M β} (hI : I Γ) (h : ∀ a ∈ l, ∀ Γ, I Γ → ∃ Γ1, T (g a) Γ = some Γ1 ∧ ((p a = true ∧ F Γ1 = M.pure (.ret (r a))) ∨ (p a = false ∧ ∃ Γ2, I Γ2 ∧ F Γ1 = M.pure (.nx Γ2)))) (hk : ∀ Γ', I Γ' → k (.nx Γ') = z) :
    M.bind (loopF T F (l.map g) Γ) k = (l.find? p).elim z fun a => k (.ret (r a)) := by
  rcases loop_first I g p r l hI h with ⟨a, e, e2⟩ | ⟨e, Γ', hI', e2⟩
  · rw [e, e2, M.pure_bind]; rfl
  · rw [e, e2, M.pure_bind, hk _ hI']; rfl
theorem loop_one (I : Env → Prop) (p : Nat → Bool) (r : Nat → D) (n : Nat) {Γ : Env} {k : SO → M β} {z : M β} (hI : I Γ) (h : ∀ a : Nat, 0 < a → a ≤ n → ∀ Γ, I Γ → ∃ Γ1, T (.int (a : Int)) Γ = some Γ1 ∧ ((p a = true ∧ F Γ1 = M.pure (.ret (r a))) ∨ (p a = false ∧ ∃ Γ2, I Γ2 ∧ F Γ1 = M.pure (.nx Γ2)))) (hk : ∀ Γ', I Γ' → k (.nx Γ') = z) :
    M.bind (loopF T F (intsD 1 n) Γ) k = ((ones n).find? p).elim z fun a => k (.ret (r a)) := by
  rw [intsD_one]
  exact loop_then I _ p r _ hI (fun a ha => h a (mem_ones.mp ha).1 (mem_ones.mp ha).2) hk
theorem loop_nat (I : Env → Prop) (p : Nat → Bool) (r : Nat → D) (n : Nat) {Γ : Env} {k : SO → M β} {z : M β} (hI : I Γ) (h : ∀ a : Nat, a < n → ∀ Γ, I Γ → ∃ Γ1, T (.int (a : Int)) Γ = some Γ1 ∧ ((p a = true ∧ F Γ1 = M.pure (.ret (r a))) ∨ (p a = false ∧ ∃ Γ2, I Γ2 ∧ F Γ1 = M.pure (.nx Γ2)))) (hk : ∀ Γ', I Γ' → k (.nx Γ') = z) :
    M.bind (loopF T F (intsD 0 n) Γ) k = ((List.range n).find? p).elim z fun a => k (.ret (r a)) := by
  rw [intsD_zero]
  exact loop_then I _ p r _ hI (fun a ha => h a (List.mem_range.mp ha)) hk
theorem all_then (I : List α → Env → Prop) (g : α → D) (l : List α) {Γ : Env} {k : SO → M β} {z : M β} (hI : I [] Γ) (h : ∀ a don Γ, a ∈ l → don.length < l.length → I don Γ → ∃ Γ1, T (g a) Γ = some Γ1 ∧ ∃ Γ2, I (don ++ [a]) Γ2 ∧ F Γ1 = M.pure (.nx Γ2)) (hk : ∀ Γ', I l Γ' → k (.nx Γ') = z) :
    M.bind (loopF T F (l.map g) Γ) k = z := by
  obtain ⟨Γ', h1, h2⟩ := loop_all I g l.length l [] (by simp) hI h
  rw [h2, M.pure_bind, hk _ (by simpa using h1)]
theorem all_nat (I : List Nat → Env → Prop) (n : Nat) {Γ : Env} {k : SO → M β} {z : M β} (hI : I [] Γ) (h : ∀ (a : Nat) don Γ, a < n → don.length < n → I don Γ → ∃ Γ1, T (.int (a : Int)) Γ = some Γ1 ∧ ∃ Γ2, I (don ++ [a]) Γ2 ∧ F Γ1 = M.pure (.nx Γ2)) (hk : ∀ Γ', I (List.range n) Γ' → k (.nx Γ') = z) :
    M.bind (loopF T F (intsD 0 n) Γ) k = z := by
  rw [intsD_zero]
  exact all_then I _ _ hI (fun a don Γ ha hd => h a don Γ (List.mem_range.mp ha) (by simpa using hd)) hk
end
end Dd.Ma
namespace Dd.Ma
open PySem L2 K1

structure Ok (R : List (List Nat)) (h W : Nat) : Prop where
  len : R.length = h
  hp : 0 < h
  wd : ∀ r ∈ R, r.length = W
  wp : 0 < W
def sg (R : List (List Nat)) (W : Nat) (x : Int) (y : Nat) : Nat := ((R[y]?).getD [])[(x % W).toNat]?.getD 0
section
variable {R : List (List Nat)} {h W : Nat}
theorem Ok.row (o : Ok R h W) {y : Nat} (hy : y < h) : ∃ r, R[y]? = some r ∧ r.length = W := by
  have hl : y < R.length := by rw [o.len]; exact hy
  exact ⟨R[y], List.getElem?_eq_getElem hl, o.wd _ (List.getElem_mem hl)⟩
theorem Ok.head (o : Ok R h W) : ∃ r R', R = r :: R' ∧ r.length = W := by
  cases R with
  | nil => have := o.len; have := o.hp; simp at *; omega
  | cons r R' => exact ⟨r, R', rfl, o.wd r List.mem_cons_self⟩
theorem mod_nat (x : Int) {W : Nat} (wp : 0 < W) : ∃ k : Nat, x % (W : Int) = (k : Int) ∧ k < W := by
  have h0 : 0 ≤ x % (W : Int) := Int.emod_nonneg _ (by omega)
  have h1 : x % (W : Int) < W := Int.emod_lt_of_pos _ (by omega)
  exact ⟨(x % (W : Int)).toNat, by omega, by omega⟩
theorem ix_sign {r : List Nat} (hr : r.length = W) (wp : 0 < W) (x : Int) : dIx (rD r) (.int (x % (W : Int))) = some (rD [r[(x % (W : Int)).toNat]?.getD 0]) := by
  obtain ⟨k, e, hk⟩ := mod_nat x wp
  unfold rD
  rw [o_ix3, e, rS_cps, atI_nat (by rw [hr]; exact hk)]
  have : k < r.length := by rw [hr]; exact hk
  simp [List.getElem?_eq_getElem this, sign_eq, rD]
theorem f_law_at (o : Ok R h W) (x : Int) {y : Nat} (hy : y < h) : Fn_law_at [.lst (rows R), .int x, .int (y : Int)] = M.pure (rD [sg R W x y]) := by
  obtain ⟨r0, R', e0, h0⟩ := o.head
  obtain ⟨r, e1, h1⟩ := o.row hy
  have a0 : atI (rows R) 0 = some (rD r0) := by rw [e0]; exact atI_zero _ _
  have a1 : atI (rows R) (y : Int) = some (rD r) := by
    rw [atI_nat (by rw [rows_len, o.len]; exact hy), rows_get, e1]
    rfl
  have l0 : dLen [rD r0] = some (.int (W : Int)) := by
    show some (D.int (((rS r0).length : Nat) : Int)) = _
    rw [rS_len, h0]
  simp [Fn_law_at, F_law_at, eVar_def, a0, a1, l0, o.wp, ix_sign h1 o.wp, sg, e1]
end
end Dd.Ma
namespace Dd.Ma
open PySem L2

/-! ### strips by their signs -/
def mk (W h : Nat) (f : Int → Nat → Nat) : List (List Nat) := (List.range h).map fun y => (List.range W).map fun x => f ((x : Nat) : Int) y
section
variable {R : List (List Nat)} {h W : Nat} {f g : Int → Nat → Nat}
theorem mk_ok (wp : 0 < W) (hp : 0 < h) : Ok (mk W h f) h W where
  len := by simp [mk]
  hp := hp
  wd := fun r hr => by
    obtain ⟨y, _, e⟩ := List.mem_map.mp hr
    rw [← e]
    simp
  wp := wp
theorem sg_mk (wp : 0 < W) {x : Int} {y : Nat} (hy : y < h) : sg (mk W h f) W x y = f (x % W) y := by
  obtain ⟨k, e, hk⟩ := mod_nat x wp
  unfold sg mk
  rw [e]
  simp [hy, hk]
theorem sg_nat (o : Ok R h W) {x y : Nat} (hy : y < h) (hx : x < W) : ∃ r, R[y]? = some r ∧ r[x]? = some (sg R W (x : Int) y) := by
  obtain ⟨r, e1, h1⟩ := o.row hy
  refine ⟨r, e1, ?_⟩
  unfold sg
  have : ((x : Int) % (W : Int)).toNat = x := by
    rw [Int.emod_eq_of_lt (by omega) (by omega)]
    rfl
  rw [this, e1]
  have : x < r.length := by rw [h1]; exact hx
  simp [List.getElem?_eq_getElem this]
theorem eq_mk {A : List (List Nat)} (o : Ok A h W) (k : ∀ y, y < h → ∀ x, x < W → ∃ r, A[y]? = some r ∧ r[x]? = some (f ((x : Nat) : Int) y)) : A = mk W h f := by
  have om : Ok (mk W h f) h W := mk_ok o.wp o.hp
  apply List.ext_getElem?
  intro y
  by_cases hy : y < h
  · obtain ⟨r, e1, h1⟩ := o.row hy
    have e2 : (mk W h f)[y]? = some ((List.range W).map fun x => f ((x : Nat) : Int) y) := by simp [mk, hy]
    rw [e1, e2]
    congr 1
    apply List.ext_getElem?
    intro x
    by_cases hx : x < W
    · obtain ⟨r', e3, e4⟩ := k y hy x hx
      rw [e1] at e3
      cases e3
      rw [e4]
      simp [hx]
    · rw [List.getElem?_eq_none (by omega), List.getElem?_eq_none (by simp; omega)]
  · rw [List.getElem?_eq_none (by rw [o.len]; omega), List.getElem?_eq_none (by rw [om.len]; omega)]
theorem mk_sg (o : Ok R h W) : R = mk W h (sg R W) := eq_mk o fun y hy x hx => sg_nat o hy hx
theorem sg_dvd {x x' : Int} {y : Nat} (d : (W : Int) ∣ x - x') : sg R W x y = sg R W x' y := by
  unfold sg
  rw [Int.emod_eq_emod_iff_emod_sub_eq_zero.mpr (Int.emod_eq_zero_of_dvd d)]
theorem dvd_mod (x : Int) : (W : Int) ∣ x % W - x := ⟨-(x / W), by have := Int.emod_add_mul_ediv x W; rw [Int.mul_neg]; omega⟩
theorem sg_mod {x : Int} {y : Nat} : sg R W (x % W) y = sg R W x y := sg_dvd (dvd_mod x)
theorem sg_modA {x m : Int} {y : Nat} : sg R W (x % W + m) y = sg R W (x + m) y := sg_dvd (by
  have := dvd_mod (W := W) x
  have e : x % W + m - (x + m) = x % W - x := by omega
  rw [e]; exact this)
theorem sg_modS {x m : Int} {y : Nat} : sg R W (m - x % W) y = sg R W (m - x) y := sg_dvd (by
  have := dvd_mod (W := W) x
  have e : m - x % W - (m - x) = -(x % W - x) := by omega
  rw [e]; exact (Int.dvd_neg).mpr this)
/-- two made of the same signs -/
theorem mk_congr (k : ∀ y, y < h → ∀ x : Int, f x y = g x y) : mk W h f = mk W h g := by
  unfold mk
  apply List.map_congr_left
  intro y hy
  apply List.map_congr_left
  intro x _
  exact k y (List.mem_range.mp hy) _
theorem mk_eq (wp : 0 < W) (o : Ok R h W) (pf : ∀ (x : Int) (y : Nat), f (x % W) y = f x y) : mk W h f = R ↔ ∀ y, y < h → ∀ x : Int, f x y = sg R W x y := by
  constructor
  · intro e y hy x
    rw [← e, sg_mk wp hy, pf]
  · intro k
    rw [mk_sg o]
    exact mk_congr k

/-! ### what keeps a strip -/
def to (h : Nat) (flip turn : Bool) (more : Int) (x : Int) (y : Nat) : Int × Nat := (if turn = true then more - x else x + more, if flip = true then h - 1 - y else y)
def Kp (R : List (List Nat)) (h W : Nat) (flip turn : Bool) (more : Int) : Prop := ∀ y, y < h → ∀ x : Int, sg R W x y = sg R W (if turn = true then more - x else x + more) (if flip = true then h - 1 - y else y)
noncomputable def kp (R : List (List Nat)) (h W : Nat) (flip turn : Bool) (more : Int) : Bool := open Classical in decide (Kp R h W flip turn more)
theorem kp_iff {flip turn : Bool} {more : Int} : kp R h W flip turn more = true ↔ Kp R h W flip turn more := by unfold kp; simp
theorem kp_nat (o : Ok R h W) {flip turn : Bool} {more : Int} : Kp R h W flip turn more ↔ ∀ y, y < h → ∀ x : Nat, x < W → sg R W (x : Int) y = sg R W (if turn = true then more - (x : Int) else (x : Int) + more) (if flip = true then h - 1 - y else y) := by
  constructor
  · intro k y hy x _
    exact k y hy x
  · intro k y hy x
    obtain ⟨n, e, hn⟩ := mod_nat x o.wp
    have q := k y hy n hn
    rw [← e, sg_mod] at q
    rw [q]
    cases turn with
    | true => simp only [if_true]; exact sg_modS
    | false => simp only [Bool.false_eq_true, if_false]; exact sg_modA
theorem kp_turn (o : Ok R h W) (flip turn : Bool) {m m' : Int} (k : Kp R h W flip turn m) (p : Kp R h W false false m') : Kp R h W flip turn (m + m') := fun y hy x => by
  have hy' : (if flip = true then h - 1 - y else y) < h := by split <;> omega
  rw [k y hy x, p _ hy' _]
  simp only [Bool.false_eq_true, if_false]
  congr 1
  split <;> omega
theorem kp_zero : Kp R h W false false 0 := fun y _ x => by simp
theorem kp_W : Kp R h W false false W := fun y _ x => by
  simp only [Bool.false_eq_true, if_false]
  exact sg_dvd ⟨-1, by omega⟩
theorem kp_neg {m : Int} (k : Kp R h W false false m) : Kp R h W false false (-m) := fun y hy x => by
  have := k y hy (x - m)
  simp only [Bool.false_eq_true, if_false] at this ⊢
  rw [show x + -m = x - m by omega, this, show x - m + m = x by omega]
theorem kp_mul (o : Ok R h W) {m : Int} (k : Kp R h W false false m) : ∀ n : Nat, Kp R h W false false (m * n)
  | 0 => by simpa using kp_zero
  | n + 1 => by
    have := kp_turn o false false (kp_mul o k n) k
    have e : m * ((n + 1 : Nat) : Int) = m * (n : Int) + m := by
      rw [Int.natCast_add, Int.mul_add]; simp
    rw [e]; exact this
theorem kp_mulI (o : Ok R h W) {m : Int} (k : Kp R h W false false m) (n : Int) : Kp R h W false false (m * n) := by
  rcases Int.eq_nat_or_neg n with ⟨a, e | e⟩
  · rw [e]; exact kp_mul o k a
  · rw [e, Int.mul_neg]; exact kp_neg (kp_mul o k a)
theorem kp_dvd (o : Ok R h W) (flip turn : Bool) {p m m' : Int} (pk : Kp R h W false false p) (d : p ∣ m' - m) (k : Kp R h W flip turn m) : Kp R h W flip turn m' := by
  obtain ⟨c, e⟩ := d
  have := kp_turn o flip turn k (kp_mulI o pk c)
  rw [← e, show m + (m' - m) = m' by omega] at this
  exact this

/-! ### the period -/
noncomputable def pdB (R : List (List Nat)) (h W : Nat) (k : Nat) : Bool := decide (W % k = 0) && kp R h W false false (k : Int)
noncomputable def pd (R : List (List Nat)) (h W : Nat) : Nat := ((ones (W - 1)).find? (pdB R h W)).getD W
theorem find_ones {n : Nat} {b : Nat → Bool} {p : Nat} (e : (ones n).find? b = some p) : 0 < p ∧ p ≤ n ∧ b p = true ∧ ∀ k, 0 < k → k < p → b k = false := by
  unfold ones at e
  rw [List.find?_map] at e
  cases e1 : (List.range n).find? (b ∘ (1 + ·)) with
  | none => rw [e1] at e; cases e
  | some q =>
    rw [e1] at e
    simp at e
    obtain ⟨h1, h2, h3⟩ := List.find?_range_eq_some.mp e1
    have h2 := List.mem_range.mp h2
    subst e
    refine ⟨by omega, by omega, h1, fun k hk hk2 => ?_⟩
    have := h3 (k - 1) (by omega)
    have e4 : 1 + (k - 1) = k := by omega
    simpa [Function.comp, e4] using this
theorem find_ones_none {n : Nat} {b : Nat → Bool} (e : (ones n).find? b = none) {k : Nat} (h0 : 0 < k) (h1 : k ≤ n) : b k = false := by
  have := List.find?_eq_none.mp e k (List.mem_map.mpr ⟨k - 1, List.mem_range.mpr (by omega), by omega⟩)
  simpa using this
theorem pd_least (o : Ok R h W) : 0 < pd R h W ∧ pd R h W ≤ W ∧ W % pd R h W = 0 ∧ Kp R h W false false (pd R h W : Nat) ∧ ∀ k : Nat, 0 < k → pdB R h W k = true → pd R h W ≤ k := by
  unfold pd
  cases e : (ones (W - 1)).find? (pdB R h W) with
  | none =>
    refine ⟨o.wp, Nat.le_refl _, by simp, kp_W, fun k hk hb => ?_⟩
    apply Classical.byContradiction
    intro hc
    have hc : k < W := by simpa using hc
    rw [find_ones_none e hk (by omega)] at hb
    cases hb
  | some p =>
    obtain ⟨h1, h2, hb, h3⟩ := find_ones e
    unfold pdB at hb
    simp only [Bool.and_eq_true, decide_eq_true_eq, kp_iff] at hb
    refine ⟨by simpa using h1, by simp; omega, by simpa using hb.1, by simpa using hb.2, fun k hk hk2 => ?_⟩
    apply Classical.byContradiction
    intro hc
    have hc : k < p := by simpa using hc
    rw [h3 k hk hc] at hk2
    cases hk2
/-- what the law counts is the same -/
theorem pd_law (o : Ok R h W) : ((ones W).filter (pdB R h W)).head? = some (pd R h W) := by
  rw [List.head?_filter]
  have hW : pdB R h W W = true := by unfold pdB; simp [kp_iff, kp_W]
  obtain ⟨p1, p2, p3, p4, p5⟩ := pd_least o
  cases e : (ones W).find? (pdB R h W) with
  | none => rw [find_ones_none e o.wp (Nat.le_refl _)] at hW; cases hW
  | some q =>
    obtain ⟨h1, h2, hb, h3⟩ := find_ones e
    have a := p5 q h1 hb
    congr 1
    apply Classical.byContradiction
    intro hc
    have hb2 : pdB R h W (pd R h W) = true := by unfold pdB; simp [kp_iff, p3, p4]
    rw [h3 _ p1 (by omega)] at hb2
    cases hb2
theorem least {P : Nat → Prop} (n : Nat) (hn : P n) : ∃ g, P g ∧ ∀ j, j < g → ¬ P j := by
  induction n using Nat.strongRecOn with
  | _ n ih =>
    by_cases c : ∃ j, j < n ∧ P j
    · obtain ⟨j, hj, pj⟩ := c
      exact ih j hj pj
    · exact ⟨n, hn, fun j hj pj => c ⟨j, hj, pj⟩⟩
/-- a period is a multiple of the least one -/
theorem pd_all (o : Ok R h W) {m : Int} (k : Kp R h W false false m) : ((pd R h W : Nat) : Int) ∣ m := by
  obtain ⟨p1, p2, p3, p4, p5⟩ := pd_least o
  -- the least of all
  have ex : ∃ g : Nat, 0 < g ∧ Kp R h W false false (g : Int) ∧ ∀ j : Nat, j < g → ¬ (0 < j ∧ Kp R h W false false (j : Int)) := by
    have : ∃ g : Nat, 0 < g ∧ Kp R h W false false (g : Int) := ⟨_, p1, p4⟩
    obtain ⟨n, hn⟩ := this
    obtain ⟨g, hg, hl⟩ := least (P := fun j => 0 < j ∧ Kp R h W false false (j : Int)) n hn
    exact ⟨g, hg.1, hg.2, hl⟩
  obtain ⟨g, g1, g2, g3⟩ := ex
  have dv : ∀ n : Int, Kp R h W false false n → (g : Int) ∣ n := fun n kn => by
    have k2 := kp_turn o false false kn (kp_mulI o g2 (-(n / g)))
    have e : n + (g : Int) * -(n / g) = n % g := by
      have := Int.emod_add_mul_ediv n g
      rw [Int.mul_neg]; omega
    rw [e] at k2
    obtain ⟨r, e2, hr⟩ := mod_nat n g1
    rw [e2] at k2
    apply Int.dvd_of_emod_eq_zero
    rw [e2]
    apply Classical.byContradiction
    intro hc
    exact g3 r hr ⟨by omega, k2⟩
  have gW : W % g = 0 := by
    have := Int.emod_eq_zero_of_dvd (dv W kp_W)
    omega
  have le := p5 g g1 (by unfold pdB; simp [kp_iff, gW, g2])
  have gd := dv _ p4
  have : g = pd R h W := by
    have := Nat.le_of_dvd p1 (Int.natCast_dvd_natCast.mp gd)
    omega
  rw [← this]
  exact dv m k
theorem pd_unique {R' : List (List Nat)} {h' W' : Nat} (o : Ok R h W) (o' : Ok R' h' W') (e : ∀ m : Int, Kp R h W false false m ↔ Kp R' h' W' false false m) : pd R h W = pd R' h' W' := by
  obtain ⟨p1, _, _, p4, _⟩ := pd_least o
  obtain ⟨q1, _, _, q4, _⟩ := pd_least o'
  have a := Int.natCast_dvd_natCast.mp (pd_all o ((e _).mpr q4))
  have b := Int.natCast_dvd_natCast.mp (pd_all o' ((e _).mp p4))
  exact Nat.dvd_antisymm a b
end
end Dd.Ma
namespace Dd.Ma
open PySem L2 K1
section
variable {R : List (List Nat)} {h W : Nat}
theorem Ok.rev (o : Ok R h W) : Ok R.reverse h W := ⟨by simp [o.len], o.hp, fun r hr => o.wd r (by simpa using hr), o.wp⟩
theorem rev_mk (o : Ok R h W) : R.reverse = mk W h (fun x y => sg R W x (h - 1 - y)) := eq_mk o.rev fun y hy x hx => by
  obtain ⟨r, e1, e2⟩ := sg_nat o (y := h - 1 - y) (by omega) hx
  refine ⟨r, ?_, e2⟩
  rw [List.getElem?_reverse (by rw [o.len]; exact hy), o.len]
  exact e1
theorem lr_mk (o : Ok R h W) : R.map List.reverse = mk W h (fun x y => sg R W (-1 - x) y) := eq_mk ⟨by simp [o.len], o.hp, fun r hr => by
    obtain ⟨q, hq, e⟩ := List.mem_map.mp hr
    rw [← e, List.length_reverse]
    exact o.wd q hq, o.wp⟩ fun y hy x hx => by
  obtain ⟨r, e1, e2⟩ := sg_nat o hy (x := W - 1 - x) (by omega)
  have hr : r.length = W := by
    obtain ⟨r', e3, e4⟩ := o.row hy
    rw [e1] at e3; cases e3; exact e4
  refine ⟨r.reverse, by rw [List.getElem?_map, e1]; rfl, ?_⟩
  rw [List.getElem?_reverse (by rw [hr]; exact hx), hr, e2]
  congr 1
  exact sg_dvd ⟨1, by omega⟩
theorem mv_mk (o : Ok R h W) {m : Int} {s : Nat} (hs : m % (W : Int) = (s : Int)) (h2 : s < W) : R.map (fun r => r.drop s ++ r.take s) = mk W h (fun x y => sg R W (x + m) y) := eq_mk ⟨by simp [o.len], o.hp, fun r hr => by
    obtain ⟨q, hq, e⟩ := List.mem_map.mp hr
    have := o.wd q hq
    rw [← e]
    simp; omega, o.wp⟩ fun y hy x hx => by
  obtain ⟨r', e3, hr⟩ := o.row hy
  have key : ∀ z : Nat, z < W → ((W : Int) ∣ (z : Int) - ((x : Int) + m)) → r'[z]? = some (sg R W ((x : Int) + m) y) := fun z hz d => by
    obtain ⟨r, e1, e2⟩ := sg_nat o hy (x := z) hz
    rw [e3] at e1; cases e1
    rw [e2, sg_dvd d]
  refine ⟨r'.drop s ++ r'.take s, by rw [List.getElem?_map, e3]; rfl, ?_⟩
  have dm := dvd_mod (W := W) m
  rw [hs] at dm
  rw [List.getElem?_append]
  split
  · rename_i hl
    rw [List.length_drop, hr] at hl
    rw [List.getElem?_drop]
    refine key _ (by omega) ?_
    have e : (((s + x : Nat) : Int)) - ((x : Int) + m) = (s : Int) - m := by omega
    rw [e]; exact dm
  · rename_i hl
    rw [List.length_drop, hr] at hl ⊢
    rw [List.getElem?_take, if_pos (by omega)]
    refine key _ (by omega) ?_
    obtain ⟨c, hc⟩ := dm
    refine ⟨c - 1, ?_⟩
    rw [Int.mul_sub, ← hc]
    omega
/-! ### the program's strip -/
theorem ne_len (o : Ok R h W) {r : List Nat} (hr : r ∈ R) : dLen [rD r] = some (.int (W : Int)) := by
  show some (D.int (((rS r).length : Nat) : Int)) = _
  rw [rS_len, o.wd r hr]
theorem len_head (o : Ok R h W) : ∃ r, atI (rows R) 0 = some (rD r) ∧ dLen [rD r] = some (.int (W : Int)) := by
  obtain ⟨r0, R', e0, h0⟩ := o.head
  exact ⟨r0, by rw [e0]; exact atI_zero _ _, ne_len o (by rw [e0]; exact List.mem_cons_self)⟩
theorem f_init (o : Ok R h W) (h8 : h ≤ 8) (w24 : W ≤ 24) (d : D) (hd : d = .lst (rows R) ∨ d = .tup (rows R)) : Fn_Strip_init [d] = M.pure (sD R) := by
  obtain ⟨r0, a0, l0⟩ := len_head o
  have tp : dTuple [d] = some (.tup (rows R)) := by rcases hd with e | e <;> rw [e] <;> rfl
  have k1 : (0 : Int) < (h : Int) := by have := o.hp; omega
  have k2 : (0 : Int) < (W : Int) := by have := o.wp; omega
  have k3 : (h : Int) ≤ 8 := by omega
  have k4 : (W : Int) ≤ 24 := by omega
  have an : anyF (tName 2) (eOp dNe (eCall dLen (aCons (eVar 2) (aNil))) (eCall dLen (aCons (eIx (eFld 0 0 (eVar 0)) (eC (.int 0))) (aNil)))) [.v (sD R), .v d, .no] (rows R) = M.pure ((rows R).any fun _ => false) := any_pure fun r hr => by
    obtain ⟨q, hq, e⟩ := List.mem_map.mp hr
    subst e
    refine ⟨_, rfl, ?_⟩
    simp [eVar_def, sD, a0, l0, ne_len o hq, ne_int]
  have an2 : (rows R).any (fun _ => false) = false := by simp
  rw [an2] at an
  simp only [sD] at an
  simp [Fn_Strip_init, initF, E_Strip_init, F_Strip_init, eVar_def, tp, a0, l0, G_MOST_HIGH, G_MOST_WIDE, o.len, k1, k2, k3, k4, eAny, iSeq, wipeG, an, seqOf]
  simp [o.hp, o.wp, sD]
end
end Dd.Ma
namespace Dd.Ma
open PySem L2 K1
def mv (R : List (List Nat)) (h W : Nat) (m : Int) : List (List Nat) := mk W h fun x y => sg R W (x + m) y
def lr (R : List (List Nat)) (h W : Nat) : List (List Nat) := mk W h fun x y => sg R W (-1 - x) y
def ud (R : List (List Nat)) (h W : Nat) : List (List Nat) := mk W h fun x y => sg R W x (h - 1 - y)
def tr (R : List (List Nat)) (h W : Nat) : List (List Nat) := mk W h fun x y => sg R W (-1 - x) (h - 1 - y)
/-- a strip that the program takes -/
structure St (R : List (List Nat)) (h W : Nat) : Prop where
  o : Ok R h W
  h8 : h ≤ 8
  w24 : W ≤ 24
section
variable {R : List (List Nat)} {h W : Nat}
theorem St.mk' (s : St R h W) (f : Int → Nat → Nat) : St (Ma.mk W h f) h W := ⟨mk_ok s.o.wp s.o.hp, s.h8, s.w24⟩
theorem sg_mv (s : St R h W) {m x : Int} {y : Nat} (hy : y < h) : sg (mv R h W m) W x y = sg R W (x + m) y := by
  unfold mv; rw [sg_mk s.o.wp hy, sg_modA]
theorem sg_lr (s : St R h W) {x : Int} {y : Nat} (hy : y < h) : sg (lr R h W) W x y = sg R W (-1 - x) y := by
  unfold lr; rw [sg_mk s.o.wp hy, sg_modS]
theorem sg_ud (s : St R h W) {x : Int} {y : Nat} (hy : y < h) : sg (ud R h W) W x y = sg R W x (h - 1 - y) := by
  unfold ud; rw [sg_mk s.o.wp hy, sg_mod]
theorem sg_tr (s : St R h W) {x : Int} {y : Nat} (hy : y < h) : sg (tr R h W) W x y = sg R W (-1 - x) (h - 1 - y) := by
  unfold tr; rw [sg_mk s.o.wp hy, sg_modS]
/-- two strips are one if sign by sign -/
theorem eq_iff {R' : List (List Nat)} (o : Ok R h W) (o' : Ok R' h W) : R = R' ↔ ∀ y, y < h → ∀ x : Int, sg R W x y = sg R' W x y := by
  constructor
  · intro e y _ x; rw [e]
  · intro k
    rw [mk_sg o, mk_sg o']
    exact mk_congr k
theorem keep_mv (s : St R h W) {m : Int} : mv R h W m = R ↔ Kp R h W false false m := by
  rw [eq_iff (show Ok (mv R h W m) h W from (s.mk' _).o) s.o]
  constructor
  · intro k y hy x
    have := k y hy x
    rw [sg_mv s hy] at this
    simpa using this.symm
  · intro k y hy x
    rw [sg_mv s hy]
    simpa using (k y hy x).symm
theorem St.mv (s : St R h W) (m : Int) : St (Ma.mv R h W m) h W := s.mk' _
theorem St.lr (s : St R h W) : St (Ma.lr R h W) h W := s.mk' _
theorem St.ud (s : St R h W) : St (Ma.ud R h W) h W := s.mk' _
theorem St.tr (s : St R h W) : St (Ma.tr R h W) h W := s.mk' _
theorem keep_lr (s : St R h W) {p : Int} : mv (lr R h W) h W (-p) = R ↔ Kp R h W false true (p - 1) := by
  rw [eq_iff (s.lr.mv _).o s.o]
  have e : ∀ y, y < h → ∀ x : Int, sg (mv (lr R h W) h W (-p)) W x y = sg R W (p - 1 - x) y := fun y hy x => by
    rw [sg_mv s.lr hy, sg_lr s hy]
    congr 1
    omega
  exact ⟨fun k y hy x => by simpa [e y hy x] using (k y hy x).symm, fun k y hy x => by simpa [e y hy x] using (k y hy x).symm⟩
theorem keep_tr (s : St R h W) {p : Int} : mv (tr R h W) h W (-p) = R ↔ Kp R h W true true (p - 1) := by
  rw [eq_iff (s.tr.mv _).o s.o]
  have e : ∀ y, y < h → ∀ x : Int, sg (mv (tr R h W) h W (-p)) W x y = sg R W (p - 1 - x) (h - 1 - y) := fun y hy x => by
    rw [sg_mv s.tr hy, sg_tr s hy]
    congr 1
    omega
  exact ⟨fun k y hy x => by simpa [e y hy x] using (k y hy x).symm, fun k y hy x => by simpa [e y hy x] using (k y hy x).symm⟩
theorem keep_ud (s : St R h W) {p : Int} : mv (ud R h W) h W p = R ↔ Kp R h W true false p := by
  rw [eq_iff (s.ud.mv _).o s.o]
  have e : ∀ y, y < h → ∀ x : Int, sg (mv (ud R h W) h W p) W x y = sg R W (x + p) (h - 1 - y) := fun y hy x => by
    rw [sg_mv s.ud hy, sg_ud s hy]
  exact ⟨fun k y hy x => by simpa [e y hy x] using (k y hy x).symm, fun k y hy x => by simpa [e y hy x] using (k y hy x).symm⟩
theorem keep_lev (s : St R h W) : ud R h W = R ↔ Kp R h W true false 0 := by
  rw [eq_iff s.ud.o s.o]
  exact ⟨fun k y hy x => by simpa [sg_ud s hy] using (k y hy x).symm, fun k y hy x => by simpa [sg_ud s hy] using (k y hy x).symm⟩

/-! ### the program's methods -/
theorem St.init (s : St R h W) (d : D) (hd : d = .lst (rows R) ∨ d = .tup (rows R)) : Fn_Strip_init [d] = M.pure (sD R) := f_init s.o s.h8 s.w24 d hd
theorem f_wide (s : St R h W) : Fn_Strip_wide [sD R] = M.pure (.int W) := by
  obtain ⟨r0, a0, l0⟩ := len_head s.o
  simp [Fn_Strip_wide, F_Strip_wide, eVar_def, sD, a0, l0]
theorem f_at (s : St R h W) (x : Int) {y : Nat} (hy : y < h) : Fn_Strip_at [sD R, .int x, .int (y : Int)] = M.pure (rD [sg R W x y]) := by
  have o := s.o
  obtain ⟨r, e1, h1⟩ := o.row hy
  have a1 : atI (rows R) (y : Int) = some (rD r) := by
    rw [atI_nat (by rw [rows_len, o.len]; exact hy), rows_get, e1]
    rfl
  have wd := f_wide s
  simp only [sD] at wd
  have k1 : (0 : Int) ≤ (y : Int) := by omega
  have k2 : ((y : Int) < (h : Int)) := by omega
  have e3 : ∀ q : List Nat, R[y]? = some q → q = r := fun q hq => by rw [e1] at hq; exact (Option.some.inj hq).symm
  unfold sg
  rw [e1]
  simp [Fn_Strip_at, F_Strip_at, eVar_def, sD, a1, wd, o.wp, o.len, k1, k2, ix_sign h1 o.wp, hy]
theorem f_at_no (s : St R h W) (x y : Int) (hy : y < 0 ∨ (h : Int) ≤ y) : Fn_Strip_at [sD R, .int x, .int y] = M.exc 1 := by
  have o := s.o
  rcases hy with k | k
  · simp [Fn_Strip_at, F_Strip_at, eVar_def, sD, o.len, show ¬ (0 ≤ y) by omega]
  · by_cases q : 0 ≤ y
    · simp [Fn_Strip_at, F_Strip_at, eVar_def, sD, o.len, q, show ¬ (y < (h : Int)) by omega]
    · simp [Fn_Strip_at, F_Strip_at, eVar_def, sD, o.len, q]
theorem f_moved (s : St R h W) (m : Int) : Fn_Strip_moved [sD R, .int m] = M.pure (sD (mv R h W m)) := by
  have o := s.o
  obtain ⟨k, e, hk⟩ := mod_nat m o.wp
  have wd := f_wide s
  simp only [sD] at wd
  have lc : lcF (tName 3) bYes (eOp dAdd (eSl (eVar 3) (oSome (eVar 2)) oNone) (eSl (eVar 3) oNone (oSome (eVar 2)))) [.v (.obj 0 [.tup (rows R)]), .v (.int m), .v (.int (k : Int)), .no] (rows R) = M.pure (rows (mv R h W m)) := by
    rw [lc_rows (fun r => rD (r.drop k ++ r.take k)) R fun r hr => ⟨_, rfl, rfl, by
      have hr := o.wd r hr
      have c1 : cutS (rS r) (some (k : Int)) none = rS (r.drop k) := by rw [rS_cut, cut_lo r k (by omega)]
      have c2 : cutS (rS r) none (some (k : Int)) = rS (r.take k) := by rw [rS_cut, cut_hi r k (by omega)]
      have w := s.w24
      simp [eVar_def, rD, dSl, c1, c2, dAdd, rS_app]
      rw [if_pos (by omega)]
      rfl⟩]
    have : R.map (fun r => rD (r.drop k ++ r.take k)) = rows (mv R h W m) := by
      unfold mv
      rw [← mv_mk o e hk]
      simp [rows]
    rw [this]
  have fi := (s.mv m).init (.lst (rows (mv R h W m))) (.inl rfl)
  simp [Fn_Strip_moved, F_Strip_moved, eVar_def, sD, wd, o.wp, e, iSeq, seqOf, wipeG, lc, fi]
theorem f_ud (s : St R h W) : Fn_Strip_up_down [sD R] = M.pure (sD (ud R h W)) := by
  have e : (rows R).reverse = rows (ud R h W) := by
    unfold ud
    rw [← rev_mk s.o]
    simp [rows]
  have fi := s.ud.init (.tup (rows (ud R h W))) (.inr rfl)
  simp [Fn_Strip_up_down, F_Strip_up_down, eVar_def, sD, dRev, e, fi]
theorem f_lr (s : St R h W) : Fn_Strip_left_right [sD R] = M.pure (sD (lr R h W)) := by
  have lc : lcF (tName 1) bYes (eRev (eVar 1)) [.v (.obj 0 [.tup (rows R)]), .no] (rows R) = M.pure (rows (lr R h W)) := by
    rw [lc_rows (fun r => rD r.reverse) R fun r hr => ⟨_, rfl, rfl, by simp [eVar_def, rD, dRev, rS_rev]⟩]
    have : R.map (fun r => rD r.reverse) = rows (lr R h W) := by
      unfold lr
      rw [← lr_mk s.o]
      simp [rows]
    rw [this]
  have fi := s.lr.init (.lst (rows (lr R h W))) (.inl rfl)
  simp [Fn_Strip_left_right, F_Strip_left_right, eVar_def, sD, iSeq, seqOf, wipeG, lc, fi]
theorem tr_eq (s : St R h W) : tr R h W = lr (ud R h W) h W := by
  unfold tr lr
  refine mk_congr fun y hy x => ?_
  rw [sg_ud s hy]
theorem f_tr (s : St R h W) : Fn_Strip_turned [sD R] = M.pure (sD (tr R h W)) := by
  have e : (rows R).reverse = rows (ud R h W) := by
    unfold ud
    rw [← rev_mk s.o]
    simp [rows]
  have lc : lcF (tName 1) bYes (eRev (eVar 1)) [.v (.obj 0 [.tup (rows R)]), .no] (rows (ud R h W)) = M.pure (rows (tr R h W)) := by
    rw [lc_rows (fun r => rD r.reverse) (ud R h W) fun r hr => ⟨_, rfl, rfl, by simp [eVar_def, rD, dRev, rS_rev]⟩]
    have : (ud R h W).map (fun r => rD r.reverse) = rows (tr R h W) := by
      rw [tr_eq s]
      unfold lr
      rw [← lr_mk s.ud.o]
      simp [rows]
    rw [this]
  have fi := s.tr.init (.lst (rows (tr R h W))) (.inl rfl)
  simp [Fn_Strip_turned, F_Strip_turned, eVar_def, sD, iSeq, seqOf, dRev, e, wipeG, lc, fi]
theorem f_level (s : St R h W) : Fn_Strip_has_level [sD R] = M.pure (.bl (kp R h W true false 0)) := by
  have u := f_ud s
  simp only [sD] at u
  have e : decide (ud R h W = R) = kp R h W true false 0 := by unfold kp; rw [decide_eq_decide]; exact keep_lev s
  simp [Fn_Strip_has_level, F_Strip_has_level, eVar_def, sD, u, eq_tup, e]
end
end Dd.Ma
namespace Dd.Ma
open PySem L2 K1
section
variable {R : List (List Nat)} {h W : Nat}
theorem rng_one (n : Nat) (hn : n ≤ 10000) : rangeD [.int 1, .int ((n : Nat) : Int)] = some (intsD 1 (n - 1)) := by
  have e : rangeD [.int 1, .int ((n : Nat) : Int)] = if (-(2 ^ 62) ≤ (1 : Int) ∧ (1 : Int) < 2 ^ 62 ∧ -(2 ^ 62) ≤ (n : Int) ∧ (n : Int) < 2 ^ 62) ∧ (n : Int) - 1 ≤ 16777216 then some (intsD 1 ((n : Int) - 1).toNat) else none := rfl
  rw [e, if_pos (by omega), show ((n : Int) - 1).toNat = n - 1 by omega]
theorem rng_oneS (n : Nat) (hn : n ≤ 9999) : rangeD [.int 1, .int ((n : Nat) + 1 : Int)] = some (intsD 1 n) := by
  have := rng_one (n + 1) (by omega)
  rw [Int.natCast_add, Nat.add_sub_cancel] at this
  exact this
theorem rng_nat (n : Nat) (hn : n ≤ 100000) : rangeD [.int ((n : Nat) : Int)] = some (intsD 0 n) := by
  have e : rangeD [.int ((n : Nat) : Int)] = if (n : Int) ≤ 16777216 ∧ -(2 ^ 62) ≤ (n : Int) then some (intsD 0 (n : Int).toNat) else none := rfl
  rw [e, if_pos (by omega), Int.toNat_natCast]
theorem f_period (s : St R h W) : Fn_Strip_period [sD R] = M.pure (.int (pd R h W : Nat)) := by
  have wd := f_wide s
  have o := s.o
  have w24 := s.w24
  have mvd : ∀ m : Int, _ := fun m => f_moved s m
  simp only [sD] at wd mvd
  have r1 := rng_one W (by omega)
  simp -implicitDefEqProofs [Fn_Strip_period, F_Strip_period, eVar_def, sD, wd, r1]
  rw [loop_one (fun Γ => ∃ z, Γ = [.v (.obj 0 [.tup (rows R)]), z]) (pdB R h W) (fun k => .int k) (W - 1) (z := M.pure (.int (W : Int))) ⟨_, rfl⟩ ?a ?b]
  case a =>
    intro a h1 h2 Γ ⟨z, e⟩
    subst e
    refine ⟨_, rfl, ?_⟩
    have e1 : ((W : Int) % (a : Int) = 0) ↔ W % a = 0 := by rw [← Int.natCast_emod]; exact Int.natCast_eq_zero
    have e2 : decide (mv R h W a = R) = kp R h W false false a := by unfold kp; rw [decide_eq_decide]; exact keep_mv s
    have p : (0 : Int) < (a : Int) := by omega
    unfold pdB
    by_cases q : W % a = 0
    · by_cases q2 : kp R h W false false a = true
      · refine .inl ⟨by simp [q, q2], ?_⟩
        have q3 : mv R h W a = R := by simpa [q2] using e2
        simp [eVar_def, sD, wd, h1, eq_int, e1, q, mvd, eq_tup, q3]
      · refine .inr ⟨by simp [q2], [.v (.obj 0 [.tup (rows R)]), .v (.int a)], ⟨_, rfl⟩, ?_⟩
        have q3 : ¬ mv R h W a = R := by intro z; rw [← e2] at q2; simp [z] at q2
        simp [eVar_def, sD, wd, h1, eq_int, e1, q, mvd, eq_tup, q3]
    · refine .inr ⟨by simp [q], [.v (.obj 0 [.tup (rows R)]), .v (.int a)], ⟨_, rfl⟩, ?_⟩
      simp [eVar_def, sD, wd, h1, eq_int, e1, q]
  case b =>
    intro Γ' ⟨z, e⟩
    subst e
    simp [eVar_def, sD, wd]
  unfold pd
  generalize (ones (W - 1)).find? (pdB R h W) = q
  cases q with
  | none => rfl
  | some a => rfl
theorem range2 (s : St R h W) : rangeD [.int (2 * ((pd R h W : Nat) : Int))] = some (intsD 0 (2 * pd R h W)) := by
  have := (pd_least s.o).2.1
  have w := s.w24
  have := rng_nat (2 * pd R h W) (by omega)
  simpa using this
theorem f_mirrors (s : St R h W) : Fn_Strip_mirrors [sD R] = M.pure (.tup (((List.range (2 * pd R h W)).filter fun p : Nat => kp R h W false true ((p : Int) - 1)).map fun p => .int ((p : Nat) : Int))) := by
  have pe := f_period s
  have lrs := f_lr s
  have o := s.o
  have w24 := s.w24
  have pw := (pd_least s.o).2.1
  have mvd : ∀ m : Int, _ := fun m => f_moved s.lr m
  have r2 := range2 s
  simp only [sD] at pe lrs mvd
  simp -implicitDefEqProofs [Fn_Strip_mirrors, F_Strip_mirrors, eVar_def, sD, lrs, pe, dMul, r2]
  rw [all_nat (fun don Γ => ∃ z, Γ = [.v (.obj 0 [.tup (rows R)]), .o (.lst ((don.filter fun p : Nat => kp R h W false true ((p : Int) - 1)).map fun p => .int ((p : Nat) : Int))), .v (.obj 0 [.tup (rows (lr R h W))]), z]) _ ?c ?a ?b]
  case c => exact ⟨_, rfl⟩
  case a =>
    intro a don Γ h1 hl ⟨z, e⟩
    subst e
    refine ⟨_, rfl, ?_⟩
    have e2 : decide (mv (lr R h W) h W (-a) = R) = kp R h W false true ((a : Int) - 1) := by unfold kp; rw [decide_eq_decide]; exact keep_lr s
    have fl := List.length_filter_le (fun p : Nat => kp R h W false true ((p : Int) - 1)) don
    by_cases q : kp R h W false true ((a : Int) - 1) = true
    · have q3 : mv (lr R h W) h W (-a) = R := by simpa [q] using e2
      refine ⟨[.v (.obj 0 [.tup (rows R)]), .o (.lst (((don ++ [a]).filter fun p : Nat => kp R h W false true ((p : Int) - 1)).map fun p => .int ((p : Nat) : Int))), .v (.obj 0 [.tup (rows (lr R h W))]), .v (.int a)], ⟨_, rfl⟩, ?_⟩
      simp -implicitDefEqProofs [eVar_def, mvd, eq_tup, q3, ownL]
      rw [if_pos (by omega)]
      simp [List.filter_append, q]
    · have q3 : ¬ mv (lr R h W) h W (-a) = R := by intro z; rw [← e2] at q; simp [z] at q
      refine ⟨[.v (.obj 0 [.tup (rows R)]), .o (.lst (((don ++ [a]).filter fun p : Nat => kp R h W false true ((p : Int) - 1)).map fun p => .int ((p : Nat) : Int))), .v (.obj 0 [.tup (rows (lr R h W))]), .v (.int a)], ⟨_, rfl⟩, ?_⟩
      simp -implicitDefEqProofs [eVar_def, mvd, eq_tup, q3, ownL, List.filter_append, q]
  case b =>
    intro Γ' ⟨z, e⟩
    subst e
    simp [ownL]
theorem f_turns (s : St R h W) : Fn_Strip_turns [sD R] = M.pure (.tup (((List.range (2 * pd R h W)).filter fun p : Nat => kp R h W true true ((p : Int) - 1)).map fun p => .int ((p : Nat) : Int))) := by
  have pe := f_period s
  have lrs := f_tr s
  have o := s.o
  have w24 := s.w24
  have pw := (pd_least s.o).2.1
  have mvd : ∀ m : Int, _ := fun m => f_moved s.tr m
  have r2 := range2 s
  simp only [sD] at pe lrs mvd
  simp -implicitDefEqProofs [Fn_Strip_turns, F_Strip_turns, eVar_def, sD, lrs, pe, dMul, r2]
  rw [all_nat (fun don Γ => ∃ z, Γ = [.v (.obj 0 [.tup (rows R)]), .o (.lst ((don.filter fun p : Nat => kp R h W true true ((p : Int) - 1)).map fun p => .int ((p : Nat) : Int))), .v (.obj 0 [.tup (rows (tr R h W))]), z]) _ ?c ?a ?b]
  case c => exact ⟨_, rfl⟩
  case a =>
    intro a don Γ h1 hl ⟨z, e⟩
    subst e
    refine ⟨_, rfl, ?_⟩
    have e2 : decide (mv (tr R h W) h W (-a) = R) = kp R h W true true ((a : Int) - 1) := by unfold kp; rw [decide_eq_decide]; exact keep_tr s
    have fl := List.length_filter_le (fun p : Nat => kp R h W true true ((p : Int) - 1)) don
    by_cases q : kp R h W true true ((a : Int) - 1) = true
    · have q3 : mv (tr R h W) h W (-a) = R := by simpa [q] using e2
      refine ⟨[.v (.obj 0 [.tup (rows R)]), .o (.lst (((don ++ [a]).filter fun p : Nat => kp R h W true true ((p : Int) - 1)).map fun p => .int ((p : Nat) : Int))), .v (.obj 0 [.tup (rows (tr R h W))]), .v (.int a)], ⟨_, rfl⟩, ?_⟩
      simp -implicitDefEqProofs [eVar_def, mvd, eq_tup, q3, ownL]
      rw [if_pos (by omega)]
      simp [List.filter_append, q]
    · have q3 : ¬ mv (tr R h W) h W (-a) = R := by intro z; rw [← e2] at q; simp [z] at q
      refine ⟨[.v (.obj 0 [.tup (rows R)]), .o (.lst (((don ++ [a]).filter fun p : Nat => kp R h W true true ((p : Int) - 1)).map fun p => .int ((p : Nat) : Int))), .v (.obj 0 [.tup (rows (tr R h W))]), .v (.int a)], ⟨_, rfl⟩, ?_⟩
      simp -implicitDefEqProofs [eVar_def, mvd, eq_tup, q3, ownL, List.filter_append, q]
  case b =>
    intro Γ' ⟨z, e⟩
    subst e
    simp [ownL]
theorem f_slide (s : St R h W) : Fn_Strip_slide [sD R] = M.pure (((ones W).find? fun k => kp R h W true false (k : Nat)).elim .non fun k => .int (k : Nat)) := by
  have wd := f_wide s
  have u := f_ud s
  have o := s.o
  have w24 := s.w24
  have mvd : ∀ m : Int, _ := fun m => f_moved s.ud m
  simp only [sD] at wd u mvd
  have r1 := rng_oneS W (by omega)
  simp -implicitDefEqProofs [Fn_Strip_slide, F_Strip_slide, eVar_def, sD, wd, r1]
  rw [loop_one (fun Γ => ∃ z, Γ = [.v (.obj 0 [.tup (rows R)]), z]) (fun k => kp R h W true false (k : Nat)) (fun k => .int k) W (z := M.pure .non) ⟨_, rfl⟩ ?a ?b]
  case a =>
    intro a h1 h2 Γ ⟨z, e⟩
    subst e
    refine ⟨_, rfl, ?_⟩
    have e2 : decide (mv (ud R h W) h W a = R) = kp R h W true false a := by unfold kp; rw [decide_eq_decide]; exact keep_ud s
    by_cases q2 : kp R h W true false a = true
    · refine .inl ⟨q2, ?_⟩
      have q3 : mv (ud R h W) h W a = R := by simpa [q2] using e2
      simp -implicitDefEqProofs [eVar_def, u, mvd, eq_tup, q3]
    · refine .inr ⟨by simpa using q2, [.v (.obj 0 [.tup (rows R)]), .v (.int a)], ⟨_, rfl⟩, ?_⟩
      have q3 : ¬ mv (ud R h W) h W a = R := by intro z; rw [← e2] at q2; simp [z] at q2
      simp -implicitDefEqProofs [eVar_def, u, mvd, eq_tup, q3]
  case b =>
    intro Γ' ⟨z, e⟩
    subst e
    simp
  generalize (ones W).find? (fun k => kp R h W true false (k : Nat)) = q
  cases q with
  | none => rfl
  | some a => rfl
end
end Dd.Ma
namespace Dd.Ma
open PySem L2 K1
/-! ### lists of whole numbers -/
def nD (l : List Nat) : List D := l.map fun p => .int ((p : Nat) : Int)
theorem are_nD (n : Nat) : ∀ l : List Nat, arePy n (nD l) = true
  | [] => by cases n <;> rfl
  | a :: l => by
    show arePy n (D.int (a : Int) :: nD l) = true
    unfold arePy
    rw [are_nD n l]
    cases n <;> rfl
theorem eq_nD : ∀ A B : List Nat, PyData.eqvAll (toPys (nD A)) (toPys (nD B)) = decide (A = B)
  | [], [] => by simp [nD, toPys, PyData.eqvAll]
  | [], _ :: _ => by simp [nD, toPys, PyData.eqvAll]
  | _ :: _, [] => by simp [nD, toPys, PyData.eqvAll]
  | a :: A, b :: B => by
    show (eqD (.int (a : Int)) (.int (b : Int)) && PyData.eqvAll (toPys (nD A)) (toPys (nD B))) = _
    rw [eq_nD A B]
    have : eqD (.int (a : Int)) (.int (b : Int)) = decide (a = b) := by
      show ((a : Int) == (b : Int)) = _
      by_cases h : a = b
      · subst h; simp
      · have : ¬ (a : Int) = (b : Int) := by omega
        simp [h]
        exact this
    rw [this]
    by_cases h : a = b <;> by_cases h' : A = B <;> simp [h, h']
theorem ne_nD (A B : List Nat) : dNe (.lst (nD A)) (.lst (nD B)) = some (.bl (!decide (A = B))) := by
  unfold dNe
  rw [if_pos ⟨(by unfold isPy; exact are_nD 7 A), (by unfold isPy; exact are_nD 7 B)⟩]
  show some (D.bl (!PyData.eqvAll (toPys (nD A)) (toPys (nD B)))) = _
  rw [eq_nD]
theorem ne_nDt (A B : List Nat) : dNe (.tup (nD A)) (.tup (nD B)) = some (.bl (!decide (A = B))) := by
  unfold dNe
  rw [if_pos ⟨(by unfold isPy; exact are_nD 7 A), (by unfold isPy; exact are_nD 7 B)⟩]
  show some (D.bl (!PyData.eqvAll (toPys (nD A)) (toPys (nD B)))) = _
  rw [eq_nD]
theorem eq_nDl (A B : List Nat) : dEq (.lst (nD A)) (.lst (nD B)) = some (.bl (decide (A = B))) := by
  unfold dEq
  rw [if_pos ⟨(by unfold isPy; exact are_nD 7 A), (by unfold isPy; exact are_nD 7 B)⟩]
  show some (D.bl (PyData.eqvAll (toPys (nD A)) (toPys (nD B)))) = _
  rw [eq_nD]
theorem in_nD (l : List Nat) : dIn (.int 0) (.lst (nD l)) = some (.bl (decide (0 ∈ l))) := by
  have h1 : (nD l).all flatD = true := by simp [nD, flatD]
  have h2 : ((nD l).any fun y => eqF y (.int 0)) = decide (0 ∈ l) := by
    unfold nD
    rw [List.any_map]
    induction l with
    | nil => rfl
    | cons a l ih =>
      rw [List.any_cons, ih (by simp [nD, flatD])]
      show (((a : Int) == 0) || decide (0 ∈ l)) = _
      have h5 : ((a : Int) == 0) = decide (0 = a) := by
        rw [Bool.eq_iff_iff]
        simp
        omega
      rw [h5]
      simp
  show Option.map D.bl (if flatD (.int 0) = true ∧ (nD l).all flatD = true then some ((nD l).any fun y => eqF y (.int 0)) else none) = _
  rw [if_pos ⟨rfl, h1⟩, h2]
  rfl

/-! ### kinds -/
section
variable {R : List (List Nat)} {h W : Nat}
def Has (R : List (List Nat)) (h W : Nat) (flip turn : Bool) : Prop := ∃ m : Int, Kp R h W flip turn m
theorem filter_nil {α : Type} {l : List α} {b : α → Bool} : l.filter b = [] ↔ ¬ ∃ a, a ∈ l ∧ b a = true := by
  rw [List.filter_eq_nil_iff]
  constructor
  · intro h ⟨a, h1, h2⟩; exact h a h1 h2
  · intro h a h1 h2; exact h ⟨a, h1, h2⟩
theorem has_W (o : Ok R h W) {flip turn : Bool} : ((List.range W).filter fun m => kp R h W flip turn (m : Nat)) = [] ↔ ¬ Has R h W flip turn := by
  rw [filter_nil]
  apply not_congr
  constructor
  · intro ⟨a, _, h2⟩; exact ⟨a, kp_iff.mp h2⟩
  · intro ⟨m, k⟩
    obtain ⟨n, e, hn⟩ := mod_nat m o.wp
    refine ⟨n, List.mem_range.mpr hn, kp_iff.mpr ?_⟩
    have d := dvd_mod (W := W) m
    rw [e] at d
    exact kp_dvd o flip turn kp_W d k
theorem has_p (o : Ok R h W) {flip turn : Bool} : ((List.range (2 * pd R h W)).filter fun q : Nat => kp R h W flip turn ((q : Int) - 1)) = [] ↔ ¬ Has R h W flip turn := by
  obtain ⟨p1, p2, p3, p4, _⟩ := pd_least o
  rw [filter_nil]
  apply not_congr
  constructor
  · intro ⟨a, _, h2⟩; exact ⟨_, kp_iff.mp h2⟩
  · intro ⟨m, k⟩
    obtain ⟨n, e, hn⟩ := mod_nat (m + 1) p1
    refine ⟨n, List.mem_range.mpr (by omega), kp_iff.mpr ?_⟩
    have d := dvd_mod (W := pd R h W) (m + 1)
    rw [e] at d
    have e2 : (n : Int) - 1 - m = (n : Int) - (m + 1) := by omega
    exact kp_dvd o flip turn p4 (by rw [e2]; exact d) k
theorem has_ones (o : Ok R h W) {flip turn : Bool} : ((ones W).find? fun k => kp R h W flip turn (k : Nat)) = none ↔ ¬ Has R h W flip turn := by
  constructor
  · intro e ⟨m, k⟩
    obtain ⟨n, e2, hn⟩ := mod_nat (m - 1) o.wp
    have q := find_ones_none e (k := n + 1) (by omega) (by omega)
    have d := dvd_mod (W := W) (m - 1)
    rw [e2] at d
    have e3 : ((n + 1 : Nat) : Int) - m = (n : Int) - (m - 1) := by omega
    rw [kp_iff.mpr (kp_dvd o flip turn kp_W (by rw [e3]; exact d) k)] at q
    cases q
  · intro hn
    rw [List.find?_eq_none]
    intro a _ h2
    exact hn ⟨_, kp_iff.mp h2⟩
noncomputable def kindD (R : List (List Nat)) (h W : Nat) : D := open Classical in
  if Kp R h W true false 0 then (if Has R h W false true then .str "spinning jump" else .str "jump")
  else if Has R h W false true then (if Has R h W true true then .str "spinning sidle" else .str "sidle")
  else if Has R h W true true then .str "spinning hop" else if Has R h W true false then .str "step" else .str "hop"
theorem nD_nil : nD [] = [] := rfl
theorem f_kind (s : St R h W) : Fn_Strip_kind [sD R] = M.pure (kindD R h W) := by
  have m1 := f_mirrors s
  have m2 := f_turns s
  have m3 := f_level s
  have m4 := f_slide s
  have n1 := fun l => ne_nDt l []
  rw [nD_nil] at n1
  simp only [sD] at m1 m2 m3 m4
  rw [← nD] at m1 m2
  have c1 := has_p s.o (flip := false) (turn := true)
  have c2 := has_p s.o (flip := true) (turn := true)
  have c3 := has_ones s.o (flip := true) (turn := false)
  generalize ((List.range (2 * pd R h W)).filter fun q : Nat => kp R h W false true ((q : Int) - 1)) = l1 at *
  generalize ((List.range (2 * pd R h W)).filter fun q : Nat => kp R h W true true ((q : Int) - 1)) = l2 at *
  generalize ((ones W).find? fun k => kp R h W true false (k : Nat)) = q at *
  have c4 : kp R h W true false 0 = true ↔ Kp R h W true false 0 := kp_iff
  generalize kp R h W true false 0 = b at *
  have d1 : Has R h W false true ↔ ¬ l1 = [] := by rw [c1]; simp
  have d2 : Has R h W true true ↔ ¬ l2 = [] := by rw [c2]; simp
  have d3 : Has R h W true false ↔ ¬ q = none := by rw [c3]; simp
  simp -implicitDefEqProofs [Fn_Strip_kind, F_Strip_kind, eVar_def, sD, m1, m2, m3, n1, kindD, ← c4, d1, d2, d3]
  by_cases h1 : l1 = [] <;> by_cases h2 : l2 = [] <;> cases b <;> cases q <;> simp -implicitDefEqProofs [h1, h2, m4, dIsNot, isNon]
end
end Dd.Ma
namespace Dd.Ma
open PySem L2 K1
section
variable {R : List (List Nat)} {h W : Nat}
/-! ### the law's own -/
theorem len_R (o : Ok R h W) : dLen [.lst (rows R)] = some (.int (h : Int)) := by rw [o_len1, rows_len, o.len]
theorem f_law_keeps (s : St R h W) (flip turn : Bool) (more : Int) : Fn_law_keeps [.lst (rows R), .int (W : Int), .bl flip, .bl turn, .int more] = M.pure (.bl (kp R h W flip turn more)) := by
  have o := s.o
  have w24 := s.w24
  have h8 := s.h8
  have r1 := rng_nat h (by omega)
  have r2 := rng_nat W (by omega)
  -- what is seen at one sign
  have at1 : ∀ (y : Nat) (x : Int), y < h → Fn_law_at [.lst (rows R), .int x, .int (y : Int)] = M.pure (rD [sg R W x y]) := fun y x hy => f_law_at o x hy
  let good : Nat → Nat → Bool := fun y x => decide (sg R W (x : Int) y = sg R W (if turn = true then more - (x : Int) else (x : Int) + more) (if flip = true then h - 1 - y else y))
  have e0 : kp R h W flip turn more = (List.range h).all fun y => (List.range W).all fun x => good y x := by
    rw [Bool.eq_iff_iff, kp_iff, kp_nat o]
    simp only [List.all_eq_true, List.mem_range, good, decide_eq_true_eq]
  rw [e0]
  simp -implicitDefEqProofs [Fn_law_keeps, F_law_keeps, eVar_def, len_R o, r1]
  let Γ0 : Sl → Sl → Env := fun a b => [.v (.lst (rows R)), .v (.int (W : Int)), .v (.bl flip), .v (.bl turn), .v (.int more), .v (.int (h : Int)), a, b]
  rw [loop_nat (fun Γ => ∃ a b, Γ = Γ0 a b) (fun y => !(List.range W).all fun x => good y x) (fun _ => .bl false) h (z := M.pure (.bl true)) ⟨_, _, rfl⟩ ?a ?b]
  case a =>
    intro y hy Γ ⟨a, b, e⟩
    subst e
    refine ⟨Γ0 (.v (.int y)) b, rfl, ?_⟩
    have hy2 : h - 1 - y < h := by omega
    have cast : ((h : Int) - 1 - (y : Int)) = ((h - 1 - y : Nat) : Int) := by omega
    have q2 := fun z => at1 y z hy
    have q3 := fun z => at1 (h - 1 - y) z hy2
    have inner := loop_first (T := tName 7) (F := sIf (bOf (eOp dNe (eFun 3 Fn_law_at (aCons (eVar 0) (aCons (eVar 7) (aCons (eVar 6) (aNil))))) (eFun 3 Fn_law_at (aCons (eVar 0) (aCons (eIf (bOf (eVar 3)) (eOp dSub (eVar 4) (eVar 7)) (eOp dAdd (eVar 7) (eVar 4))) (aCons (eIf (bOf (eVar 2)) (eOp dSub (eOp dSub (eVar 5) (eC (.int 1))) (eVar 6)) (eVar 6)) (aNil))))))) (sRet (eC (.bl false))) (sNil)) (fun Γ => ∃ b, Γ = Γ0 (.v (.int y)) b) (fun x : Nat => D.int x) (fun x => !good y x) (fun _ => .bl false) (List.range W) (Γ := Γ0 (.v (.int y)) b) ⟨_, rfl⟩ fun x hx Γ ⟨c, e⟩ => by
        subst e
        refine ⟨Γ0 (.v (.int y)) (.v (.int x)), rfl, ?_⟩
        by_cases g : good y x = true
        · refine .inr ⟨by simp [g], Γ0 (.v (.int y)) (.v (.int x)), ⟨_, rfl⟩, ?_⟩
          have g : sg R W (x : Int) y = _ := of_decide_eq_true g
          cases flip <;> cases turn <;> simp -implicitDefEqProofs [Γ0, eVar_def, q2, q3, cast, ne_str] at g ⊢ <;> simp [← g]
        · refine .inl ⟨by simpa using g, ?_⟩
          have g : ¬ sg R W (x : Int) y = _ := fun z => g (decide_eq_true z)
          cases flip <;> cases turn <;> simp -implicitDefEqProofs [Γ0, eVar_def, q2, q3, cast, ne_str] at g ⊢ <;> simp [g]
    have al : ((List.range W).all fun x => good y x) = ((List.range W).find? fun x => !good y x).isNone := by
      rw [Bool.eq_iff_iff]
      simp
    rw [← intsD_zero] at inner
    rcases inner with ⟨x, e1, e2⟩ | ⟨e1, Γ', ⟨b', e3⟩, e2⟩
    · refine .inl ⟨by rw [al, e1]; rfl, ?_⟩
      simp only [Γ0] at e2
      simp -implicitDefEqProofs [Γ0, eVar_def, r2, e2]
    · refine .inr ⟨by rw [al, e1]; rfl, Γ', ⟨_, _, e3⟩, ?_⟩
      simp only [Γ0] at e2
      simp -implicitDefEqProofs [Γ0, eVar_def, r2, e2]
  case b =>
    intro Γ' ⟨a, b, e⟩
    subst e
    simp [Γ0]
  have al : ((List.range h).all fun y => (List.range W).all fun x => good y x) = ((List.range h).find? fun y => !(List.range W).all fun x => good y x).isNone := by
    rw [Bool.eq_iff_iff]
    simp
  rw [al]
  generalize (List.range h).find? (fun y => !(List.range W).all fun x => good y x) = q
  cases q with
  | none => rfl
  | some a => rfl
end
end Dd.Ma
namespace Dd.Ma
open PySem L2 K1
section
variable {R : List (List Nat)} {h W : Nat}
theorem lc_keeps (s : St R h W) (flip turn : Bool) (a b c : Sl) (fe : E) (v : Nat → Nat) (hv : ∀ m : Nat, fe [.v (.lst (rows R)), .v (.int (W : Int)), a, b, c, .v (.int (m : Int))] = M.pure (.int (v m : Nat))) :
    lcF (tName 5) (bOf (eFun 5 Fn_law_keeps (aCons (eVar 0) (aCons (eVar 1) (aCons (eC (.bl flip)) (aCons (eC (.bl turn)) (aCons (eVar 5) (aNil)))))))) fe [.v (.lst (rows R)), .v (.int (W : Int)), a, b, c, .no] (intsD 0 W) = M.pure (nD (((List.range W).filter fun m : Nat => kp R h W flip turn m).map v)) := by
  rw [lc_nat (fun m : Nat => kp R h W flip turn m) (fun m => .int (v m : Nat)) W fun m hm => ⟨_, rfl, by simp -implicitDefEqProofs [eVar_def, f_law_keeps s], fun _ => hv m⟩]
  unfold nD
  rw [List.map_map]
  rfl
theorem f_law_kind (s : St R h W) : Fn_law_kind [.lst (rows R)] = M.pure (kindD R h W) := by
  obtain ⟨r0, a0, l0⟩ := len_head s.o
  have w24 := s.w24
  have r2 := rng_nat W (by omega)
  have n1 := fun l => ne_nD l []
  rw [nD_nil] at n1
  have k1 := fun a b c => lc_keeps s false true a b c (eC (.int 1)) (fun _ => 1) fun m => rfl
  have k2 := fun a b c => lc_keeps s true true a b c (eC (.int 1)) (fun _ => 1) fun m => rfl
  have k3 := fun a b c => lc_keeps s true false a b c (eVar 5) (fun m => m) fun m => rfl
  have c1 := has_W s.o (flip := false) (turn := true)
  have c2 := has_W s.o (flip := true) (turn := true)
  have c3 := has_W s.o (flip := true) (turn := false)
  have c4 : 0 ∈ ((List.range W).filter fun m : Nat => kp R h W true false m).map (fun m => m) ↔ Kp R h W true false 0 := by
    simp [kp_iff, s.o.wp]
  have c5 : ((List.range W).filter fun m : Nat => kp R h W true false m).map (fun m => m) = [] ↔ ¬ Has R h W true false := by rw [← c3]; simp
  generalize ((List.range W).filter fun m : Nat => kp R h W false true m) = l1 at *
  generalize ((List.range W).filter fun m : Nat => kp R h W true true m) = l2 at *
  generalize ((List.range W).filter fun m : Nat => kp R h W true false m).map (fun m => m) = l3 at *
  have d1 : Has R h W false true ↔ ¬ l1 = [] := by rw [c1]; simp
  have d2 : Has R h W true true ↔ ¬ l2 = [] := by rw [c2]; simp
  have d3 : Has R h W true false ↔ ¬ l3 = [] := by rw [c5]; simp
  have i0 := in_nD l3
  simp -implicitDefEqProofs only [o_fnF, o_sSeq, o_sSet, o_sIf, o_sRet, o_eLc, o_iRng1, o_eOp, o_eIf, o_bOf, o_eC, o_eLst, o_aNil, o_aCons, o_eCall, o_eIx, Fn_law_kind, F_law_kind, M.pure_bind, M.bind_assoc, List.map_cons, List.map_nil, List.cons_append, List.nil_append, List.length_cons, List.length_nil, nos_succ, nos_zero, Nat.reduceSub, Nat.reduceAdd, Nat.zero_add, eVar_def, List.getElem?_cons_zero, List.getElem?_cons_succ, o_ix1, a0, M.opt_some, l0, List.set_cons_succ, List.set_cons_zero, if_true, r2, wipeG, k1, k2, k3, nox_pure, n1, i0]
  simp -implicitDefEqProofs [n1, i0]
  rw [kindD]
  simp only [d1, d2, d3]
  clear k1 k2 k3 c1 c2 c3 c5 d1 d2 d3 i0
  rcases Classical.em (0 ∈ l3) with h4 | h4
  · have h5 := c4.mp h4
    by_cases h1 : l1 = [] <;> by_cases h2 : l2 = [] <;> simp -implicitDefEqProofs [h1, h2, h4, h5]
  · have h5 : ¬ Kp R h W true false 0 := fun k => h4 (c4.mpr k)
    by_cases h1 : l1 = [] <;> by_cases h2 : l2 = [] <;> by_cases h3 : l3 = [] <;> simp -implicitDefEqProofs [h1, h2, h3, h4, h5]
    all_goals first | rfl | (subst h3; rfl) | skip
theorem join_signs {α : Type} (l : List α) (f : α → Nat) (hl : l.length ≤ 10000) : dJoin "" (.lst (l.map fun a => rD [f a])) = some (rD (l.map f)) := by
  have e : (l.map fun a => rD [f a]) = rows ((l.map f).map fun c => [c]) := by simp [rows]
  have e1 : strsOf (l.map fun a => rD [f a]) = some ((l.map f).map fun c => rS [c]) := by
    rw [e, strs_rows]
    simp
  show ((strsOf (l.map fun a => rD [f a])).bind fun ss => if (ss.map (·.length)).sum + ss.length * ("" : Str).length ≤ 16777216 then some (D.str (Txt.join "" ss)) else none) = _
  rw [e1]
  have e2 : ((((l.map f).map fun c => rS [c]).map (·.length)).sum) = l.length := by
    clear e e1 hl
    induction l with
    | nil => rfl
    | cons a l ih => simp only [List.map_cons, List.sum_cons, ih, rS_len, List.length_cons, List.length_nil]; omega
  have e3 : ("" : Str).length = 0 := rfl
  have e4 : Txt.join "" ((l.map f).map fun c => rS [c]) = rS (l.map f) := by
    have jl : ∀ m : List Nat, TL.joinL [] (m.map fun c => [c]) = m := fun m => by
      induction m with
      | nil => rfl
      | cons a m ih => cases m with
        | nil => rfl
        | cons b m =>
          show [a] ++ ([] ++ TL.joinL [] ((b :: m).map fun c => [c])) = _
          rw [ih]
          rfl
    rw [TL.join_eq]
    apply TL.ext_tl
    rw [TL.tl_join]
    have e5 : ((l.map f).map fun c => rS [c]).map TL.tl = (l.map f).map fun c => [c] := by
      rw [List.map_map]
      apply List.map_congr_left
      intro c _
      exact rS_cps [c]
    rw [e5]
    exact (jl _).trans (rS_cps _).symm
  rw [Option.bind_some, e2, e3, if_pos (by simp; omega), e4]
  rfl
end
end Dd.Ma
namespace Dd.Ma
open PySem L2 K1
section
variable {R : List (List Nat)} {h W : Nat}
theorem f_shown (s : St R h W) {y : Nat} (hy : y < h) (n : Nat) (hn : n ≤ 10000) : Fn_Strip_shown [sD R, .int (y : Int), .int (n : Int)] = M.pure (rD ((List.range n).map fun x => sg R W ((x : Nat) : Int) y)) := by
  have at1 := fun x => f_at s x hy
  simp only [sD] at at1
  have r2 := rng_nat n (by omega)
  have lc : lcF (tName 3) bYes (eMeth 0 3 Fn_Strip_at (eVar 0) (aCons (eVar 3) (aCons (eVar 1) (aNil)))) [.v (.obj 0 [.tup (rows R)]), .v (.int (y : Int)), .v (.int (n : Int)), .no] (intsD 0 n) = M.pure ((List.range n).map fun x => rD [sg R W ((x : Nat) : Int) y]) :=
    lc_nats _ n fun i hi => ⟨_, rfl, rfl, by simp -implicitDefEqProofs [eVar_def, at1]⟩
  have js := join_signs (List.range n) (fun x => sg R W ((x : Nat) : Int) y) (by simpa using hn)
  have k1 : ¬ (n : Int) < 0 := by omega
  have e1 : ∀ f : E, ∀ Γ, sExpr f Γ = M.bind (f Γ) fun _ => M.pure (.nx Γ) := fun _ _ => rfl
  have e2 : ∀ f g : E, ∀ Γ, eJoin f g Γ = M.bind (f Γ) fun x => M.bind (M.opt (asS x)) fun s => M.bind (g Γ) fun y => M.opt (dJoin s y) := fun _ _ _ => rfl
  simp -implicitDefEqProofs [Fn_Strip_shown, F_Strip_shown, eVar_def, sD, at1, e1, r2, wipeG, lc, js, k1]
theorem f_shown_y (s : St R h W) {y : Int} (hy : y < 0 ∨ (h : Int) ≤ y) (n : Nat) : Fn_Strip_shown [sD R, .int y, .int (n : Int)] = M.exc 1 := by
  have at1 := fun x => f_at_no s x y hy
  simp only [sD] at at1
  have k1 : ¬ (n : Int) < 0 := by omega
  have e1 : ∀ f : E, ∀ Γ, sExpr f Γ = M.bind (f Γ) fun _ => M.pure (.nx Γ) := fun _ _ => rfl
  simp -implicitDefEqProofs [Fn_Strip_shown, F_Strip_shown, eVar_def, sD, at1, e1, k1]
theorem f_rep (s : St R h W) (n : Nat) : Fn_Strip_repeated [sD R, .int (n : Int)] = if n % pd R h W = 0 ∧ 0 < n ∧ n ≤ 24 then M.pure (sD (mk n h (sg R W))) else M.exc 1 := by
  obtain ⟨p1, p2, p3, p4, _⟩ := pd_least s.o
  have pe := f_period s
  have o := s.o
  have h8 := s.h8
  simp only [sD] at pe
  have e1 : (((n : Int) % ((pd R h W : Nat) : Int)) = 0) ↔ n % pd R h W = 0 := by rw [← Int.natCast_emod]; exact Int.natCast_eq_zero
  have r2 := rng_nat h (by omega)
  have h0 := s.o.hp
  by_cases q : n % pd R h W = 0
  · by_cases q2 : 0 < n
    · by_cases q3 : n ≤ 24
      · rw [if_pos ⟨q, q2, q3⟩]
        have sh : ∀ y, y < h → _ := fun y hy => f_shown s hy n (by omega)
        simp only [sD] at sh
        have lc : lcF (tName 2) bYes (eMeth 0 3 Fn_Strip_shown (eVar 0) (aCons (eVar 2) (aCons (eVar 1) (aNil)))) [.v (.obj 0 [.tup (rows R)]), .v (.int (n : Int)), .no] (intsD 0 h) = M.pure (rows (mk n h (sg R W))) := by
          rw [lc_nats (fun y => rD ((List.range n).map fun x => sg R W ((x : Nat) : Int) y)) h fun i hi => ⟨_, rfl, rfl, by simp -implicitDefEqProofs [eVar_def, sh i hi]⟩]
          simp [rows, mk]
          rfl
        have fi := f_init (mk_ok (f := sg R W) q2 o.hp) h8 q3 (.lst (rows (mk n h (sg R W)))) (.inl rfl)
        have k2 : (0 : Int) < (n : Int) := by omega
        have k3 : (n : Int) ≤ 24 := by omega
        simp -implicitDefEqProofs [Fn_Strip_repeated, F_Strip_repeated, eVar_def, sD, pe, p1, ne_int, e1, q, G_MOST_WIDE, q2, q3, k2, k3, o.len, r2, wipeG, lc, fi]
      · rw [if_neg (by omega)]
        have k2 : (0 : Int) < (n : Int) := by omega
        have k3 : ¬ (n : Int) ≤ 24 := by omega
        simp -implicitDefEqProofs [Fn_Strip_repeated, F_Strip_repeated, eVar_def, sD, pe, p1, ne_int, e1, q, G_MOST_WIDE, q2, q3, k2, k3]
    · rw [if_neg (by omega)]
      have k2 : ¬ (0 : Int) < (n : Int) := by omega
      simp -implicitDefEqProofs [Fn_Strip_repeated, F_Strip_repeated, eVar_def, sD, pe, p1, ne_int, e1, q, G_MOST_WIDE, q2, k2]
  · rw [if_neg (fun z => q z.1)]
    simp -implicitDefEqProofs [Fn_Strip_repeated, F_Strip_repeated, eVar_def, sD, pe, p1, ne_int, e1, q]

/-! ### alike -/
def Sim (R : List (List Nat)) (W h : Nat) (I : List (List Nat)) (W' : Nat) : Prop := ∃ m : Int, ∀ y, y < h → ∀ x : Int, sg R W x y = sg I W' (x + m) y
theorem sim_per {I : List (List Nat)} {W' : Nat} (si : Sim R W h I W') (m : Int) : Kp R h W false false m ↔ Kp I h W' false false m := by
  obtain ⟨d, k⟩ := si
  constructor
  · intro q y hy x
    have a := k y hy (x - d)
    have b := k y hy (x - d + m)
    have c := q y hy (x - d)
    simp only [Bool.false_eq_true, if_false] at c ⊢
    rw [show x - d + d = x by omega] at a
    rw [show x - d + m + d = x + m by omega] at b
    rw [← a, ← b]; exact c
  · intro q y hy x
    have c := q y hy (x + d)
    simp only [Bool.false_eq_true, if_false] at c ⊢
    rw [k y hy x, k y hy (x + m), c]
    congr 1
    omega
theorem per_lr (s : St R h W) (m : Int) : Kp (lr R h W) h W false false m ↔ Kp R h W false false m := by
  constructor
  · intro q y hy x
    have c := q y hy (-1 - x - m)
    simp only [Bool.false_eq_true, if_false] at c ⊢
    rw [sg_lr s hy, sg_lr s hy, show -1 - (-1 - x - m) = x + m by omega, show -1 - (-1 - x - m + m) = x by omega] at c
    exact c.symm
  · intro q y hy x
    have c := q y hy (-1 - x - m)
    simp only [Bool.false_eq_true, if_false] at c ⊢
    rw [sg_lr s hy, sg_lr s hy, show -1 - (x + m) = -1 - x - m by omega, c]
    congr 1
    omega
theorem per_ud (s : St R h W) (m : Int) : Kp (ud R h W) h W false false m ↔ Kp R h W false false m := by
  constructor
  · intro q y hy x
    have c := q (h - 1 - y) (by omega) x
    simp only [Bool.false_eq_true, if_false] at c ⊢
    rw [sg_ud s (by omega), sg_ud s (by omega), show h - 1 - (h - 1 - y) = y by omega] at c
    exact c
  · intro q y hy x
    have c := q (h - 1 - y) (by omega) x
    simp only [Bool.false_eq_true, if_false] at c ⊢
    rw [sg_ud s hy, sg_ud s hy]
    exact c
theorem per_tr (s : St R h W) (m : Int) : Kp (tr R h W) h W false false m ↔ Kp R h W false false m := by
  rw [tr_eq s, per_lr s.ud, per_ud s]
theorem pd_img (s : St R h W) {I : List (List Nat)} (hi : I = R ∨ I = tr R h W ∨ I = lr R h W ∨ I = ud R h W) : St I h W ∧ pd I h W = pd R h W ∧ ∀ m, Kp I h W false false m ↔ Kp R h W false false m := by
  rcases hi with e | e | e | e <;> subst e
  · exact ⟨s, rfl, fun m => Iff.rfl⟩
  · exact ⟨s.tr, pd_unique s.tr.o s.o (per_tr s), per_tr s⟩
  · exact ⟨s.lr, pd_unique s.lr.o s.o (per_lr s), per_lr s⟩
  · exact ⟨s.ud, pd_unique s.ud.o s.o (per_ud s), per_ud s⟩
/-- the program's test at one image -/
noncomputable def tst (R : List (List Nat)) (W h : Nat) (I : List (List Nat)) (W' : Nat) (m : Nat) : Bool := decide (mv (mk W h (sg I W')) h W m = R)
theorem tst_iff (s : St R h W) {I : List (List Nat)} {W' : Nat} (s' : St I h W') (hW : Kp I h W' false false W) {m : Nat} : tst R W h I W' m = true ↔ ∀ y, y < h → ∀ x : Int, sg R W x y = sg I W' (x + m) y := by
  unfold tst
  rw [decide_eq_true_eq, eq_iff ((s.mk' _).mv _).o s.o]
  have e : ∀ y, y < h → ∀ x : Int, sg (mv (mk W h (sg I W')) h W m) W x y = sg I W' (x + m) y := fun y hy x => by
    rw [sg_mv (s.mk' _) hy, sg_mk s.o.wp hy]
    have q := kp_dvd s'.o false false hW (m := 0) (m' := (x + m) % W - (x + m)) (by
      have := dvd_mod (W := W) (x + m)
      rw [Int.sub_zero]; exact this) kp_zero y hy (x + m)
    simp only [Bool.false_eq_true, if_false] at q
    rw [q]
    congr 1
    omega
  constructor
  · intro k y hy x; rw [← e y hy x]; exact (k y hy x).symm
  · intro k y hy x; rw [e y hy x]; exact (k y hy x).symm
theorem tst_any (s : St R h W) {I : List (List Nat)} {W' : Nat} (s' : St I h W') (hp : pd I h W' = pd R h W) : ((List.range (pd R h W)).any fun m => tst R W h I W' m) = true ↔ Sim R W h I W' := by
  obtain ⟨p1, p2, p3, p4, _⟩ := pd_least s'.o
  obtain ⟨q1, q2, q3, q4, _⟩ := pd_least s.o
  have hW : Kp I h W' false false W := kp_dvd s'.o false false p4 (m := 0) (by
    rw [Int.sub_zero, hp]
    exact Int.natCast_dvd_natCast.mpr (Nat.dvd_of_mod_eq_zero q3)) kp_zero
  rw [List.any_eq_true]
  constructor
  · intro ⟨m, _, t⟩
    exact ⟨m, (tst_iff s s' hW).mp t⟩
  · intro ⟨m, k⟩
    obtain ⟨n, e, hn⟩ := mod_nat m q1
    refine ⟨n, List.mem_range.mpr hn, (tst_iff s s' hW).mpr fun y hy x => ?_⟩
    rw [k y hy x]
    have d := dvd_mod (W := pd R h W) m
    rw [e, ← hp] at d
    have q := kp_dvd s'.o false false p4 (m := 0) (m' := n - m) (by rw [Int.sub_zero]; exact d) kp_zero y hy (x + m)
    simp only [Bool.false_eq_true, if_false] at q
    rw [q]
    congr 1
    omega
end
end Dd.Ma
namespace Dd.Ma
open PySem L2 K1
section
variable {R R' : List (List Nat)} {h W h' W' : Nat}
def Alike (R : List (List Nat)) (h W : Nat) (R' : List (List Nat)) (h' W' : Nat) : Prop := h' = h ∧ ∃ I, (I = R' ∨ I = tr R' h' W' ∨ I = lr R' h' W' ∨ I = ud R' h' W') ∧ Sim R W h I W'
noncomputable def alike (R : List (List Nat)) (h W : Nat) (R' : List (List Nat)) (h' W' : Nat) : Bool := open Classical in decide (Alike R h W R' h' W')
theorem alike_iff : alike R h W R' h' W' = true ↔ Alike R h W R' h' W' := by unfold alike; simp
theorem f_same (s : St R h W) (s' : St R' h' W') : Fn_Strip_same [sD R, sD R'] = M.pure (.bl (alike R h W R' h' W')) := by
  have pe := f_period s
  have pe' := f_period s'
  have wd := f_wide s
  have t1 := f_tr s'
  have t2 := f_lr s'
  have t3 := f_ud s'
  obtain ⟨q1, q2, q3, q4, _⟩ := pd_least s.o
  have w24 := s.w24
  have r2 := rng_nat (pd R h W) (by omega)
  by_cases c1 : h = h'
  · subst h'
    by_cases c2 : pd R h W = pd R' h W'
    · let Γ0 : Sl → Sl → Env := fun a b => [.v (sD R), .v (sD R'), a, b]
      have outer := fun (k : SO → M D) (z : M D) => loop_then (T := tName 2) (F := sFor (iRng1 (aCons (eMeth 0 1 Fn_Strip_period (eVar 0) aNil) (aNil))) (tName 3) (sIf (bOf (eOp dEq (eFld 0 0 (eMeth 0 2 Fn_Strip_moved (eMeth 0 2 Fn_Strip_repeated (eVar 2) (aCons (eMeth 0 1 Fn_Strip_wide (eVar 0) aNil) (aNil))) (aCons (eVar 3) (aNil)))) (eFld 0 0 (eVar 0)))) (sRet (eC (.bl true))) (sNil))) (fun Γ => ∃ a b, Γ = Γ0 a b) sD (fun I => (List.range (pd R h W)).any fun m => tst R W h I W' m) (fun _ => .bl true) [R', tr R' h W', lr R' h W', ud R' h W'] (Γ := Γ0 .no .no) (k := k) (z := z) ⟨_, _, rfl⟩ (by
        intro I hI Γ ⟨a, b, e⟩
        subst e
        have hI : I = R' ∨ I = tr R' h W' ∨ I = lr R' h W' ∨ I = ud R' h W' := by simpa using hI
        obtain ⟨sI, pI, _⟩ := pd_img s' hI
        refine ⟨Γ0 (.v (sD I)) b, rfl, ?_⟩
        have rp := f_rep sI W
        rw [if_pos ⟨by rw [pI, ← c2]; exact q3, s.o.wp, w24⟩] at rp
        have mvd := fun m => f_moved (s.mk' (sg I W')) m
        have inner := loop_first (T := tName 3) (F := sIf (bOf (eOp dEq (eFld 0 0 (eMeth 0 2 Fn_Strip_moved (eMeth 0 2 Fn_Strip_repeated (eVar 2) (aCons (eMeth 0 1 Fn_Strip_wide (eVar 0) aNil) (aNil))) (aCons (eVar 3) (aNil)))) (eFld 0 0 (eVar 0)))) (sRet (eC (.bl true))) (sNil)) (fun Γ => ∃ b, Γ = Γ0 (.v (sD I)) b) (fun x : Nat => D.int x) (fun m => tst R W h I W' m) (fun _ => .bl true) (List.range (pd R h W)) (Γ := Γ0 (.v (sD I)) b) ⟨_, rfl⟩ fun m hm Γ ⟨c, e⟩ => by
          subst e
          refine ⟨Γ0 (.v (sD I)) (.v (.int m)), rfl, ?_⟩
          simp only [sD] at wd rp mvd
          by_cases g : tst R W h I W' m = true
          · refine .inl ⟨g, ?_⟩
            have g : mv (mk W h (sg I W')) h W m = R := of_decide_eq_true g
            simp -implicitDefEqProofs [Γ0, sD, eVar_def, wd, rp, mvd, eq_tup, g]
          · refine .inr ⟨by simpa using g, Γ0 (.v (sD I)) (.v (.int m)), ⟨_, rfl⟩, ?_⟩
            have g : ¬ mv (mk W h (sg I W')) h W m = R := fun z => g (decide_eq_true z)
            simp -implicitDefEqProofs [Γ0, sD, eVar_def, wd, rp, mvd, eq_tup, g]
        have al : ((List.range (pd R h W)).any fun m => tst R W h I W' m) = ((List.range (pd R h W)).find? fun m => tst R W h I W' m).isSome := by
          rw [Bool.eq_iff_iff]
          simp
        rw [← intsD_zero] at inner
        simp only [sD] at pe
        rcases inner with ⟨x, e1, e2⟩ | ⟨e1, Γ', ⟨b', e3⟩, e2⟩
        · refine .inl ⟨by rw [al, e1]; rfl, ?_⟩
          simp only [Γ0, sD] at e2
          simp -implicitDefEqProofs [Γ0, eVar_def, sD, pe, r2, e2]
        · refine .inr ⟨by rw [al, e1]; rfl, Γ', ⟨_, _, e3⟩, ?_⟩
          simp only [Γ0, sD] at e2
          simp -implicitDefEqProofs [Γ0, eVar_def, sD, pe, r2, e2])
      have al : alike R h W R' h W' = ([R', tr R' h W', lr R' h W', ud R' h W'].find? fun I => (List.range (pd R h W)).any fun m => tst R W h I W' m).isSome := by
        rw [Bool.eq_iff_iff]
        rw [List.find?_isSome, alike_iff]
        constructor
        · intro ⟨_, I, hI, si⟩
          obtain ⟨sI, pI, _⟩ := pd_img s' hI
          exact ⟨I, by simpa using hI, (tst_any s sI (by rw [pI, c2])).mpr si⟩
        · intro ⟨I, hI, t⟩
          have hI : I = R' ∨ I = tr R' h W' ∨ I = lr R' h W' ∨ I = ud R' h W' := by simpa using hI
          obtain ⟨sI, pI, _⟩ := pd_img s' hI
          exact ⟨rfl, I, hI, (tst_any s sI (by rw [pI, c2])).mp t⟩
      rw [al]
      simp only [sD] at pe pe' t1 t2 t3
      simp only [sD, Γ0, List.map_cons, List.map_nil] at outer
      simp -implicitDefEqProofs [Fn_Strip_same, F_Strip_same, eVar_def, sD, pe, pe', t1, t2, t3, s.o.len, s'.o.len, ne_int, c2, iSeq, seqOf]
      rw [← c2, outer _ (M.pure (.bl false)) (by
        intro Γ' ⟨a, b, e⟩
        subst e
        rfl)]
      generalize List.find? _ _ = q
      cases q with
      | none => rfl
      | some a => rfl
    · have no : alike R h W R' h W' = false := by
        unfold alike
        rw [decide_eq_false_iff_not]
        intro ⟨_, I, hI, si⟩
        obtain ⟨sI, pI, _⟩ := pd_img s' hI
        exact c2 (by rw [← pI]; exact pd_unique s.o sI.o (sim_per si))
      rw [no]
      simp only [sD] at pe pe'
      have c3 : ¬ ((pd R h W : Nat) : Int) = (pd R' h W' : Nat) := by omega
      simp -implicitDefEqProofs [Fn_Strip_same, F_Strip_same, eVar_def, sD, pe, pe', s.o.len, s'.o.len, ne_int, c2, c3]
  · have no : alike R h W R' h' W' = false := by
      unfold alike
      rw [decide_eq_false_iff_not]
      intro ⟨e, _⟩
      exact c1 e.symm
    rw [no]
    have c3 : ¬ (h : Int) = (h' : Int) := by omega
    simp -implicitDefEqProofs [Fn_Strip_same, F_Strip_same, eVar_def, sD, s.o.len, s'.o.len, ne_int, c1, c3]
end
end Dd.Ma
namespace Dd.Ma
open PySem L2 K1
/-! ### the dice -/
def Dice (μ : List D) : Prop := ∃ a b c : Int, μ = [.lst [.int a, .int b, .int c]]
theorem bind_ok {α β : Type} {m : M α} {k : α → M β} {μ μ' : List D} {a : α} (h : m μ = .ok a μ') : M.bind m k μ = k a μ' := by unfold M.bind; rw [h]
theorem nox_ok {α : Type} {m : M α} {μ μ' : List D} {a : α} (h : m μ = .ok a μ') : nox m μ = .ok a μ' := by unfold nox; rw [h]
theorem cix0 (a b c : D) : cellIx (.cell 0) (.int 0) [.lst [a, b, c]] = .ok a [.lst [a, b, c]] := rfl
theorem cix1 (a b c : D) : cellIx (.cell 0) (.int 1) [.lst [a, b, c]] = .ok b [.lst [a, b, c]] := rfl
theorem cix2 (a b c : D) : cellIx (.cell 0) (.int 2) [.lst [a, b, c]] = .ok c [.lst [a, b, c]] := rfl
theorem cst0 (a b c d : D) : cellSet (.cell 0) (.int 0) d [.lst [a, b, c]] = .ok () [.lst [d, b, c]] := rfl
theorem cst1 (a b c d : D) : cellSet (.cell 0) (.int 1) d [.lst [a, b, c]] = .ok () [.lst [a, d, c]] := rfl
theorem cst2 (a b c d : D) : cellSet (.cell 0) (.int 2) d [.lst [a, b, c]] = .ok () [.lst [a, b, d]] := rfl
theorem o_eCIx (f g : E) (Γ : Env) : eCIx f g Γ = M.bind (f Γ) fun x => M.bind (g Γ) fun y => cellIx x y := rfl
theorem o_sCSet (ff fg fe : E) (Γ : Env) : sCSet ff fg fe Γ = M.bind (fe Γ) fun d => M.bind (ff Γ) fun x => M.bind (fg Γ) fun y => M.bind (cellSet x y d) fun _ => M.pure (.nx Γ) := rfl
theorem bind_app {α β : Type} (m : M α) (k : α → M β) (μ : List D) : M.bind m k μ = match m μ with
  | .ok a μ' => k a μ'
  | .exc c μ' => .exc c μ'
  | .bad => .bad := rfl
theorem pure_app {α : Type} (a : α) (μ : List D) : (M.pure a : M α) μ = .ok a μ := rfl
theorem ite_app {α : Type} {c : Prop} [Decidable c] (x y : M α) (μ : List D) : (if c then x else y) μ = if c then x μ else y μ := by split <;> rfl
theorem f_roll (n : Nat) (h0 : 0 < n) (h1 : n ≤ 100000000) {μ : List D} (hd : Dice μ) : ∃ r : Nat, r < n ∧ ∃ μ', Dice μ' ∧ Fn_law_roll [.cell 0, .int (n : Int)] μ = .ok (.int (r : Nat)) μ' := by
  obtain ⟨a, b, c, e⟩ := hd
  subst e
  have k0 : (0 : Int) < (n : Int) := by omega
  have k1 : (n : Int) < 1073741824 := by omega
  have k2 : ¬ (100000000 : Int) < (n : Int) := by omega
  have m1 : ∀ x : Int, dMul (.int x) (.int 48271) = some (.int (x * 48271)) := fun x => by
    show (if (-(2 ^ 64) < x ∧ x < 2 ^ 64) ∨ (-(2 ^ 64) < (48271 : Int) ∧ (48271 : Int) < 2 ^ 64) then some (D.int (x * 48271)) else none) = _
    rw [if_pos (.inr (by decide))]
  have m2 : ∀ x : Int, dMul (.int x) (.int 69621) = some (.int (x * 69621)) := fun x => by
    show (if (-(2 ^ 64) < x ∧ x < 2 ^ 64) ∨ (-(2 ^ 64) < (69621 : Int) ∧ (69621 : Int) < 2 ^ 64) then some (D.int (x * 69621)) else none) = _
    rw [if_pos (.inr (by decide))]
  have d1 : ∀ x : Int, dFdiv (.int x) (.int (n : Int)) = some (.int (x / n)) := fun x => by
    show (if 0 < (n : Int) ∧ (n : Int) < 1073741824 then some (D.int (x / n)) else none) = _
    rw [if_pos ⟨k0, k1⟩]
  have d2 : ∀ x : Int, dFdiv (.int x) (.int 7) = some (.int (x / 7)) := fun x => rfl
  have md : ∀ x : Int, dMod (.int x) (.int (n : Int)) = some (.int (x % n)) := fun x => by rw [o_mod, if_pos k0]
  have md2 : ∀ x : Int, dMod (.int x) (.int 2147483647) = some (.int (x % 2147483647)) := fun x => rfl
  have di : ∀ x : Int, dInt [.int x] = some (.int x) := fun x => rfl
  by_cases q : c = 2 ∨ (c = 1 ∧ 0 < a)
  · obtain ⟨r, e, hr⟩ := mod_nat a h0
    refine ⟨r, hr, _, ⟨a / n, b, c, rfl⟩, ?_⟩
    rw [← e]
    rcases q with q | ⟨q, q2⟩
    · subst q
      simp -implicitDefEqProofs [Fn_law_roll, F_law_roll, eVar_def, o_eCIx, o_sCSet, bind_app, pure_app, cix0, cix1, cix2, cst0, cst1, cst2, eq_int, di, md, d1]
    · subst q
      simp -implicitDefEqProofs [Fn_law_roll, F_law_roll, eVar_def, o_eCIx, o_sCSet, bind_app, pure_app, cix0, cix1, cix2, cst0, cst1, cst2, eq_int, di, md, d1, q2, ite_app]
  · obtain ⟨r, e, hr⟩ := mod_nat ((a * 48271 + b * 69621 + 11) % 2147483647 / 7) h0
    refine ⟨r, hr, _, ⟨(a * 48271 + b * 69621 + 11) % 2147483647, b + 1, 0, rfl⟩, ?_⟩
    rw [← e]
    have q1 : ¬ c = 2 := fun z => q (.inl z)
    by_cases q2 : c = 1
    · have q3 : ¬ 0 < a := fun z => q (.inr ⟨q2, z⟩)
      subst q2
      simp -implicitDefEqProofs [Fn_law_roll, F_law_roll, eVar_def, o_eCIx, o_sCSet, bind_app, pure_app, cix0, cix1, cix2, cst0, cst1, cst2, eq_int, di, md, md2, d2, m1, m2, k2, q3, ite_app]
    · simp -implicitDefEqProofs [Fn_law_roll, F_law_roll, eVar_def, o_eCIx, o_sCSet, bind_app, pure_app, cix0, cix1, cix2, cst0, cst1, cst2, eq_int, di, md, md2, d2, m1, m2, k2, q1, q2, ite_app]
theorem f_dice (n : Int) : ∃ a b c : Int, Fn_law_dice [.int n] = M.pure (.lst [.int a, .int b, .int c]) := by
  have p : dPow (.int 10) (.int 18) = some (.int (10 ^ 18)) := by rfl
  have md2 : ∀ x : Int, dMod (.int x) (.int 1009) = some (.int (x % 1009)) := fun x => rfl
  have di : ∀ x : Int, dInt [.int x] = some (.int x) := fun x => rfl
  have di2 : ∀ x : Bool, dInt [.bl x] = some (.int (if x then 1 else 0)) := fun x => rfl
  have ab : ∀ x : Int, dAbs [.int x] = some (.int (if x < 0 then -x else x)) := fun x => rfl
  have ge : ∀ x y : Int, dGe (.int x) (.int y) = some (.bl (decide (y ≤ x))) := fun _ _ => rfl
  by_cases q : -10 < n
  · by_cases q2 : n < 10
    · exact ⟨_, _, _, by simp -implicitDefEqProofs [Fn_law_dice, F_law_dice, eVar_def, q, q2, ab]; rfl⟩
    · exact ⟨_, _, _, by simp -implicitDefEqProofs [Fn_law_dice, F_law_dice, eVar_def, q, q2, p, md2, di, di2, ge]; rfl⟩
  · exact ⟨_, _, _, by simp -implicitDefEqProofs [Fn_law_dice, F_law_dice, eVar_def, q, p, md2, di, di2, ge]; rfl⟩
theorem f_rounds (ns : List Int) : ∃ a b c : Int, Fn_law_rounds [.rol (ns.map .int), .int 1] = M.pure (.lst [.lst [.int a, .int b, .int c]]) := by
  cases ns with
  | nil =>
    obtain ⟨a, b, c, e⟩ := f_dice 0
    refine ⟨a, b, c, ?_⟩
    have s1 : dSl (.rol []) none (some 1) = some (.lst []) := rfl
    have q : dEq (.lst []) (.lst []) = some (.bl true) := rfl
    simp -implicitDefEqProofs [Fn_law_rounds, F_law_rounds, eVar_def, s1, q, iSeq, seqOf, wipeG, lcF, e]
  | cons n ns =>
    obtain ⟨a, b, c, e⟩ := f_dice n
    refine ⟨a, b, c, ?_⟩
    have s1 : dSl (.rol (.int n :: ns.map .int)) none (some 1) = some (.lst [.int n]) := by
      show some (D.lst (cutG _ none (some ((1 : Nat) : Int)))) = _
      rw [cut_hi _ _ (by simp)]
      rfl
    have q : dEq (.lst [.int n]) (.lst []) = some (.bl false) := rfl
    simp -implicitDefEqProofs [Fn_law_rounds, F_law_rounds, eVar_def, s1, q, iSeq, seqOf, wipeG, lcF, e]
end Dd.Ma
namespace Dd.Ma
open PySem L2 K1
section
variable {T : Tgt} {fb : Env → M Bool} {fe : E} {Γ : Env}
theorem lc_st (P : D → Prop) : ∀ (ds : List D), (∀ d ∈ ds, ∃ Γ1, T d Γ = some Γ1 ∧ fb Γ1 = M.pure true ∧ ∀ μ, Dice μ → ∃ y μ', fe Γ1 μ = .ok y μ' ∧ Dice μ' ∧ P y) → ∀ μ, Dice μ → ∃ ys μ', lcF T fb fe Γ ds μ = .ok ys μ' ∧ Dice μ' ∧ ys.length = ds.length ∧ ∀ y ∈ ys, P y
  | [], _, μ, hd => ⟨[], μ, rfl, hd, rfl, by simp⟩
  | d :: ds, h, μ, hd => by
    obtain ⟨Γ1, h1, h2, h3⟩ := h d List.mem_cons_self
    obtain ⟨y, μ1, e1, hd1, hy⟩ := h3 μ hd
    obtain ⟨ys, μ2, e2, hd2, hl, hy2⟩ := lc_st P ds (fun x hx => h x (List.mem_cons_of_mem _ hx)) μ1 hd1
    refine ⟨y :: ys, μ2, ?_, hd2, by simp [hl], fun z hz => ?_⟩
    · unfold lcF
      rw [h1, M.opt_some, M.pure_bind, h2, M.pure_bind, if_pos rfl, bind_ok e1, bind_ok e2]
      rfl
    · rcases List.mem_cons.mp hz with e | e
      · rw [e]; exact hy
      · exact hy2 z e
theorem loop_st {F : SF} (I : Env → Prop) : ∀ (ds : List D) (Γ : Env), I Γ → (∀ d ∈ ds, ∀ Γ, I Γ → ∃ Γ1, T d Γ = some Γ1 ∧ ∀ μ, Dice μ → ∃ Γ2 μ', F Γ1 μ = .ok (.nx Γ2) μ' ∧ Dice μ' ∧ I Γ2) → ∀ μ, Dice μ → ∃ Γ' μ', loopF T F ds Γ μ = .ok (.nx Γ') μ' ∧ Dice μ' ∧ I Γ'
  | [], Γ, hI, _, μ, hd => ⟨Γ, μ, rfl, hd, hI⟩
  | d :: ds, Γ, hI, h, μ, hd => by
    obtain ⟨Γ1, h1, h2⟩ := h d List.mem_cons_self Γ hI
    obtain ⟨Γ2, μ1, e1, hd1, hI2⟩ := h2 μ hd
    obtain ⟨Γ', μ2, e2, hd2, hI3⟩ := loop_st I ds Γ2 hI2 (fun x hx => h x (List.mem_cons_of_mem _ hx)) μ1 hd1
    refine ⟨Γ', μ2, ?_, hd2, hI3⟩
    rw [loopF, h1, M.opt_some, M.pure_bind, bind_ok e1]
    exact e2
end
/-- a strip of the law's own drawing -/
structure Gs (R : List (List Nat)) (h W : Nat) : Prop where
  o : Ok R h W
  h3 : h ≤ 3
  w18 : W ≤ 18
  sg : ∀ r ∈ R, ∀ c ∈ r, c ∈ [97, 98, 46]
theorem Gs.st {R : List (List Nat)} {h W : Nat} (g : Gs R h W) : St R h W := ⟨g.o, by have := g.h3; omega, by have := g.w18; omega⟩
theorem list_rows {Q : List Nat → Prop} : ∀ {ys : List D}, (∀ y ∈ ys, ∃ r, y = rD r ∧ Q r) → ∃ R, ys = rows R ∧ ∀ r ∈ R, Q r
  | [], _ => ⟨[], rfl, by simp⟩
  | y :: ys, h => by
    obtain ⟨r, e, q⟩ := h y List.mem_cons_self
    obtain ⟨R, e2, q2⟩ := list_rows (ys := ys) fun x hx => h x (List.mem_cons_of_mem _ hx)
    refine ⟨r :: R, by rw [e, e2]; rfl, fun z hz => ?_⟩
    rcases List.mem_cons.mp hz with e | e
    · rw [e]; exact q
    · exact q2 z e
theorem seq_ok {F G : SF} {Γ Γ' : Env} {μ μ' : List D} (h : F Γ μ = .ok (.nx Γ') μ') : sSeq F G Γ μ = G Γ' μ' := by
  rw [o_sSeq, bind_ok h]
theorem o_eJoin' (f g : E) (Γ : Env) : eJoin f g Γ = M.bind (f Γ) fun x => M.bind (M.opt (asS x)) fun s => M.bind (g Γ) fun y => M.opt (dJoin s y) := rfl
section
variable {R : List (List Nat)} {h W : Nat}
theorem Gs.rev (g : Gs R h W) : Gs R.reverse h W := ⟨g.o.rev, g.h3, g.w18, fun r hr => g.sg r (by simpa using hr)⟩
theorem Gs.lr (g : Gs R h W) : Gs (R.map List.reverse) h W := ⟨by rw [lr_mk g.o]; exact mk_ok g.o.wp g.o.hp, g.h3, g.w18, fun r hr => by
  obtain ⟨q, hq, e⟩ := List.mem_map.mp hr
  subst e
  intro c hc
  exact g.sg q hq c (by simpa using hc)⟩
theorem rows_rev : (rows R).reverse = rows R.reverse := by simp [rows]
theorem lc_flip {i : Nat} {Γ : Env} (hi : ∀ r, (Γ.set i (.v (rD r)))[i]? = some (.v (rD r))) (Q : List (List Nat)) : lcF (tName i) bYes (eRev (eVar i)) Γ (rows Q) = M.pure (rows (Q.map List.reverse)) := by
  rw [lc_rows (fun r => rD r.reverse) Q fun r hr => ⟨_, rfl, rfl, by
    rw [o_eRev, var_v (hi r)]
    simp [rD, dRev, rS_rev]⟩]
  simp [rows]
  rfl
theorem roll_e {i : Nat} {Γ : Env} (hi : Γ[i]? = some (.v (.cell 0))) {f : E} {n : Nat} (hf : f Γ = M.pure (.int (n : Int))) (h0 : 0 < n) (h1 : n ≤ 100000000) {μ : List D} (hd : Dice μ) : ∃ r : Nat, r < n ∧ ∃ μ', Dice μ' ∧ eFun 2 Fn_law_roll (aCons (eVar i) (aCons f aNil)) Γ μ = .ok (.int (r : Nat)) μ' := by
  obtain ⟨r, hr, μ', hd', e⟩ := f_roll n h0 h1 hd
  refine ⟨r, hr, μ', hd', ?_⟩
  simp -implicitDefEqProofs [var_v hi, hf, e]
theorem zip_app : ∀ (A B : List (List Nat)) {Γ : Env} (e : Env), (∀ a b, ∃ Γ1, tTup 2 (tsCons (tName 9) (tsCons (tName 10) tsNil)) (.tup [rD a, rD b]) e = some Γ1 ∧ Γ1[9]? = some (.v (rD a)) ∧ Γ1[10]? = some (.v (rD b))) → (∀ a ∈ A, ∀ b ∈ B, a.length + b.length ≤ 16777216) → lcF (tTup 2 (tsCons (tName 9) (tsCons (tName 10) tsNil))) bYes (eOp dAdd (eVar 9) (eVar 10)) e (((rows A).zip (rows B)).map fun p => .tup [p.1, p.2]) = M.pure (rows ((A.zip B).map fun p => p.1 ++ p.2))
  | [], _, _, _, _, _ => by simp [rows, lcF]
  | _ :: _, [], _, _, _, _ => by simp [rows, lcF]
  | a :: A, b :: B, Γ, e, ht, hl => by
    have ih := zip_app A B (Γ := Γ) e ht fun x hx y hy => hl x (List.mem_cons_of_mem _ hx) y (List.mem_cons_of_mem _ hy)
    obtain ⟨Γ1, h1, h2, h3⟩ := ht a b
    have k := hl a List.mem_cons_self b List.mem_cons_self
    show lcF _ _ _ e (.tup [rD a, rD b] :: (((rows A).zip (rows B)).map fun p => .tup [p.1, p.2])) = _
    unfold lcF
    rw [h1, M.opt_some, M.pure_bind, ih]
    have ad : dAdd (rD a) (rD b) = some (rD (a ++ b)) := by
      show (if (rS a).length + (rS b).length ≤ 16777216 then some (D.str (rS a ++ rS b)) else none) = _
      rw [rS_len, rS_len, if_pos k, rS_app]
      rfl
    simp -implicitDefEqProofs [var_v h2, var_v h3, ad]
theorem Gs.app {A : List (List Nat)} (g : Gs R h W) (g' : Gs A h W) (hw : W < 10) : Gs ((R.zip A).map fun p => p.1 ++ p.2) h (2 * W) where
  o := ⟨by simp [g.o.len, g'.o.len], g.o.hp, fun r hr => by
    obtain ⟨p, hp, e⟩ := List.mem_map.mp hr
    have h1 := List.of_mem_zip hp
    rw [← e, List.length_append, g.o.wd _ h1.1, g'.o.wd _ h1.2]
    omega, by have := g.o.wp; omega⟩
  h3 := g.h3
  w18 := by omega
  sg := fun r hr c hc => by
    obtain ⟨p, hp, e⟩ := List.mem_map.mp hr
    have h1 := List.of_mem_zip hp
    subst e
    rcases List.mem_append.mp hc with z | z
    · exact g.sg _ h1.1 c z
    · exact g'.sg _ h1.2 c z
end
end Dd.Ma
namespace Dd.Ma
open PySem L2 K1
/-! ### the further combinators, opened -/
@[simp] theorem o_eDisp (fk : Env → M KD) (Γ : Env) : eDisp fk Γ = M.bind (fk Γ) fun kd => if kd.1.Nodup ∧ kd.1.length ≤ 15 ∧ kd.1.length = kd.2.length then M.pure (.dk kd.1 kd.2) else M.bad := rfl
@[simp] theorem o_kNil (Γ : Env) : kNil Γ = M.pure ([], []) := rfl
@[simp] theorem o_kCons (f g : E) (h : Env → M KD) (Γ : Env) : kCons f g h Γ = M.bind (f Γ) fun x => M.bind (g Γ) fun y => M.bind (M.opt (keyOf x)) fun k => M.bind (h Γ) fun kd => if kd.1.length = kd.2.length then M.pure (k :: kd.1, y :: kd.2) else M.bad := rfl
@[simp] theorem o_eListItems (f : E) (Γ : Env) : eListItems f Γ = M.bind (f Γ) fun x => M.opt (match x with
  | .dk ks ds => if ks.all keyOk = true ∧ ks.length ≤ 16777216 then some (.lst (itemsD ks ds)) else none
  | _ => none) := rfl
@[simp] theorem o_eTupG (fi : Env → M (List D)) (T : Tgt) (fe : E) (vs : List Nat) (Γ : Env) : eTupG fi T fe vs Γ = M.bind (fi Γ) fun ds => M.bind (nox (lcF T bYes fe (wipeG Γ vs) ds)) fun ys => M.pure (.tup ys) := rfl
@[simp] theorem o_eLc2 (fi0 : Env → M (List D)) (T : Tgt) (fi : Env → M (List D)) (T1 : Tgt) (fe : E) (vs vs1 : List Nat) (Γ : Env) : eLc2 fi0 T fi T1 fe vs vs1 Γ = M.bind (fi0 Γ) fun ds => M.bind (nox (lcF2 T fi T1 fe (wipeG Γ vs) vs1 0 ds)) fun ys => M.pure (.lst ys) := rfl
@[simp] theorem o_iRng3E (fs : Env → M (List D)) (Γ : Env) : iRng3E fs Γ = M.bind (fs Γ) fun xs => M.opt (range3D xs) := rfl
@[simp] theorem o_iZipE (fs : Env → M (List D)) (Γ : Env) : iZipE fs Γ = M.bind (fs Γ) fun xs => M.opt (zipDB xs) := rfl
@[simp] theorem o_iEnumE (fs : Env → M (List D)) (Γ : Env) : iEnumE fs Γ = M.bind (fs Γ) fun xs => M.opt (enumD xs) := rfl
@[simp] theorem o_sAug (i : Nat) (dop : D → D → Option D) (f : E) (Γ : Env) : sAug i dop f Γ = M.bind (eVar i Γ) fun x => M.bind (f Γ) fun y => M.bind (M.opt (dop x y)) fun z => M.pure (.nx (Γ.set i (.v z))) := rfl
@[simp] theorem o_sOwnL (i : Nat) (Γ : Env) : sOwnL i Γ = M.pure (.nx (Γ.set i (.o (.lst [])))) := rfl
@[simp] theorem o_sOwnD (i : Nat) (Γ : Env) : sOwnD i Γ = M.pure (.nx (Γ.set i (.o (.dk [] [])))) := rfl
@[simp] theorem o_sPutO (i : Nat) (f g : E) (Γ : Env) : sPutO i f g Γ = M.bind (M.opt (ownK i Γ)) fun kd => M.bind (f Γ) fun x => M.bind (g Γ) fun y => M.bind (M.opt (keyOf y)) fun k => if kd.1.length < 16777216 then M.pure (.nx (Γ.set i (.o (.dk (putKs kd.1 k) (putVs kd.1 kd.2 k x))))) else M.bad := rfl
@[simp] theorem o_eGetO (i : Nat) (g : E) (Γ : Env) : eGetO i g Γ = M.bind (M.opt (ownK i Γ)) fun kd => M.bind (g Γ) fun y => M.opt ((keyOf y).bind (getK kd.1 kd.2)) := rfl
@[simp] theorem o_sAugO (i : Nat) (g f : E) (Γ : Env) : sAugO i g f Γ = M.bind (M.opt (ownK i Γ)) fun kd => M.bind (g Γ) fun y => M.bind (M.opt ((keyOf y).bind fun k => (getK kd.1 kd.2 k).bind fun d => (asI d).map fun n => (k, n))) fun kn => M.bind (f Γ) fun z => M.bind (M.opt (asI z)) fun z => if kd.1.length < 16777216 then M.pure (.nx (Γ.set i (.o (.dk (putKs kd.1 kn.1) (putVs kd.1 kd.2 kn.1 (.int (kn.2 + z))))))) else M.bad := rfl
@[simp] theorem o_eLenDO (i : Nat) (Γ : Env) : eLenDO i Γ = M.bind (M.opt (ownK i Γ)) fun kd => M.pure (.int kd.1.length) := rfl
@[simp] theorem o_eMinO (i : Nat) (Γ : Env) : eMinO i Γ = M.bind (M.opt (ownL i Γ)) fun ds => M.opt (minD ds) := rfl
@[simp] theorem o_eAnyO (i : Nat) (T : Tgt) (fe : E) (vs : List Nat) (Γ : Env) : eAnyO i T fe vs Γ = M.bind (M.opt (ownL i Γ)) fun ds => M.bind (nox (anyF T fe (wipeG Γ vs) ds)) fun b => M.pure (.bl b) := rfl
@[simp] theorem o_sRetO (i : Nat) (Γ : Env) : sRetO i Γ = M.bind (M.opt (ownD i Γ)) fun d => M.pure (.ret d) := rfl
@[simp] theorem o_eAny (fi : Env → M (List D)) (T : Tgt) (fe : E) (vs : List Nat) (Γ : Env) : eAny fi T fe vs Γ = M.bind (fi Γ) fun ds => M.bind (nox (anyF T fe (wipeG Γ vs) ds)) fun b => M.pure (.bl b) := rfl

/-! ### rows joined, strips side by side -/
theorem joinL_nil : ∀ L : List (List Nat), TL.joinL [] L = L.flatten
  | [] => rfl
  | [a] => by
    show a = _
    simp
  | a :: b :: L => by
    show a ++ ([] ++ TL.joinL [] (b :: L)) = _
    rw [joinL_nil (b :: L)]
    simp
theorem join_rows (L : List (List Nat)) (hl : L.flatten.length ≤ 16777216) : dJoin "" (.lst (rows L)) = some (rD L.flatten) := by
  show ((strsOf (rows L)).bind fun ss => if (ss.map (·.length)).sum + ss.length * ("" : Str).length ≤ 16777216 then some (D.str (Txt.join "" ss)) else none) = _
  rw [strs_rows]
  have e2 : ((L.map rS).map (·.length)).sum = L.flatten.length := by
    clear hl
    induction L with
    | nil => rfl
    | cons a l ih =>
      rw [List.map_cons, List.map_cons, List.sum_cons, ih, rS_len, List.flatten_cons, List.length_append]
  have e3 : ("" : Str).length = 0 := rfl
  have e4 : Txt.join "" (L.map rS) = rS L.flatten := by
    rw [TL.join_eq]
    apply TL.ext_tl
    rw [TL.tl_join]
    have e5 : (L.map rS).map TL.tl = L := by
      rw [List.map_map]
      have : ∀ r ∈ L, (TL.tl ∘ rS) r = r := fun r _ => rS_cps r
      rw [List.map_congr_left this, List.map_id']
    rw [e5]
    exact (joinL_nil _).trans (rS_cps _).symm
  rw [Option.bind_some, e2, e3, if_pos (by omega), e4]
  rfl
def hcat (Rs : List (List (List Nat))) (h : Nat) : List (List Nat) := (List.range h).map fun y => (Rs.map fun R => (R[y]?).getD []).flatten
theorem hcat_len (Rs : List (List (List Nat))) (h : Nat) : (hcat Rs h).length = h := by unfold hcat; simp
def wds (Rs : List (List (List Nat))) (h : Nat) : Prop := Rs ≠ [] ∧ ∀ R ∈ Rs, R.length = h ∧ 0 < h
theorem row_at {R : List (List Nat)} {h y : Nat} (hl : R.length = h) (hy : y < h) : atI (rows R) (y : Int) = some (rD ((R[y]?).getD [])) := by
  rw [atI_nat (by rw [rows_len, hl]; exact hy), rows_get]
  have : y < R.length := by omega
  simp [List.getElem?_eq_getElem this]
theorem f_beside {Rs : List (List (List Nat))} {h W : Nat} (hw : wds Rs h) (s : St (hcat Rs h) h W) (hf : ∀ y, y < h → (Rs.map fun R => (R[y]?).getD []).flatten.length ≤ 16777216) : Fn_beside [.lst (Rs.map sD)] = M.pure (sD (hcat Rs h)) := by
  obtain ⟨hn, ha⟩ := hw
  obtain ⟨R0, Rs', e0⟩ : ∃ R0 Rs', Rs = R0 :: Rs' := by
    cases Rs with
    | nil => exact absurd rfl hn
    | cons a b => exact ⟨a, b, rfl⟩
  have a0 : atI (Rs.map sD) 0 = some (sD R0) := by rw [e0, List.map_cons]; exact atI_zero _ _
  have l0 : R0.length = h := (ha R0 (by rw [e0]; exact List.mem_cons_self)).1
  have hl : ¬ ((Rs.length : Int) = 0) := by rw [e0, List.length_cons]; omega
  have h8 := s.h8
  have an : ∀ (a b : Sl), anyF (tName 2) (eOp dNe (eCall dLen (aCons (eFld 0 0 (eVar 2)) (aNil))) (eCall dLen (aCons (eFld 0 0 (eIx (eVar 0) (eC (.int 0)))) (aNil)))) [.v (.lst (Rs.map sD)), a, b] (Rs.map sD) = M.pure ((Rs.map sD).any fun _ => false) := fun a b => any_pure fun r hr => by
    obtain ⟨q, hq, e⟩ := List.mem_map.mp hr
    subst e
    refine ⟨_, rfl, ?_⟩
    have a0' : atI (Rs.map fun R => D.obj 0 [.tup (rows R)]) 0 = some (.obj 0 [.tup (rows R0)]) := a0
    simp -implicitDefEqProofs [eVar_def, sD, a0, a0', l0, (ha q hq).1, ne_int]
  have an2 : (Rs.map sD).any (fun _ => false) = false := by simp
  rw [an2] at an
  have rg := rng_nat h (by omega)
  have inner : ∀ (a : Sl) (y : Nat), y < h → lcF (tName 2) bYes (eIx (eFld 0 0 (eVar 2)) (eVar 1)) [.v (.lst (Rs.map sD)), .v (.int (y : Int)), a] (Rs.map sD) = M.pure (rows (Rs.map fun R => (R[y]?).getD [])) := fun a y hy => by
    rw [lc_map sD (fun _ => true) (fun R => rD ((R[y]?).getD [])) Rs fun R hR => ⟨_, rfl, rfl, fun _ => by
      simp -implicitDefEqProofs [eVar_def, sD, row_at (ha R hR).1 hy]⟩]
    rw [List.filter_eq_self.mpr (by simp)]
    unfold rows
    rw [List.map_map]
    rfl
  have outer : ∀ (a b : Sl), lcF (tName 1) bYes (eJoin (eC (.str "")) (eLc (iSeq (eVar 0)) (tName 2) (bYes) (eIx (eFld 0 0 (eVar 2)) (eVar 1)) [2])) [.v (.lst (Rs.map sD)), a, b] (intsD 0 h) = M.pure (rows (hcat Rs h)) := fun a b => by
    rw [lc_nats (fun y => rD (Rs.map fun R => (R[y]?).getD []).flatten) h fun y hy => ⟨_, rfl, rfl, by
      simp -implicitDefEqProofs [eVar_def, seqOf, wipeG, inner _ y hy, join_rows _ (hf y hy)]⟩]
    unfold hcat rows
    rw [List.map_map]
    rfl
  have fi := s.init (.lst (rows (hcat Rs h))) (.inl rfl)
  have a0' : atI (Rs.map fun R => D.obj 0 [.tup (rows R)]) 0 = some (.obj 0 [.tup (rows R0)]) := a0
  simp -implicitDefEqProofs [Fn_beside, F_beside, eVar_def, eq_int, hl, seqOf, wipeG, an, a0, l0, rg, outer, fi]
  rw [show sD R0 = .obj 0 [.tup (rows R0)] from rfl]
  simp -implicitDefEqProofs [l0, rg, outer, fi]
  intro z
  exact absurd z hn
def lD (R : List (List Nat)) : D := .lst (rows R)
theorem f_law_beside {Rs : List (List (List Nat))} {h : Nat} (hw : wds Rs h) (h8 : h ≤ 10000) (hf : ∀ y, y < h → (Rs.map fun R => (R[y]?).getD []).flatten.length ≤ 16777216) : Fn_law_beside [.lst (Rs.map lD)] = M.pure (.lst (rows (hcat Rs h))) := by
  obtain ⟨hn, ha⟩ := hw
  obtain ⟨R0, Rs', e0⟩ : ∃ R0 Rs', Rs = R0 :: Rs' := by
    cases Rs with
    | nil => exact absurd rfl hn
    | cons a b => exact ⟨a, b, rfl⟩
  have a0 : atI (Rs.map lD) 0 = some (.lst (rows R0)) := by rw [e0, List.map_cons]; exact atI_zero _ _
  have l0 : R0.length = h := (ha R0 (by rw [e0]; exact List.mem_cons_self)).1
  have rg := rng_nat h (by omega)
  have inner : ∀ (a : Sl) (y : Nat), y < h → lcF (tName 2) bYes (eIx (eVar 2) (eVar 1)) [.v (.lst (Rs.map lD)), .v (.int (y : Int)), a] (Rs.map lD) = M.pure (rows (Rs.map fun R => (R[y]?).getD [])) := fun a y hy => by
    rw [lc_map lD (fun _ => true) (fun R => rD ((R[y]?).getD [])) Rs fun R hR => ⟨_, rfl, rfl, fun _ => by
      simp -implicitDefEqProofs [eVar_def, lD, row_at (ha R hR).1 hy]⟩]
    rw [List.filter_eq_self.mpr (by simp)]
    unfold rows
    rw [List.map_map]
    rfl
  have outer : ∀ (a b : Sl), lcF (tName 1) bYes (eJoin (eC (.str "")) (eLc (iSeq (eVar 0)) (tName 2) (bYes) (eIx (eVar 2) (eVar 1)) [2])) [.v (.lst (Rs.map lD)), a, b] (intsD 0 h) = M.pure (rows (hcat Rs h)) := fun a b => by
    rw [lc_nats (fun y => rD (Rs.map fun R => (R[y]?).getD []).flatten) h fun y hy => ⟨_, rfl, rfl, by
      simp -implicitDefEqProofs [eVar_def, seqOf, wipeG, inner _ y hy, join_rows _ (hf y hy)]⟩]
    unfold hcat rows
    rw [List.map_map]
    rfl
  simp -implicitDefEqProofs [Fn_law_beside, F_law_beside, eVar_def, a0, l0, rg, wipeG, outer]
end Dd.Ma
namespace Dd.Ma
open PySem L2 K1
theorem flat_get {W : Nat} : ∀ (L : List (List Nat)), (∀ r ∈ L, r.length = W) → ∀ (b q : Nat), q < W → L.flatten[W * b + q]? = (L[b]?).bind fun r => r[q]?
  | [], _, b, q, _ => by simp
  | a :: L, h, 0, q, hq => by
    have ha := h a List.mem_cons_self
    rw [List.flatten_cons, Nat.mul_zero, Nat.zero_add, List.getElem?_append_left (by omega)]
    rfl
  | a :: L, h, b + 1, q, hq => by
    have ha := h a List.mem_cons_self
    have e : W * (b + 1) + q = a.length + (W * b + q) := by rw [ha, Nat.mul_add]; omega
    rw [List.flatten_cons, e, List.getElem?_append_right (by omega), Nat.add_sub_cancel_left, flat_get L (fun r hr => h r (List.mem_cons_of_mem _ hr)) b q hq]
    rfl
theorem flat_len {W : Nat} : ∀ (L : List (List Nat)), (∀ r ∈ L, r.length = W) → L.flatten.length = L.length * W
  | [], _ => by simp
  | a :: L, h => by
    rw [List.flatten_cons, List.length_append, flat_len L fun r hr => h r (List.mem_cons_of_mem _ hr), h a List.mem_cons_self, List.length_cons, Nat.succ_mul]
    omega
section
variable {Rs : List (List (List Nat))} {h W : Nat}
theorem rows_wd (ha : ∀ A ∈ Rs, Ok A h W) {y : Nat} (hy : y < h) : ∀ r ∈ Rs.map (fun R => (R[y]?).getD []), r.length = W := fun r hr => by
  obtain ⟨A, hA, e⟩ := List.mem_map.mp hr
  obtain ⟨r', e1, e2⟩ := (ha A hA).row hy
  rw [← e, e1]
  exact e2
theorem hcat_ok (ha : ∀ A ∈ Rs, Ok A h W) (hp : 0 < h) (wp : 0 < W) (hn : Rs ≠ []) : Ok (hcat Rs h) h (Rs.length * W) where
  len := hcat_len Rs h
  hp := hp
  wd := fun r hr => by
    unfold hcat at hr
    obtain ⟨y, hy, e⟩ := List.mem_map.mp hr
    rw [← e, flat_len _ (rows_wd ha (List.mem_range.mp hy)), List.length_map]
  wp := Nat.mul_pos (by cases Rs with | nil => exact absurd rfl hn | cons a b => simp) wp
theorem sg_hcat (ha : ∀ A ∈ Rs, Ok A h W) {n b q y : Nat} (hn : Rs.length = n) (hb : b < n) (hq : q < W) (hy : y < h) (t z : Int) (hz : z = ((n * W : Nat) : Int) * t + ((W * b + q : Nat) : Int)) : sg (hcat Rs h) (n * W) z y = sg (Rs.getD b []) W (q : Int) y := by
  have hlt : W * b + q < n * W := by
    have h1 : W * b + W ≤ W * n := by
      have : W * (b + 1) ≤ W * n := Nat.mul_le_mul_left W hb
      rw [Nat.mul_add] at this
      omega
    rw [Nat.mul_comm n W]
    omega
  have e1 : (z % ((n * W : Nat) : Int)).toNat = W * b + q := by
    rw [hz, Int.mul_comm, Int.add_comm, Int.add_mul_emod_self_right, Int.emod_eq_of_lt (by omega) (by omega)]
    rfl
  have e2 : (((q : Nat) : Int) % (W : Int)).toNat = q := by
    rw [Int.emod_eq_of_lt (by omega) (by omega)]
    rfl
  unfold sg
  rw [e1, e2]
  have hb2 : b < Rs.length := by omega
  have e3 : (hcat Rs h)[y]? = some (Rs.map fun R => (R[y]?).getD []).flatten := by
    unfold hcat
    rw [List.getElem?_map, List.getElem?_range hy]
    rfl
  rw [e3, Option.getD_some, flat_get _ (rows_wd ha hy) b q hq, List.getElem?_map, List.getElem?_eq_getElem hb2, List.getD_eq_getElem?_getD, List.getElem?_eq_getElem hb2]
  rfl
end
section
variable {R : List (List Nat)} {h W : Nat}
theorem lr_list (s : St R h W) : R.map List.reverse = lr R h W := lr_mk s.o
theorem ud_list (s : St R h W) : R.reverse = ud R h W := rev_mk s.o
theorem tr_list (s : St R h W) : R.reverse.map List.reverse = tr R h W := by
  rw [ud_list s, lr_list s.ud, tr_eq s]
def madeR (R : List (List Nat)) (h W : Nat) : Nat → List (List Nat)
  | 0 => hcat [R] h
  | 1 => hcat [R, ud R h W] h
  | 2 => hcat [R, lr R h W] h
  | 3 => hcat [R, tr R h W] h
  | 4 => hcat [R, lr R h W, ud R h W, tr R h W] h
  | 5 => R ++ R.reverse
  | _ => hcat [R, lr R h W] h ++ (hcat [R, lr R h W] h).reverse
def mh (h : Nat) (k : Nat) : Nat := if k < 5 then h else 2 * h
def mw (W : Nat) : Nat → Nat
  | 0 => 1 * W
  | 4 => 4 * W
  | 5 => W
  | _ => 2 * W
theorem hcat_one (o : Ok R h W) : hcat [R] h = R := by
  unfold hcat
  apply List.ext_getElem?
  intro y
  by_cases hy : y < h
  · obtain ⟨r, e, _⟩ := o.row hy
    rw [List.getElem?_map, List.getElem?_range hy, e]
    simp [e]
  · rw [List.getElem?_eq_none (by simp; omega), List.getElem?_eq_none (by rw [o.len]; omega)]
theorem app_ok {A B : List (List Nat)} {h1 h2 : Nat} (o : Ok A h1 W) (o' : Ok B h2 W) : Ok (A ++ B) (h1 + h2) W where
  len := by rw [List.length_append, o.len, o'.len]
  hp := by have := o.hp; omega
  wd := fun r hr => (List.mem_append.mp hr).elim (o.wd r) (o'.wd r)
  wp := o.wp
theorem made_ok (s : St R h W) (k : Nat) : Ok (madeR R h W k) (mh h k) (mw W k) := by
  have o := s.o
  have hp := o.hp
  have wp := o.wp
  have two : ∀ A : List (List Nat), Ok A h W → Ok (hcat [R, A] h) h (2 * W) := fun A oA => hcat_ok (fun B hB => by
    rcases List.mem_cons.mp hB with rfl | hB
    · exact o
    · rw [List.mem_singleton.mp hB]; exact oA) hp wp (by simp)
  match k with
  | 0 => exact hcat_ok (fun B hB => by rw [List.mem_singleton.mp hB]; exact o) hp wp (by simp)
  | 1 => exact two _ s.ud.o
  | 2 => exact two _ s.lr.o
  | 3 => exact two _ s.tr.o
  | 4 => exact hcat_ok (Rs := [R, lr R h W, ud R h W, tr R h W]) (fun B hB => by
      simp only [List.mem_cons, List.mem_nil_iff, or_false] at hB
      rcases hB with rfl | rfl | rfl | rfl
      · exact o
      · exact s.lr.o
      · exact s.ud.o
      · exact s.tr.o) hp wp (by simp)
  | 5 =>
    have := app_ok o o.rev
    show Ok _ (2 * h) W
    rw [Nat.two_mul]
    exact this
  | k + 6 =>
    have := app_ok (two _ s.lr.o) (two _ s.lr.o).rev
    have e : mh h (k + 6) = h + h := by unfold mh; rw [if_neg (by omega)]; omega
    rw [e]
    exact this

/-! ### what a made strip has -/
theorem kp_blocks {Rs : List (List (List Nat))} {n : Nat} {flip turn : Bool} {m : Int} (ha : ∀ A ∈ Rs, Ok A h W) (hn : Rs.length = n) (o : Ok (hcat Rs h) h (n * W)) (hk : ∀ b q y, b < n → q < W → y < h → sg (Rs.getD b []) W (q : Int) y = sg (hcat Rs h) (n * W) (if turn = true then m - ((W * b + q : Nat) : Int) else ((W * b + q : Nat) : Int) + m) (if flip = true then h - 1 - y else y)) : Kp (hcat Rs h) h (n * W) flip turn m := by
  rw [kp_nat o]
  intro y hy x hx
  have wp : 0 < W := by
    have := o.wp
    apply Classical.byContradiction
    intro z
    have z : W = 0 := by omega
    rw [z] at this
    omega
  have e : x = W * (x / W) + x % W := (Nat.div_add_mod x W).symm
  have hq : x % W < W := Nat.mod_lt _ wp
  have hb : x / W < n := Nat.div_lt_of_lt_mul (by rw [Nat.mul_comm]; exact hx)
  have q := hk (x / W) (x % W) y hb hq hy
  rw [← sg_hcat ha hn hb hq hy 0 ((W * (x / W) + x % W : Nat) : Int) (by simp), ← e] at q
  exact q
end
end Dd.Ma
namespace Dd.Ma
open PySem L2 K1
section
variable {R : List (List Nat)} {h W : Nat}
def HasK (R : List (List Nat)) (h W : Nat) : Nat → Prop
  | 0 => True
  | 1 => Has R h W true false
  | 2 => Has R h W false true
  | 3 => Has R h W true true
  | 4 => Has R h W false true ∧ Has R h W true true ∧ Has R h W true false
  | 5 => Kp R h W true false 0
  | _ => Kp R h W true false 0 ∧ Has R h W false true
theorem sgR {x1 x2 : Int} {y1 y2 : Nat} (c : Int) (hx : x1 - x2 = (W : Int) * c) (hy : y1 = y2) : sg R W x1 y1 = sg R W x2 y2 := by
  subst hy
  exact sg_dvd ⟨c, hx⟩
theorem two_ok {A : List (List Nat)} (o : Ok R h W) (oA : Ok A h W) : ∀ B ∈ [R, A], Ok B h W := fun B hB => by
  rcases List.mem_cons.mp hB with rfl | hB
  · exact o
  · rw [List.mem_singleton.mp hB]; exact oA
theorem b2 {b : Nat} (h : b < 2) : b = 0 ∨ b = 1 := by omega
theorem b4 {b : Nat} (h : b < 4) : b = 0 ∨ b = 1 ∨ b = 2 ∨ b = 3 := by omega
theorem made_1 (s : St R h W) : Kp (hcat [R, ud R h W] h) h (2 * W) true false W := by
  have ha := two_ok s.o s.ud.o
  refine kp_blocks ha rfl (made_ok s 1) fun b q y hb hq hy => ?_
  have hy' : h - 1 - y < h := by omega
  simp only [Bool.false_eq_true, if_false, if_true]
  rcases b2 hb with rfl | rfl
  · refine Eq.trans ?_ (sg_hcat ha (n := 2) (b := 1) (q := q) rfl (by decide) hq hy' 0 _ (by simp; omega)).symm
    show sg R W _ _ = sg (ud R h W) W _ _
    rw [sg_ud s hy']
    exact sgR 0 (by simp) (by omega)
  · refine Eq.trans ?_ (sg_hcat ha (n := 2) (b := 0) (q := q) rfl (by decide) hq hy' 1 _ (by simp; omega)).symm
    show sg (ud R h W) W _ _ = sg R W _ _
    rw [sg_ud s hy]
theorem made_2 (s : St R h W) : Kp (hcat [R, lr R h W] h) h (2 * W) false true (2 * W - 1) := by
  have ha := two_ok s.o s.lr.o
  refine kp_blocks ha rfl (made_ok s 2) fun b q y hb hq hy => ?_
  simp only [Bool.false_eq_true, if_false, if_true]
  rcases b2 hb with rfl | rfl
  · refine Eq.trans ?_ (sg_hcat ha (n := 2) (b := 1) (q := W - 1 - q) rfl (by decide) (by omega) hy 0 _ (by simp; omega)).symm
    show sg R W _ _ = sg (lr R h W) W _ _
    rw [sg_lr s hy]
    exact sgR 1 (by omega) rfl
  · refine Eq.trans ?_ (sg_hcat ha (n := 2) (b := 0) (q := W - 1 - q) rfl (by decide) (by omega) hy 0 _ (by simp; omega)).symm
    show sg (lr R h W) W _ _ = sg R W _ _
    rw [sg_lr s hy]
    exact sgR (-1) (by omega) rfl
theorem made_3 (s : St R h W) : Kp (hcat [R, tr R h W] h) h (2 * W) true true (2 * W - 1) := by
  have ha := two_ok s.o s.tr.o
  refine kp_blocks ha rfl (made_ok s 3) fun b q y hb hq hy => ?_
  have hy' : h - 1 - y < h := by omega
  simp only [if_true]
  rcases b2 hb with rfl | rfl
  · refine Eq.trans ?_ (sg_hcat ha (n := 2) (b := 1) (q := W - 1 - q) rfl (by decide) (by omega) hy' 0 _ (by simp; omega)).symm
    show sg R W _ _ = sg (tr R h W) W _ _
    rw [sg_tr s hy']
    exact sgR 1 (by omega) (by omega)
  · refine Eq.trans ?_ (sg_hcat ha (n := 2) (b := 0) (q := W - 1 - q) rfl (by decide) (by omega) hy' 0 _ (by simp; omega)).symm
    show sg (tr R h W) W _ _ = sg R W _ _
    rw [sg_tr s hy]
    exact sgR (-1) (by omega) rfl
theorem four_ok (s : St R h W) : ∀ B ∈ [R, lr R h W, ud R h W, tr R h W], Ok B h W := fun B hB => by
  simp only [List.mem_cons, List.mem_nil_iff, or_false] at hB
  rcases hB with rfl | rfl | rfl | rfl
  · exact s.o
  · exact s.lr.o
  · exact s.ud.o
  · exact s.tr.o
theorem made_4a (s : St R h W) : Kp (hcat [R, lr R h W, ud R h W, tr R h W] h) h (4 * W) false true (2 * W - 1) := by
  have ha := four_ok s
  refine kp_blocks ha rfl (made_ok s 4) fun b q y hb hq hy => ?_
  simp only [Bool.false_eq_true, if_false, if_true]
  rcases b4 hb with rfl | rfl | rfl | rfl
  · refine Eq.trans ?_ (sg_hcat ha (n := 4) (b := 1) (q := W - 1 - q) rfl (by decide) (by omega) hy 0 _ (by simp; omega)).symm
    show sg R W _ _ = sg (lr R h W) W _ _
    rw [sg_lr s hy]
    exact sgR 1 (by omega) rfl
  · refine Eq.trans ?_ (sg_hcat ha (n := 4) (b := 0) (q := W - 1 - q) rfl (by decide) (by omega) hy 0 _ (by simp; omega)).symm
    show sg (lr R h W) W _ _ = sg R W _ _
    rw [sg_lr s hy]
    exact sgR (-1) (by omega) rfl
  · refine Eq.trans ?_ (sg_hcat ha (n := 4) (b := 3) (q := W - 1 - q) rfl (by decide) (by omega) hy (-1) _ (by simp; omega)).symm
    show sg (ud R h W) W _ _ = sg (tr R h W) W _ _
    rw [sg_ud s hy, sg_tr s hy]
    exact sgR 1 (by omega) rfl
  · refine Eq.trans ?_ (sg_hcat ha (n := 4) (b := 2) (q := W - 1 - q) rfl (by decide) (by omega) hy (-1) _ (by simp; omega)).symm
    show sg (tr R h W) W _ _ = sg (ud R h W) W _ _
    rw [sg_ud s hy, sg_tr s hy]
    exact sgR (-1) (by omega) rfl
theorem made_4b (s : St R h W) : Kp (hcat [R, lr R h W, ud R h W, tr R h W] h) h (4 * W) true true (4 * W - 1) := by
  have ha := four_ok s
  refine kp_blocks ha rfl (made_ok s 4) fun b q y hb hq hy => ?_
  have hy' : h - 1 - y < h := by omega
  simp only [if_true]
  rcases b4 hb with rfl | rfl | rfl | rfl
  · refine Eq.trans ?_ (sg_hcat ha (n := 4) (b := 3) (q := W - 1 - q) rfl (by decide) (by omega) hy' 0 _ (by simp; omega)).symm
    show sg R W _ _ = sg (tr R h W) W _ _
    rw [sg_tr s hy']
    exact sgR 1 (by omega) (by omega)
  · refine Eq.trans ?_ (sg_hcat ha (n := 4) (b := 2) (q := W - 1 - q) rfl (by decide) (by omega) hy' 0 _ (by simp; omega)).symm
    show sg (lr R h W) W _ _ = sg (ud R h W) W _ _
    rw [sg_lr s hy, sg_ud s hy']
    exact sgR (-1) (by omega) (by omega)
  · refine Eq.trans ?_ (sg_hcat ha (n := 4) (b := 1) (q := W - 1 - q) rfl (by decide) (by omega) hy' 0 _ (by simp; omega)).symm
    show sg (ud R h W) W _ _ = sg (lr R h W) W _ _
    rw [sg_lr s hy', sg_ud s hy]
    exact sgR 1 (by omega) rfl
  · refine Eq.trans ?_ (sg_hcat ha (n := 4) (b := 0) (q := W - 1 - q) rfl (by decide) (by omega) hy' 0 _ (by simp; omega)).symm
    show sg (tr R h W) W _ _ = sg R W _ _
    rw [sg_tr s hy]
    exact sgR (-1) (by omega) rfl
theorem made_4c (s : St R h W) : Kp (hcat [R, lr R h W, ud R h W, tr R h W] h) h (4 * W) true false (2 * W) := by
  have ha := four_ok s
  refine kp_blocks ha rfl (made_ok s 4) fun b q y hb hq hy => ?_
  have hy' : h - 1 - y < h := by omega
  simp only [Bool.false_eq_true, if_false, if_true]
  rcases b4 hb with rfl | rfl | rfl | rfl
  · refine Eq.trans ?_ (sg_hcat ha (n := 4) (b := 2) (q := q) rfl (by decide) (by omega) hy' 0 _ (by simp; omega)).symm
    show sg R W _ _ = sg (ud R h W) W _ _
    rw [sg_ud s hy']
    exact sgR 0 (by omega) (by omega)
  · refine Eq.trans ?_ (sg_hcat ha (n := 4) (b := 3) (q := q) rfl (by decide) (by omega) hy' 0 _ (by simp; omega)).symm
    show sg (lr R h W) W _ _ = sg (tr R h W) W _ _
    rw [sg_lr s hy, sg_tr s hy']
    exact sgR 0 (by omega) (by omega)
  · refine Eq.trans ?_ (sg_hcat ha (n := 4) (b := 0) (q := q) rfl (by decide) (by omega) hy' 1 _ (by simp; omega)).symm
    show sg (ud R h W) W _ _ = sg R W _ _
    rw [sg_ud s hy]
  · refine Eq.trans ?_ (sg_hcat ha (n := 4) (b := 1) (q := q) rfl (by decide) (by omega) hy' 1 _ (by simp; omega)).symm
    show sg (tr R h W) W _ _ = sg (lr R h W) W _ _
    rw [sg_lr s hy', sg_tr s hy]
theorem sg_app1 {A B : List (List Nat)} {w : Nat} {x : Int} {y : Nat} (hy : y < A.length) : sg (A ++ B) w x y = sg A w x y := by
  unfold sg
  rw [List.getElem?_append_left hy]
theorem sg_app2 {A B : List (List Nat)} {w : Nat} {x : Int} {y : Nat} (hy : A.length ≤ y) : sg (A ++ B) w x y = sg B w x (y - A.length) := by
  unfold sg
  rw [List.getElem?_append_right hy]
theorem sg_revl {A : List (List Nat)} {w : Nat} {x : Int} {y : Nat} (hy : y < A.length) : sg A.reverse w x y = sg A w x (A.length - 1 - y) := by
  unfold sg
  rw [List.getElem?_reverse hy]
theorem lev_app {A : List (List Nat)} {w : Nat} (hA : A.length = h) : Kp (A ++ A.reverse) (2 * h) w true false 0 := fun y hy x => by
  simp only [Bool.false_eq_true, if_false, if_true, Int.add_zero]
  by_cases c : y < h
  · rw [sg_app1 (by omega), sg_app2 (by omega), sg_revl (by omega)]
    congr 1
    omega
  · rw [sg_app2 (by omega), sg_app1 (by omega), sg_revl (by omega)]
    congr 1
    omega
theorem upr_app {A : List (List Nat)} {w : Nat} {m : Int} (hA : A.length = h) (k : Kp A h w false true m) : Kp (A ++ A.reverse) (2 * h) w false true m := fun y hy x => by
  have key : ∀ y, y < h → ∀ x : Int, sg A w x y = sg A w (m - x) y := fun y hy x => by simpa using k y hy x
  simp only [Bool.false_eq_true, if_false, if_true]
  by_cases c : y < h
  · rw [sg_app1 (by omega), sg_app1 (by omega), key y c]
  · rw [sg_app2 (by omega), sg_app2 (by omega), sg_revl (by omega), sg_revl (by omega), key _ (by omega)]
theorem made_has (s : St R h W) : ∀ k, k < 7 → HasK (madeR R h W k) (mh h k) (mw W k) k
  | 0, _ => trivial
  | 1, _ => ⟨_, made_1 s⟩
  | 2, _ => ⟨_, made_2 s⟩
  | 3, _ => ⟨_, made_3 s⟩
  | 4, _ => ⟨⟨_, made_4a s⟩, ⟨_, made_4b s⟩, ⟨_, made_4c s⟩⟩
  | 5, _ => lev_app s.o.len
  | 6, _ => ⟨lev_app (made_ok s 2).len, ⟨_, upr_app (made_ok s 2).len (made_2 s)⟩⟩
  | k + 7, h => by omega
end
end Dd.Ma
namespace Dd.Ma
open PySem L2 K1
theorem isObj_sD (R : List (List Nat)) : isObj? 0 (sD R) = some () := by unfold sD; simp
theorem fld_sD (R : List (List Nat)) : fldD 0 0 (sD R) = some (.tup (rows R)) := by unfold sD; simp
theorem rows_app (A B : List (List Nat)) : rows A ++ rows B = rows (A ++ B) := by unfold rows; rw [List.map_append]
theorem add_tup (A B : List (List Nat)) (hl : A.length + B.length ≤ 10000) : dAdd (.tup (rows A)) (.tup (rows B)) = some (.tup (rows (A ++ B))) := by
  show (if (rows A).length + (rows B).length ≤ 16777216 then some (D.tup (rows A ++ rows B)) else none) = _
  rw [if_pos (by rw [rows_len, rows_len]; omega), rows_app]
theorem add_lst (A B : List (List Nat)) (hl : A.length + B.length ≤ 16777216) : dAdd (.lst (rows A)) (.lst (rows B)) = some (.lst (rows (A ++ B))) := by
  show (if (rows A).length + (rows B).length ≤ 16777216 then some (D.lst (rows A ++ rows B)) else none) = _
  rw [if_pos (by rw [rows_len, rows_len]; omega), rows_app]
section
variable {R : List (List Nat)} {h W : Nat}
theorem made_st (s : St R h W) (h4 : h ≤ 4) (w6 : W ≤ 6) (k : Nat) : St (madeR R h W k) (mh h k) (mw W k) := by
  refine ⟨made_ok s k, ?_, ?_⟩
  · unfold mh; split <;> omega
  · unfold mw; split <;> omega
theorem wds_of {Rs : List (List (List Nat))} (hn : Rs ≠ []) (ha : ∀ A ∈ Rs, Ok A h W) : wds Rs h := ⟨hn, fun A hA => ⟨(ha A hA).len, (ha A hA).hp⟩⟩
theorem len_of {Rs : List (List (List Nat))} (ha : ∀ A ∈ Rs, Ok A h W) (hl : Rs.length * W ≤ 10000) : ∀ y, y < h → (Rs.map fun R => (R[y]?).getD []).flatten.length ≤ 16777216 := fun y hy => by
  rw [flat_len _ (rows_wd ha hy), List.length_map]
  omega
theorem bes2 {A : List (List Nat)} (s : St R h W) (w6 : W ≤ 6) (oA : Ok A h W) : Fn_beside [.lst [sD R, sD A]] = M.pure (sD (hcat [R, A] h)) ∧ Fn_law_beside [.lst [.lst (rows R), .lst (rows A)]] = M.pure (.lst (rows (hcat [R, A] h))) ∧ St (hcat [R, A] h) h (2 * W) := by
  have ha := two_ok s.o oA
  have so : St (hcat [R, A] h) h (2 * W) := ⟨hcat_ok ha s.o.hp s.o.wp (by simp), s.h8, by omega⟩
  have hl := len_of ha (by show 2 * W ≤ 10000; omega)
  have h8 := s.h8
  exact ⟨f_beside (wds_of (by simp) ha) so hl, f_law_beside (wds_of (by simp) ha) (by omega) hl, so⟩
theorem bes1 (s : St R h W) : Fn_law_beside [.lst [.lst (rows R)]] = M.pure (.lst (rows (hcat [R] h))) := by
  have ha : ∀ B ∈ [R], Ok B h W := fun B hB => by rw [List.mem_singleton.mp hB]; exact s.o
  have w24 := s.w24
  have h8 := s.h8
  exact f_law_beside (wds_of (by simp) ha) (by omega) (len_of ha (by show 1 * W ≤ 10000; omega))
theorem bes4 (s : St R h W) (w6 : W ≤ 6) : Fn_beside [.lst [sD R, sD (lr R h W), sD (ud R h W), sD (tr R h W)]] = M.pure (sD (hcat [R, lr R h W, ud R h W, tr R h W] h)) ∧ Fn_law_beside [.lst [.lst (rows R), .lst (rows (lr R h W)), .lst (rows (ud R h W)), .lst (rows (tr R h W))]] = M.pure (.lst (rows (hcat [R, lr R h W, ud R h W, tr R h W] h))) := by
  have ha := four_ok s
  have so : St (hcat [R, lr R h W, ud R h W, tr R h W] h) h (4 * W) := ⟨hcat_ok (Rs := [R, lr R h W, ud R h W, tr R h W]) ha s.o.hp s.o.wp (by simp), s.h8, by omega⟩
  have hl := len_of (Rs := [R, lr R h W, ud R h W, tr R h W]) ha (by show 4 * W ≤ 10000; omega)
  have h8 := s.h8
  exact ⟨f_beside (wds_of (by simp) ha) so hl, f_law_beside (wds_of (by simp) ha) (by omega) hl⟩
theorem f_made_0 (s : St R h W) (h4 : h ≤ 4) (w6 : W ≤ 6) : Fn_made [.lst (rows R), .str "hop"] = M.pure (sD (madeR R h W 0)) := by
  have ni : dNotIn (.str "hop") G_KINDS_OF_STRIPS = some (.bl false) := rfl
  have e1 : dEq (.str "hop") (.str "step") = some (.bl false) := rfl
  have e2 : dEq (.str "hop") (.str "sidle") = some (.bl false) := rfl
  have e3 : dEq (.str "hop") (.str "spinning hop") = some (.bl false) := rfl
  have e4 : dEq (.str "hop") (.str "spinning sidle") = some (.bl false) := rfl
  have e5 : dEq (.str "hop") (.str "jump") = some (.bl false) := rfl
  have e6 : dEq (.str "hop") (.str "spinning jump") = some (.bl false) := rfl
  have fi := s.init (.lst (rows R)) (.inl rfl)
  have f1 := f_ud s
  have f2 := f_lr s
  have f3 := f_tr s
  have fb := hcat_one s.o
  simp -implicitDefEqProofs [Fn_made, F_made, eVar_def, ni, e1, e2, e3, e4, e5, e6, fi, isObj_sD, fld_sD, f1, f2, f3, fb, madeR]
theorem f_made_1 (s : St R h W) (h4 : h ≤ 4) (w6 : W ≤ 6) : Fn_made [.lst (rows R), .str "step"] = M.pure (sD (madeR R h W 1)) := by
  have ni : dNotIn (.str "step") G_KINDS_OF_STRIPS = some (.bl false) := rfl
  have e1 : dEq (.str "step") (.str "step") = some (.bl true) := rfl
  have e2 : dEq (.str "step") (.str "sidle") = some (.bl false) := rfl
  have e3 : dEq (.str "step") (.str "spinning hop") = some (.bl false) := rfl
  have e4 : dEq (.str "step") (.str "spinning sidle") = some (.bl false) := rfl
  have e5 : dEq (.str "step") (.str "jump") = some (.bl false) := rfl
  have e6 : dEq (.str "step") (.str "spinning jump") = some (.bl false) := rfl
  have fi := s.init (.lst (rows R)) (.inl rfl)
  have f1 := f_ud s
  have f2 := f_lr s
  have f3 := f_tr s
  have fb := (bes2 s w6 s.ud.o).1
  simp -implicitDefEqProofs [Fn_made, F_made, eVar_def, ni, e1, e2, e3, e4, e5, e6, fi, isObj_sD, fld_sD, f1, f2, f3, fb, madeR]
theorem f_made_2 (s : St R h W) (h4 : h ≤ 4) (w6 : W ≤ 6) : Fn_made [.lst (rows R), .str "sidle"] = M.pure (sD (madeR R h W 2)) := by
  have ni : dNotIn (.str "sidle") G_KINDS_OF_STRIPS = some (.bl false) := rfl
  have e1 : dEq (.str "sidle") (.str "step") = some (.bl false) := rfl
  have e2 : dEq (.str "sidle") (.str "sidle") = some (.bl true) := rfl
  have e3 : dEq (.str "sidle") (.str "spinning hop") = some (.bl false) := rfl
  have e4 : dEq (.str "sidle") (.str "spinning sidle") = some (.bl false) := rfl
  have e5 : dEq (.str "sidle") (.str "jump") = some (.bl false) := rfl
  have e6 : dEq (.str "sidle") (.str "spinning jump") = some (.bl false) := rfl
  have fi := s.init (.lst (rows R)) (.inl rfl)
  have f1 := f_ud s
  have f2 := f_lr s
  have f3 := f_tr s
  have fb := (bes2 s w6 s.lr.o).1
  simp -implicitDefEqProofs [Fn_made, F_made, eVar_def, ni, e1, e2, e3, e4, e5, e6, fi, isObj_sD, fld_sD, f1, f2, f3, fb, madeR]
theorem f_made_3 (s : St R h W) (h4 : h ≤ 4) (w6 : W ≤ 6) : Fn_made [.lst (rows R), .str "spinning hop"] = M.pure (sD (madeR R h W 3)) := by
  have ni : dNotIn (.str "spinning hop") G_KINDS_OF_STRIPS = some (.bl false) := rfl
  have e1 : dEq (.str "spinning hop") (.str "step") = some (.bl false) := rfl
  have e2 : dEq (.str "spinning hop") (.str "sidle") = some (.bl false) := rfl
  have e3 : dEq (.str "spinning hop") (.str "spinning hop") = some (.bl true) := rfl
  have e4 : dEq (.str "spinning hop") (.str "spinning sidle") = some (.bl false) := rfl
  have e5 : dEq (.str "spinning hop") (.str "jump") = some (.bl false) := rfl
  have e6 : dEq (.str "spinning hop") (.str "spinning jump") = some (.bl false) := rfl
  have fi := s.init (.lst (rows R)) (.inl rfl)
  have f1 := f_ud s
  have f2 := f_lr s
  have f3 := f_tr s
  have fb := (bes2 s w6 s.tr.o).1
  simp -implicitDefEqProofs [Fn_made, F_made, eVar_def, ni, e1, e2, e3, e4, e5, e6, fi, isObj_sD, fld_sD, f1, f2, f3, fb, madeR]
theorem f_made_4 (s : St R h W) (h4 : h ≤ 4) (w6 : W ≤ 6) : Fn_made [.lst (rows R), .str "spinning sidle"] = M.pure (sD (madeR R h W 4)) := by
  have ni : dNotIn (.str "spinning sidle") G_KINDS_OF_STRIPS = some (.bl false) := rfl
  have e1 : dEq (.str "spinning sidle") (.str "step") = some (.bl false) := rfl
  have e2 : dEq (.str "spinning sidle") (.str "sidle") = some (.bl false) := rfl
  have e3 : dEq (.str "spinning sidle") (.str "spinning hop") = some (.bl false) := rfl
  have e4 : dEq (.str "spinning sidle") (.str "spinning sidle") = some (.bl true) := rfl
  have e5 : dEq (.str "spinning sidle") (.str "jump") = some (.bl false) := rfl
  have e6 : dEq (.str "spinning sidle") (.str "spinning jump") = some (.bl false) := rfl
  have fi := s.init (.lst (rows R)) (.inl rfl)
  have f1 := f_ud s
  have f2 := f_lr s
  have f3 := f_tr s
  have fb := (bes4 s w6).1
  simp -implicitDefEqProofs [Fn_made, F_made, eVar_def, ni, e1, e2, e3, e4, e5, e6, fi, isObj_sD, fld_sD, f1, f2, f3, fb, madeR]
theorem f_made_5 (s : St R h W) (h4 : h ≤ 4) (w6 : W ≤ 6) : Fn_made [.lst (rows R), .str "jump"] = M.pure (sD (madeR R h W 5)) := by
  have ni : dNotIn (.str "jump") G_KINDS_OF_STRIPS = some (.bl false) := rfl
  have e1 : dEq (.str "jump") (.str "step") = some (.bl false) := rfl
  have e2 : dEq (.str "jump") (.str "sidle") = some (.bl false) := rfl
  have e3 : dEq (.str "jump") (.str "spinning hop") = some (.bl false) := rfl
  have e4 : dEq (.str "jump") (.str "spinning sidle") = some (.bl false) := rfl
  have e5 : dEq (.str "jump") (.str "jump") = some (.bl true) := rfl
  have e6 : dEq (.str "jump") (.str "spinning jump") = some (.bl false) := rfl
  have fi := s.init (.lst (rows R)) (.inl rfl)
  have f1 := f_ud s
  have f2 := f_lr s
  have f3 := f_tr s
  have fb := (made_st s h4 w6 5).init (.tup (rows (madeR R h W 5))) (.inr rfl)
  have ad := add_tup R (ud R h W) (by rw [s.o.len, s.ud.o.len]; omega)
  rw [← ud_list s] at ad
  rw [← ud_list s] at f1
  have fb : Fn_Strip_init [.tup (rows (R ++ R.reverse))] = M.pure (sD (R ++ R.reverse)) := fb
  simp -implicitDefEqProofs [Fn_made, F_made, eVar_def, ni, e1, e2, e3, e4, e5, e6, fi, isObj_sD, fld_sD, f1, f2, f3, fb, ad, madeR]
theorem f_made_6 (s : St R h W) (h4 : h ≤ 4) (w6 : W ≤ 6) : Fn_made [.lst (rows R), .str "spinning jump"] = M.pure (sD (madeR R h W 6)) := by
  have ni : dNotIn (.str "spinning jump") G_KINDS_OF_STRIPS = some (.bl false) := rfl
  have e1 : dEq (.str "spinning jump") (.str "step") = some (.bl false) := rfl
  have e2 : dEq (.str "spinning jump") (.str "sidle") = some (.bl false) := rfl
  have e3 : dEq (.str "spinning jump") (.str "spinning hop") = some (.bl false) := rfl
  have e4 : dEq (.str "spinning jump") (.str "spinning sidle") = some (.bl false) := rfl
  have e5 : dEq (.str "spinning jump") (.str "jump") = some (.bl false) := rfl
  have e6 : dEq (.str "spinning jump") (.str "spinning jump") = some (.bl true) := rfl
  have fi := s.init (.lst (rows R)) (.inl rfl)
  have f1 := f_ud s
  have f2 := f_lr s
  have f3 := f_tr s
  obtain ⟨fb, _, s2⟩ := bes2 s w6 s.lr.o
  have f4 := f_ud s2
  have fc := (made_st s h4 w6 6).init (.tup (rows (madeR R h W 6))) (.inr rfl)
  have ad := add_tup (hcat [R, lr R h W] h) (ud (hcat [R, lr R h W] h) h (2 * W)) (by rw [s2.o.len, s2.ud.o.len]; omega)
  rw [← ud_list s2] at ad f4
  have fc : Fn_Strip_init [.tup (rows (hcat [R, lr R h W] h ++ (hcat [R, lr R h W] h).reverse))] = M.pure (sD (hcat [R, lr R h W] h ++ (hcat [R, lr R h W] h).reverse)) := fc
  simp -implicitDefEqProofs [Fn_made, F_made, eVar_def, ni, e1, e2, e3, e4, e5, e6, fi, isObj_sD, fld_sD, f1, f2, f3, fb, ad, f4, fc, madeR]
theorem f_lmade_0 (s : St R h W) (h4 : h ≤ 4) (w6 : W ≤ 6) : Fn_law_made [.lst (rows R), .str "hop"] = M.pure (.lst (rows (madeR R h W 0))) := by
  have ej : dEq (.str "hop") (.str "jump") = some (.bl false) := rfl
  have nd : ([Sum.inr "hop", Sum.inr "step", Sum.inr "sidle", Sum.inr "spinning hop", Sum.inr "spinning sidle"] : List Key).Nodup := by decide +kernel
  have kk0 : keyOf (.str "hop") = some (.inr "hop") := rfl
  have kk1 : keyOf (.str "step") = some (.inr "step") := rfl
  have kk2 : keyOf (.str "sidle") = some (.inr "sidle") := rfl
  have kk3 : keyOf (.str "spinning hop") = some (.inr "spinning hop") := rfl
  have kk4 : keyOf (.str "spinning sidle") = some (.inr "spinning sidle") := rfl
  have kn : keyOf (.str "hop") = some (.inr "hop") := rfl
  have gk : ∀ a b c d e : D, getK [Sum.inr "hop", Sum.inr "step", Sum.inr "sidle", Sum.inr "spinning hop", Sum.inr "spinning sidle"] [a, b, c, d, e] (.inr "hop") = some a := fun _ _ _ _ _ => rfl
  have l1 : ∀ Γ : Env, (∀ r, (Γ.set 7 (.v (rD r)))[7]? = some (.v (rD r))) → ∀ Q, lcF (tName 7) bYes (eRev (eVar 7)) Γ (rows Q) = M.pure (rows (Q.map List.reverse)) := fun Γ hi Q => lc_flip hi Q
  have t1 := lr_list s
  have t2 := ud_list s
  have t3 := lr_list s.ud
  rw [← tr_eq s] at t3
  have fb := bes1 s
  simp -implicitDefEqProofs [Fn_law_made, F_law_made, eVar_def, seqOf, wipeG, l1, rows_rev, dRev, t1, t2, t3, kk0, kk1, kk2, kk3, kk4, nd, dInD, dGetD, kn, gk, ej, fb, madeR]
theorem f_lmade_1 (s : St R h W) (h4 : h ≤ 4) (w6 : W ≤ 6) : Fn_law_made [.lst (rows R), .str "step"] = M.pure (.lst (rows (madeR R h W 1))) := by
  have ej : dEq (.str "step") (.str "jump") = some (.bl false) := rfl
  have nd : ([Sum.inr "hop", Sum.inr "step", Sum.inr "sidle", Sum.inr "spinning hop", Sum.inr "spinning sidle"] : List Key).Nodup := by decide +kernel
  have kk0 : keyOf (.str "hop") = some (.inr "hop") := rfl
  have kk1 : keyOf (.str "step") = some (.inr "step") := rfl
  have kk2 : keyOf (.str "sidle") = some (.inr "sidle") := rfl
  have kk3 : keyOf (.str "spinning hop") = some (.inr "spinning hop") := rfl
  have kk4 : keyOf (.str "spinning sidle") = some (.inr "spinning sidle") := rfl
  have kn : keyOf (.str "step") = some (.inr "step") := rfl
  have gk : ∀ a b c d e : D, getK [Sum.inr "hop", Sum.inr "step", Sum.inr "sidle", Sum.inr "spinning hop", Sum.inr "spinning sidle"] [a, b, c, d, e] (.inr "step") = some b := fun _ _ _ _ _ => rfl
  have l1 : ∀ Γ : Env, (∀ r, (Γ.set 7 (.v (rD r)))[7]? = some (.v (rD r))) → ∀ Q, lcF (tName 7) bYes (eRev (eVar 7)) Γ (rows Q) = M.pure (rows (Q.map List.reverse)) := fun Γ hi Q => lc_flip hi Q
  have t1 := lr_list s
  have t2 := ud_list s
  have t3 := lr_list s.ud
  rw [← tr_eq s] at t3
  have fb := (bes2 s w6 s.ud.o).2.1
  simp -implicitDefEqProofs [Fn_law_made, F_law_made, eVar_def, seqOf, wipeG, l1, rows_rev, dRev, t1, t2, t3, kk0, kk1, kk2, kk3, kk4, nd, dInD, dGetD, kn, gk, ej, fb, madeR]
theorem f_lmade_2 (s : St R h W) (h4 : h ≤ 4) (w6 : W ≤ 6) : Fn_law_made [.lst (rows R), .str "sidle"] = M.pure (.lst (rows (madeR R h W 2))) := by
  have ej : dEq (.str "sidle") (.str "jump") = some (.bl false) := rfl
  have nd : ([Sum.inr "hop", Sum.inr "step", Sum.inr "sidle", Sum.inr "spinning hop", Sum.inr "spinning sidle"] : List Key).Nodup := by decide +kernel
  have kk0 : keyOf (.str "hop") = some (.inr "hop") := rfl
  have kk1 : keyOf (.str "step") = some (.inr "step") := rfl
  have kk2 : keyOf (.str "sidle") = some (.inr "sidle") := rfl
  have kk3 : keyOf (.str "spinning hop") = some (.inr "spinning hop") := rfl
  have kk4 : keyOf (.str "spinning sidle") = some (.inr "spinning sidle") := rfl
  have kn : keyOf (.str "sidle") = some (.inr "sidle") := rfl
  have gk : ∀ a b c d e : D, getK [Sum.inr "hop", Sum.inr "step", Sum.inr "sidle", Sum.inr "spinning hop", Sum.inr "spinning sidle"] [a, b, c, d, e] (.inr "sidle") = some c := fun _ _ _ _ _ => rfl
  have l1 : ∀ Γ : Env, (∀ r, (Γ.set 7 (.v (rD r)))[7]? = some (.v (rD r))) → ∀ Q, lcF (tName 7) bYes (eRev (eVar 7)) Γ (rows Q) = M.pure (rows (Q.map List.reverse)) := fun Γ hi Q => lc_flip hi Q
  have t1 := lr_list s
  have t2 := ud_list s
  have t3 := lr_list s.ud
  rw [← tr_eq s] at t3
  have fb := (bes2 s w6 s.lr.o).2.1
  simp -implicitDefEqProofs [Fn_law_made, F_law_made, eVar_def, seqOf, wipeG, l1, rows_rev, dRev, t1, t2, t3, kk0, kk1, kk2, kk3, kk4, nd, dInD, dGetD, kn, gk, ej, fb, madeR]
theorem f_lmade_3 (s : St R h W) (h4 : h ≤ 4) (w6 : W ≤ 6) : Fn_law_made [.lst (rows R), .str "spinning hop"] = M.pure (.lst (rows (madeR R h W 3))) := by
  have ej : dEq (.str "spinning hop") (.str "jump") = some (.bl false) := rfl
  have nd : ([Sum.inr "hop", Sum.inr "step", Sum.inr "sidle", Sum.inr "spinning hop", Sum.inr "spinning sidle"] : List Key).Nodup := by decide +kernel
  have kk0 : keyOf (.str "hop") = some (.inr "hop") := rfl
  have kk1 : keyOf (.str "step") = some (.inr "step") := rfl
  have kk2 : keyOf (.str "sidle") = some (.inr "sidle") := rfl
  have kk3 : keyOf (.str "spinning hop") = some (.inr "spinning hop") := rfl
  have kk4 : keyOf (.str "spinning sidle") = some (.inr "spinning sidle") := rfl
  have kn : keyOf (.str "spinning hop") = some (.inr "spinning hop") := rfl
  have gk : ∀ a b c d e : D, getK [Sum.inr "hop", Sum.inr "step", Sum.inr "sidle", Sum.inr "spinning hop", Sum.inr "spinning sidle"] [a, b, c, d, e] (.inr "spinning hop") = some d := fun _ _ _ _ _ => rfl
  have l1 : ∀ Γ : Env, (∀ r, (Γ.set 7 (.v (rD r)))[7]? = some (.v (rD r))) → ∀ Q, lcF (tName 7) bYes (eRev (eVar 7)) Γ (rows Q) = M.pure (rows (Q.map List.reverse)) := fun Γ hi Q => lc_flip hi Q
  have t1 := lr_list s
  have t2 := ud_list s
  have t3 := lr_list s.ud
  rw [← tr_eq s] at t3
  have fb := (bes2 s w6 s.tr.o).2.1
  simp -implicitDefEqProofs [Fn_law_made, F_law_made, eVar_def, seqOf, wipeG, l1, rows_rev, dRev, t1, t2, t3, kk0, kk1, kk2, kk3, kk4, nd, dInD, dGetD, kn, gk, ej, fb, madeR]
theorem f_lmade_4 (s : St R h W) (h4 : h ≤ 4) (w6 : W ≤ 6) : Fn_law_made [.lst (rows R), .str "spinning sidle"] = M.pure (.lst (rows (madeR R h W 4))) := by
  have ej : dEq (.str "spinning sidle") (.str "jump") = some (.bl false) := rfl
  have nd : ([Sum.inr "hop", Sum.inr "step", Sum.inr "sidle", Sum.inr "spinning hop", Sum.inr "spinning sidle"] : List Key).Nodup := by decide +kernel
  have kk0 : keyOf (.str "hop") = some (.inr "hop") := rfl
  have kk1 : keyOf (.str "step") = some (.inr "step") := rfl
  have kk2 : keyOf (.str "sidle") = some (.inr "sidle") := rfl
  have kk3 : keyOf (.str "spinning hop") = some (.inr "spinning hop") := rfl
  have kk4 : keyOf (.str "spinning sidle") = some (.inr "spinning sidle") := rfl
  have kn : keyOf (.str "spinning sidle") = some (.inr "spinning sidle") := rfl
  have gk : ∀ a b c d e : D, getK [Sum.inr "hop", Sum.inr "step", Sum.inr "sidle", Sum.inr "spinning hop", Sum.inr "spinning sidle"] [a, b, c, d, e] (.inr "spinning sidle") = some e := fun _ _ _ _ _ => rfl
  have l1 : ∀ Γ : Env, (∀ r, (Γ.set 7 (.v (rD r)))[7]? = some (.v (rD r))) → ∀ Q, lcF (tName 7) bYes (eRev (eVar 7)) Γ (rows Q) = M.pure (rows (Q.map List.reverse)) := fun Γ hi Q => lc_flip hi Q
  have t1 := lr_list s
  have t2 := ud_list s
  have t3 := lr_list s.ud
  rw [← tr_eq s] at t3
  have fb := (bes4 s w6).2
  simp -implicitDefEqProofs [Fn_law_made, F_law_made, eVar_def, seqOf, wipeG, l1, rows_rev, dRev, t1, t2, t3, kk0, kk1, kk2, kk3, kk4, nd, dInD, dGetD, kn, gk, ej, fb, madeR]
theorem f_lmade_5 (s : St R h W) (h4 : h ≤ 4) (w6 : W ≤ 6) : Fn_law_made [.lst (rows R), .str "jump"] = M.pure (.lst (rows (madeR R h W 5))) := by
  have ej : dEq (.str "jump") (.str "jump") = some (.bl true) := rfl
  have nd : ([Sum.inr "hop", Sum.inr "step", Sum.inr "sidle", Sum.inr "spinning hop", Sum.inr "spinning sidle"] : List Key).Nodup := by decide +kernel
  have kk0 : keyOf (.str "hop") = some (.inr "hop") := rfl
  have kk1 : keyOf (.str "step") = some (.inr "step") := rfl
  have kk2 : keyOf (.str "sidle") = some (.inr "sidle") := rfl
  have kk3 : keyOf (.str "spinning hop") = some (.inr "spinning hop") := rfl
  have kk4 : keyOf (.str "spinning sidle") = some (.inr "spinning sidle") := rfl
  have kn : keyOf (.str "jump") = some (.inr "jump") := rfl
  have gk : ∀ a b c d e : D, getK [Sum.inr "hop", Sum.inr "step", Sum.inr "sidle", Sum.inr "spinning hop", Sum.inr "spinning sidle"] [a, b, c, d, e] (.inr "jump") = none := fun _ _ _ _ _ => rfl
  have l1 : ∀ Γ : Env, (∀ r, (Γ.set 7 (.v (rD r)))[7]? = some (.v (rD r))) → ∀ Q, lcF (tName 7) bYes (eRev (eVar 7)) Γ (rows Q) = M.pure (rows (Q.map List.reverse)) := fun Γ hi Q => lc_flip hi Q
  have t1 := lr_list s
  have t2 := ud_list s
  have t3 := lr_list s.ud
  rw [← tr_eq s] at t3
  have ad := add_lst R (ud R h W) (by rw [s.o.len, s.ud.o.len]; omega)
  have fb := t2
  simp -implicitDefEqProofs [Fn_law_made, F_law_made, eVar_def, seqOf, wipeG, l1, rows_rev, dRev, t1, t2, t3, kk0, kk1, kk2, kk3, kk4, nd, dInD, dGetD, kn, gk, ej, fb, ad, madeR]
theorem f_lmade_6 (s : St R h W) (h4 : h ≤ 4) (w6 : W ≤ 6) : Fn_law_made [.lst (rows R), .str "spinning jump"] = M.pure (.lst (rows (madeR R h W 6))) := by
  have ej : dEq (.str "spinning jump") (.str "jump") = some (.bl false) := rfl
  have nd : ([Sum.inr "hop", Sum.inr "step", Sum.inr "sidle", Sum.inr "spinning hop", Sum.inr "spinning sidle"] : List Key).Nodup := by decide +kernel
  have kk0 : keyOf (.str "hop") = some (.inr "hop") := rfl
  have kk1 : keyOf (.str "step") = some (.inr "step") := rfl
  have kk2 : keyOf (.str "sidle") = some (.inr "sidle") := rfl
  have kk3 : keyOf (.str "spinning hop") = some (.inr "spinning hop") := rfl
  have kk4 : keyOf (.str "spinning sidle") = some (.inr "spinning sidle") := rfl
  have kn : keyOf (.str "spinning jump") = some (.inr "spinning jump") := rfl
  have gk : ∀ a b c d e : D, getK [Sum.inr "hop", Sum.inr "step", Sum.inr "sidle", Sum.inr "spinning hop", Sum.inr "spinning sidle"] [a, b, c, d, e] (.inr "spinning jump") = none := fun _ _ _ _ _ => rfl
  have l1 : ∀ Γ : Env, (∀ r, (Γ.set 7 (.v (rD r)))[7]? = some (.v (rD r))) → ∀ Q, lcF (tName 7) bYes (eRev (eVar 7)) Γ (rows Q) = M.pure (rows (Q.map List.reverse)) := fun Γ hi Q => lc_flip hi Q
  have t1 := lr_list s
  have t2 := ud_list s
  have t3 := lr_list s.ud
  rw [← tr_eq s] at t3
  obtain ⟨_, fb, s2⟩ := bes2 s w6 s.lr.o
  have ad := add_lst (hcat [R, lr R h W] h) (hcat [R, lr R h W] h).reverse (by rw [List.length_reverse, s2.o.len]; omega)
  simp -implicitDefEqProofs [Fn_law_made, F_law_made, eVar_def, seqOf, wipeG, l1, rows_rev, dRev, t1, t2, t3, kk0, kk1, kk2, kk3, kk4, nd, dInD, dGetD, kn, gk, ej, fb, ad, madeR]
end
end Dd.Ma
namespace Dd.Ma
open PySem L2 K1
section
variable {R : List (List Nat)} {h W : Nat}
noncomputable def hB (R : List (List Nat)) (h W : Nat) (flip turn : Bool) : Bool := open Classical in decide (Has R h W flip turn)
theorem hB_iff {flip turn : Bool} : hB R h W flip turn = true ↔ Has R h W flip turn := by unfold hB; simp
noncomputable def hasB (R : List (List Nat)) (h W : Nat) : Nat → Bool
  | 0 => true
  | 1 => hB R h W true false
  | 2 => hB R h W false true
  | 3 => hB R h W true true
  | 4 => hB R h W false true && (hB R h W true true && hB R h W true false)
  | 5 => kp R h W true false 0
  | _ => kp R h W true false 0 && hB R h W false true
theorem hasB_iff : ∀ k, hasB R h W k = true ↔ HasK R h W k
  | 0 => by simp [hasB, HasK]
  | 1 => hB_iff
  | 2 => hB_iff
  | 3 => hB_iff
  | 4 => by simp [hasB, HasK, hB_iff]
  | 5 => kp_iff
  | k + 6 => by simp [hasB, HasK, hB_iff, kp_iff]
theorem not_dec {p q : Prop} [Decidable p] {b : Bool} (hb : b = true ↔ q) (e : p ↔ ¬ q) : (!decide p) = b := by
  cases b <;> simp_all
theorem has_parts (s : St R h W) : ∃ (l1 l2 : List Nat) (x : D), Fn_Strip_mirrors [sD R] = M.pure (.tup (nD l1)) ∧ dNe (.tup (nD l1)) (.tup []) = some (.bl (hB R h W false true)) ∧ Fn_Strip_turns [sD R] = M.pure (.tup (nD l2)) ∧ dNe (.tup (nD l2)) (.tup []) = some (.bl (hB R h W true true)) ∧
    Fn_Strip_slide [sD R] = M.pure x ∧ dIsNot x .non = some (.bl (hB R h W true false)) ∧ Fn_Strip_has_level [sD R] = M.pure (.bl (kp R h W true false 0)) := by
  have n1 := fun l => ne_nDt l []
  rw [nD_nil] at n1
  refine ⟨_, _, _, f_mirrors s, ?_, f_turns s, ?_, f_slide s, ?_, f_level s⟩
  · rw [n1, not_dec hB_iff (has_p s.o)]
  · rw [n1, not_dec hB_iff (has_p s.o)]
  · have c3 := has_ones s.o (flip := true) (turn := false)
    generalize ((ones W).find? fun k => kp R h W true false (k : Nat)) = q at *
    have : (!decide (q = none)) = hB R h W true false := not_dec hB_iff c3
    rw [← this]
    cases q <;> rfl
theorem lc_keeps8 (s : St R h W) (flip turn : Bool) (k a b c d e : Sl) :
    lcF (tName 8) (bOf (eFun 5 Fn_law_keeps (aCons (eVar 0) (aCons (eVar 2) (aCons (eC (.bl flip)) (aCons (eC (.bl turn)) (aCons (eVar 8) (aNil)))))))) (eC (.int 1)) [.v (.lst (rows R)), k, .v (.int (W : Int)), a, b, c, d, e, .no] (intsD 0 W) = M.pure (nD (((List.range W).filter fun m : Nat => kp R h W flip turn m).map fun _ => 1)) := by
  rw [lc_nat (fun m : Nat => kp R h W flip turn m) (fun m => .int ((1 : Nat) : Int)) W fun m hm => ⟨_, rfl, by simp -implicitDefEqProofs [eVar_def, f_law_keeps s], fun _ => rfl⟩]
  unfold nD
  rw [List.map_map]
  rfl
theorem lhas_ne (o : Ok R h W) (flip turn : Bool) : dNe (.lst (nD (((List.range W).filter fun m : Nat => kp R h W flip turn m).map fun _ => 1))) (.lst []) = some (.bl (hB R h W flip turn)) := by
  have n1 := fun l => ne_nD l []
  rw [nD_nil] at n1
  rw [n1, not_dec hB_iff]
  rw [List.map_eq_nil_iff]
  exact has_W o
def T_has : SF := sSeq (sSet 6 (eDisp (kCons (eC (.str "hop")) (eC (.bl true)) (kCons (eC (.str "step")) (eVar 5) (kCons (eC (.str "sidle")) (eVar 2) (kCons (eC (.str "spinning hop")) (eVar 3) (kCons (eC (.str "jump")) (eVar 4) (kCons (eC (.str "spinning sidle")) (eAnd (eVar 2) (eAnd (eVar 3) (eVar 5))) (kCons (eC (.str "spinning jump")) (eAnd (eVar 4) (eVar 2)) (kNil)))))))))) (sRet (eOp dGetD (eVar 6) (eVar 1)))
theorem F_has_eq : F_has_at_least = sSeq (sIf (bOf (eOp dNotIn (eVar 1) (eC G_KINDS_OF_STRIPS))) (sRaise 2) (sNil)) (sSeq (sPar 2 3 (aCons (eOp dNe (eMeth 0 1 Fn_Strip_mirrors (eVar 0) aNil) (eTup (aNil))) (aCons (eOp dNe (eMeth 0 1 Fn_Strip_turns (eVar 0) aNil) (eTup (aNil))) (aNil)))) (sSeq (sPar 4 5 (aCons (eMeth 0 1 Fn_Strip_has_level (eVar 0) aNil) (aCons (eOp dIsNot (eMeth 0 1 Fn_Strip_slide (eVar 0) aNil) (eC .non)) (aNil)))) (T_has))) := rfl
def T_lhas : SF := sSeq (sSet 7 (eDisp (kCons (eC (.str "hop")) (eC (.bl true)) (kCons (eC (.str "step")) (eVar 5) (kCons (eC (.str "sidle")) (eVar 3) (kCons (eC (.str "spinning hop")) (eVar 4) (kCons (eC (.str "jump")) (eVar 6) (kNil)))))))) (sRet (eOp dGetD (eCall dDictP (aCons (eOp dAdd (eListItems (eVar 7)) (eLst (aCons (eTup (aCons (eC (.str "spinning sidle")) (aCons (eAnd (eVar 3) (eAnd (eVar 4) (eVar 5))) (aNil)))) (aCons (eTup (aCons (eC (.str "spinning jump")) (aCons (eAnd (eVar 6) (eVar 3)) (aNil)))) (aNil))))) (aNil))) (eVar 1)))
theorem F_lhas_eq : F_law_has = sSeq (sSet 2 (eCall dLen (aCons (eIx (eVar 0) (eC (.int 0))) (aNil)))) (sSeq (sSet 3 (eOp dNe (eLc (iRng1 (aCons (eVar 2) (aNil))) (tName 8) (bOf (eFun 5 Fn_law_keeps (aCons (eVar 0) (aCons (eVar 2) (aCons (eC (.bl false)) (aCons (eC (.bl true)) (aCons (eVar 8) (aNil)))))))) (eC (.int 1)) [8]) (eLst (aNil)))) (sSeq (sSet 4 (eOp dNe (eLc (iRng1 (aCons (eVar 2) (aNil))) (tName 8) (bOf (eFun 5 Fn_law_keeps (aCons (eVar 0) (aCons (eVar 2) (aCons (eC (.bl true)) (aCons (eC (.bl true)) (aCons (eVar 8) (aNil)))))))) (eC (.int 1)) [8]) (eLst (aNil)))) (sSeq (sSet 5 (eOp dNe (eLc (iRng1 (aCons (eVar 2) (aNil))) (tName 8) (bOf (eFun 5 Fn_law_keeps (aCons (eVar 0) (aCons (eVar 2) (aCons (eC (.bl true)) (aCons (eC (.bl false)) (aCons (eVar 8) (aNil)))))))) (eC (.int 1)) [8]) (eLst (aNil)))) (sSeq (sSet 6 (eFun 5 Fn_law_keeps (aCons (eVar 0) (aCons (eVar 2) (aCons (eC (.bl true)) (aCons (eC (.bl false)) (aCons (eC (.int 0)) (aNil)))))))) (T_lhas))))) := rfl
theorem t_has_0 (d : D) (u v l sl : Bool) : T_has [.v d, .v (.str "hop"), .v (.bl u), .v (.bl v), .v (.bl l), .v (.bl sl), .no] = M.pure (.ret (.bl true)) := by
  cases u <;> cases v <;> cases l <;> cases sl <;> rfl
theorem t_lhas_0 (d e : D) (u v l sl : Bool) : T_lhas [.v d, .v (.str "hop"), .v e, .v (.bl u), .v (.bl v), .v (.bl sl), .v (.bl l), .no, .no] = M.pure (.ret (.bl true)) := by
  cases u <;> cases v <;> cases l <;> cases sl <;> kernel_rfl
theorem f_has_0 (s : St R h W) : Fn_has_at_least [sD R, .str "hop"] = M.pure (.bl (hasB R h W 0)) := by
  have ni : dNotIn (.str "hop") G_KINDS_OF_STRIPS = some (.bl false) := rfl
  obtain ⟨l1, l2, x, m1, n1, m2, n2, m3, n3, m4⟩ := has_parts s
  simp -implicitDefEqProofs [Fn_has_at_least, F_has_eq, eVar_def, ni, isObj_sD, m1, n1, m2, n2, m3, n3, m4, hasB, t_has_0]
theorem f_lhas_0 (s : St R h W) : Fn_law_has [.lst (rows R), .str "hop"] = M.pure (.bl (hasB R h W 0)) := by
  obtain ⟨r0, a0, l0⟩ := len_head s.o
  have w24 := s.w24
  have r2 := rng_nat W (by omega)
  have k1 := fun k a b c d e => lc_keeps8 s false true k a b c d e
  have k2 := fun k a b c d e => lc_keeps8 s true true k a b c d e
  have k3 := fun k a b c d e => lc_keeps8 s true false k a b c d e
  have n1 := lhas_ne s.o false true
  have n2 := lhas_ne s.o true true
  have n3 := lhas_ne s.o true false
  have m4 := f_law_keeps s true false 0
  simp -implicitDefEqProofs [Fn_law_has, F_lhas_eq, eVar_def, a0, l0, r2, wipeG, k1, k2, k3, n1, n2, n3, m4, hasB, t_lhas_0]
theorem t_has_1 (d : D) (u v l sl : Bool) : T_has [.v d, .v (.str "step"), .v (.bl u), .v (.bl v), .v (.bl l), .v (.bl sl), .no] = M.pure (.ret (.bl sl)) := by
  cases u <;> cases v <;> cases l <;> cases sl <;> rfl
theorem t_lhas_1 (d e : D) (u v l sl : Bool) : T_lhas [.v d, .v (.str "step"), .v e, .v (.bl u), .v (.bl v), .v (.bl sl), .v (.bl l), .no, .no] = M.pure (.ret (.bl sl)) := by
  cases u <;> cases v <;> cases l <;> cases sl <;> kernel_rfl
theorem f_has_1 (s : St R h W) : Fn_has_at_least [sD R, .str "step"] = M.pure (.bl (hasB R h W 1)) := by
  have ni : dNotIn (.str "step") G_KINDS_OF_STRIPS = some (.bl false) := rfl
  obtain ⟨l1, l2, x, m1, n1, m2, n2, m3, n3, m4⟩ := has_parts s
  simp -implicitDefEqProofs [Fn_has_at_least, F_has_eq, eVar_def, ni, isObj_sD, m1, n1, m2, n2, m3, n3, m4, hasB, t_has_1]
theorem f_lhas_1 (s : St R h W) : Fn_law_has [.lst (rows R), .str "step"] = M.pure (.bl (hasB R h W 1)) := by
  obtain ⟨r0, a0, l0⟩ := len_head s.o
  have w24 := s.w24
  have r2 := rng_nat W (by omega)
  have k1 := fun k a b c d e => lc_keeps8 s false true k a b c d e
  have k2 := fun k a b c d e => lc_keeps8 s true true k a b c d e
  have k3 := fun k a b c d e => lc_keeps8 s true false k a b c d e
  have n1 := lhas_ne s.o false true
  have n2 := lhas_ne s.o true true
  have n3 := lhas_ne s.o true false
  have m4 := f_law_keeps s true false 0
  simp -implicitDefEqProofs [Fn_law_has, F_lhas_eq, eVar_def, a0, l0, r2, wipeG, k1, k2, k3, n1, n2, n3, m4, hasB, t_lhas_1]
theorem t_has_2 (d : D) (u v l sl : Bool) : T_has [.v d, .v (.str "sidle"), .v (.bl u), .v (.bl v), .v (.bl l), .v (.bl sl), .no] = M.pure (.ret (.bl u)) := by
  cases u <;> cases v <;> cases l <;> cases sl <;> rfl
theorem t_lhas_2 (d e : D) (u v l sl : Bool) : T_lhas [.v d, .v (.str "sidle"), .v e, .v (.bl u), .v (.bl v), .v (.bl sl), .v (.bl l), .no, .no] = M.pure (.ret (.bl u)) := by
  cases u <;> cases v <;> cases l <;> cases sl <;> kernel_rfl
theorem f_has_2 (s : St R h W) : Fn_has_at_least [sD R, .str "sidle"] = M.pure (.bl (hasB R h W 2)) := by
  have ni : dNotIn (.str "sidle") G_KINDS_OF_STRIPS = some (.bl false) := rfl
  obtain ⟨l1, l2, x, m1, n1, m2, n2, m3, n3, m4⟩ := has_parts s
  simp -implicitDefEqProofs [Fn_has_at_least, F_has_eq, eVar_def, ni, isObj_sD, m1, n1, m2, n2, m3, n3, m4, hasB, t_has_2]
theorem f_lhas_2 (s : St R h W) : Fn_law_has [.lst (rows R), .str "sidle"] = M.pure (.bl (hasB R h W 2)) := by
  obtain ⟨r0, a0, l0⟩ := len_head s.o
  have w24 := s.w24
  have r2 := rng_nat W (by omega)
  have k1 := fun k a b c d e => lc_keeps8 s false true k a b c d e
  have k2 := fun k a b c d e => lc_keeps8 s true true k a b c d e
  have k3 := fun k a b c d e => lc_keeps8 s true false k a b c d e
  have n1 := lhas_ne s.o false true
  have n2 := lhas_ne s.o true true
  have n3 := lhas_ne s.o true false
  have m4 := f_law_keeps s true false 0
  simp -implicitDefEqProofs [Fn_law_has, F_lhas_eq, eVar_def, a0, l0, r2, wipeG, k1, k2, k3, n1, n2, n3, m4, hasB, t_lhas_2]
theorem t_has_3 (d : D) (u v l sl : Bool) : T_has [.v d, .v (.str "spinning hop"), .v (.bl u), .v (.bl v), .v (.bl l), .v (.bl sl), .no] = M.pure (.ret (.bl v)) := by
  cases u <;> cases v <;> cases l <;> cases sl <;> rfl
theorem t_lhas_3 (d e : D) (u v l sl : Bool) : T_lhas [.v d, .v (.str "spinning hop"), .v e, .v (.bl u), .v (.bl v), .v (.bl sl), .v (.bl l), .no, .no] = M.pure (.ret (.bl v)) := by
  cases u <;> cases v <;> cases l <;> cases sl <;> kernel_rfl
theorem f_has_3 (s : St R h W) : Fn_has_at_least [sD R, .str "spinning hop"] = M.pure (.bl (hasB R h W 3)) := by
  have ni : dNotIn (.str "spinning hop") G_KINDS_OF_STRIPS = some (.bl false) := rfl
  obtain ⟨l1, l2, x, m1, n1, m2, n2, m3, n3, m4⟩ := has_parts s
  simp -implicitDefEqProofs [Fn_has_at_least, F_has_eq, eVar_def, ni, isObj_sD, m1, n1, m2, n2, m3, n3, m4, hasB, t_has_3]
theorem f_lhas_3 (s : St R h W) : Fn_law_has [.lst (rows R), .str "spinning hop"] = M.pure (.bl (hasB R h W 3)) := by
  obtain ⟨r0, a0, l0⟩ := len_head s.o
  have w24 := s.w24
  have r2 := rng_nat W (by omega)
  have k1 := fun k a b c d e => lc_keeps8 s false true k a b c d e
  have k2 := fun k a b c d e => lc_keeps8 s true true k a b c d e
  have k3 := fun k a b c d e => lc_keeps8 s true false k a b c d e
  have n1 := lhas_ne s.o false true
  have n2 := lhas_ne s.o true true
  have n3 := lhas_ne s.o true false
  have m4 := f_law_keeps s true false 0
  simp -implicitDefEqProofs [Fn_law_has, F_lhas_eq, eVar_def, a0, l0, r2, wipeG, k1, k2, k3, n1, n2, n3, m4, hasB, t_lhas_3]
theorem t_has_4 (d : D) (u v l sl : Bool) : T_has [.v d, .v (.str "spinning sidle"), .v (.bl u), .v (.bl v), .v (.bl l), .v (.bl sl), .no] = M.pure (.ret (.bl (u && (v && sl)))) := by
  cases u <;> cases v <;> cases l <;> cases sl <;> rfl
theorem t_lhas_4 (d e : D) (u v l sl : Bool) : T_lhas [.v d, .v (.str "spinning sidle"), .v e, .v (.bl u), .v (.bl v), .v (.bl sl), .v (.bl l), .no, .no] = M.pure (.ret (.bl (u && (v && sl)))) := by
  cases u <;> cases v <;> cases l <;> cases sl <;> kernel_rfl
theorem f_has_4 (s : St R h W) : Fn_has_at_least [sD R, .str "spinning sidle"] = M.pure (.bl (hasB R h W 4)) := by
  have ni : dNotIn (.str "spinning sidle") G_KINDS_OF_STRIPS = some (.bl false) := rfl
  obtain ⟨l1, l2, x, m1, n1, m2, n2, m3, n3, m4⟩ := has_parts s
  simp -implicitDefEqProofs [Fn_has_at_least, F_has_eq, eVar_def, ni, isObj_sD, m1, n1, m2, n2, m3, n3, m4, hasB, t_has_4]
theorem f_lhas_4 (s : St R h W) : Fn_law_has [.lst (rows R), .str "spinning sidle"] = M.pure (.bl (hasB R h W 4)) := by
  obtain ⟨r0, a0, l0⟩ := len_head s.o
  have w24 := s.w24
  have r2 := rng_nat W (by omega)
  have k1 := fun k a b c d e => lc_keeps8 s false true k a b c d e
  have k2 := fun k a b c d e => lc_keeps8 s true true k a b c d e
  have k3 := fun k a b c d e => lc_keeps8 s true false k a b c d e
  have n1 := lhas_ne s.o false true
  have n2 := lhas_ne s.o true true
  have n3 := lhas_ne s.o true false
  have m4 := f_law_keeps s true false 0
  simp -implicitDefEqProofs [Fn_law_has, F_lhas_eq, eVar_def, a0, l0, r2, wipeG, k1, k2, k3, n1, n2, n3, m4, hasB, t_lhas_4]
theorem t_has_5 (d : D) (u v l sl : Bool) : T_has [.v d, .v (.str "jump"), .v (.bl u), .v (.bl v), .v (.bl l), .v (.bl sl), .no] = M.pure (.ret (.bl l)) := by
  cases u <;> cases v <;> cases l <;> cases sl <;> rfl
theorem t_lhas_5 (d e : D) (u v l sl : Bool) : T_lhas [.v d, .v (.str "jump"), .v e, .v (.bl u), .v (.bl v), .v (.bl sl), .v (.bl l), .no, .no] = M.pure (.ret (.bl l)) := by
  cases u <;> cases v <;> cases l <;> cases sl <;> kernel_rfl
theorem f_has_5 (s : St R h W) : Fn_has_at_least [sD R, .str "jump"] = M.pure (.bl (hasB R h W 5)) := by
  have ni : dNotIn (.str "jump") G_KINDS_OF_STRIPS = some (.bl false) := rfl
  obtain ⟨l1, l2, x, m1, n1, m2, n2, m3, n3, m4⟩ := has_parts s
  simp -implicitDefEqProofs [Fn_has_at_least, F_has_eq, eVar_def, ni, isObj_sD, m1, n1, m2, n2, m3, n3, m4, hasB, t_has_5]
theorem f_lhas_5 (s : St R h W) : Fn_law_has [.lst (rows R), .str "jump"] = M.pure (.bl (hasB R h W 5)) := by
  obtain ⟨r0, a0, l0⟩ := len_head s.o
  have w24 := s.w24
  have r2 := rng_nat W (by omega)
  have k1 := fun k a b c d e => lc_keeps8 s false true k a b c d e
  have k2 := fun k a b c d e => lc_keeps8 s true true k a b c d e
  have k3 := fun k a b c d e => lc_keeps8 s true false k a b c d e
  have n1 := lhas_ne s.o false true
  have n2 := lhas_ne s.o true true
  have n3 := lhas_ne s.o true false
  have m4 := f_law_keeps s true false 0
  simp -implicitDefEqProofs [Fn_law_has, F_lhas_eq, eVar_def, a0, l0, r2, wipeG, k1, k2, k3, n1, n2, n3, m4, hasB, t_lhas_5]
theorem t_has_6 (d : D) (u v l sl : Bool) : T_has [.v d, .v (.str "spinning jump"), .v (.bl u), .v (.bl v), .v (.bl l), .v (.bl sl), .no] = M.pure (.ret (.bl (l && u))) := by
  cases u <;> cases v <;> cases l <;> cases sl <;> rfl
theorem t_lhas_6 (d e : D) (u v l sl : Bool) : T_lhas [.v d, .v (.str "spinning jump"), .v e, .v (.bl u), .v (.bl v), .v (.bl sl), .v (.bl l), .no, .no] = M.pure (.ret (.bl (l && u))) := by
  cases u <;> cases v <;> cases l <;> cases sl <;> kernel_rfl
theorem f_has_6 (s : St R h W) : Fn_has_at_least [sD R, .str "spinning jump"] = M.pure (.bl (hasB R h W 6)) := by
  have ni : dNotIn (.str "spinning jump") G_KINDS_OF_STRIPS = some (.bl false) := rfl
  obtain ⟨l1, l2, x, m1, n1, m2, n2, m3, n3, m4⟩ := has_parts s
  simp -implicitDefEqProofs [Fn_has_at_least, F_has_eq, eVar_def, ni, isObj_sD, m1, n1, m2, n2, m3, n3, m4, hasB, t_has_6]
theorem f_lhas_6 (s : St R h W) : Fn_law_has [.lst (rows R), .str "spinning jump"] = M.pure (.bl (hasB R h W 6)) := by
  obtain ⟨r0, a0, l0⟩ := len_head s.o
  have w24 := s.w24
  have r2 := rng_nat W (by omega)
  have k1 := fun k a b c d e => lc_keeps8 s false true k a b c d e
  have k2 := fun k a b c d e => lc_keeps8 s true true k a b c d e
  have k3 := fun k a b c d e => lc_keeps8 s true false k a b c d e
  have n1 := lhas_ne s.o false true
  have n2 := lhas_ne s.o true true
  have n3 := lhas_ne s.o true false
  have m4 := f_law_keeps s true false 0
  simp -implicitDefEqProofs [Fn_law_has, F_lhas_eq, eVar_def, a0, l0, r2, wipeG, k1, k2, k3, n1, n2, n3, m4, hasB, t_lhas_6]
end
end Dd.Ma
namespace Dd.Ma
open PySem L2 K1
def ext1 (sgs w : List Nat) : List (List Nat) := sgs.map fun c => w ++ [c]
def wordsN (sgs : List Nat) : Nat → List (List Nat)
  | 0 => [[]]
  | n + 1 => (wordsN sgs n).flatMap (ext1 sgs)
theorem words_len (sgs : List Nat) : ∀ n, (wordsN sgs n).length = sgs.length ^ n
  | 0 => rfl
  | n + 1 => by
    show ((wordsN sgs n).flatMap (ext1 sgs)).length = _
    rw [List.length_flatMap]
    have : ∀ l : List (List Nat), (l.map fun a => (ext1 sgs a).length).sum = l.length * sgs.length := fun l => by
      induction l with
      | nil => simp
      | cons a l ih => rw [List.map_cons, List.sum_cons, ih, List.length_cons, Nat.succ_mul]; unfold ext1; rw [List.length_map]; omega
    rw [this, words_len sgs n, Nat.pow_succ]
theorem words_wd (sgs : List Nat) : ∀ n, ∀ w ∈ wordsN sgs n, w.length = n
  | 0, w, h => by rw [List.mem_singleton.mp h]; rfl
  | n + 1, w, h => by
    obtain ⟨a, ha, h2⟩ := List.mem_flatMap.mp h
    obtain ⟨c, _, e⟩ := List.mem_map.mp h2
    rw [← e, List.length_append, words_wd sgs n a ha]
    rfl
theorem flat_pre {sgs : List Nat} {a b : List (List Nat)} : (a.flatMap (ext1 sgs)).length ≤ ((a ++ b).flatMap (ext1 sgs)).length := by
  rw [List.flatMap_append, List.length_append]
  omega
theorem ext_len (sgs w : List Nat) : (ext1 sgs w).length = sgs.length := by unfold ext1; rw [List.length_map]
theorem add_str (a b : List Nat) (hl : a.length + b.length ≤ 10000) : dAdd (rD a) (rD b) = some (rD (a ++ b)) := by
  show (if (rS a).length + (rS b).length ≤ 16777216 then some (D.str (rS a ++ rS b)) else none) = _
  rw [rS_len, rS_len, if_pos (by omega), rS_app]
  rfl
theorem seq_str (r : List Nat) : seqOf (rD r) = some (r.map signD) := by
  show some ((rS r).cps.toList.map signD) = _
  rw [rS_cps]
theorem lc_ext {T : Tgt} {fe : E} {Γ : Env} (sgs w : List Nat) (h : ∀ c ∈ sgs, ∃ Γ1, T (signD c) Γ = some Γ1 ∧ fe Γ1 = M.pure (rD (w ++ [c]))) : lcF T bYes fe Γ (sgs.map signD) = M.pure (rows (ext1 sgs w)) := by
  rw [lc_map signD (fun _ => true) (fun c => rD (w ++ [c])) sgs fun c hc => (by
    obtain ⟨Γ1, h1, h2⟩ := h c hc
    exact ⟨Γ1, h1, rfl, fun _ => h2⟩)]
  rw [List.filter_eq_self.mpr (by simp)]
  unfold rows ext1
  rw [List.map_map]
  rfl
section
variable {sgs : List Nat} {n : Nat}
theorem f_words (hn : n ≤ 1000) (hb : ∀ k, k ≤ n → sgs.length ^ k ≤ 5000) : Fn_law_words [rD sgs, .int (n : Int)] = M.pure (.lst (rows (wordsN sgs n))) := by
  have rg := rng_nat n (by omega)
  have r0 : (.lst [.str ""] : D) = .lst (rows (wordsN sgs 0)) := rfl
  simp -implicitDefEqProofs [Fn_law_words, F_law_words, eVar_def, rg]
  rw [all_nat (fun don Γ => ∃ z3 z4 z5 z6, Γ = [.v (rD sgs), .v (.int (n : Int)), .v (.lst (rows (wordsN sgs don.length))), z3, z4, z5, z6]) _ ?c ?a ?b]
  case c => exact ⟨.no, .no, .no, .no, by rw [r0]; rfl⟩
  case b =>
    rintro Γ' ⟨z3, z4, z5, z6, rfl⟩
    simp -implicitDefEqProofs
  case a =>
    rintro a don Γ ha hd ⟨z3, z4, z5, z6, rfl⟩
    refine ⟨_, rfl, ?_⟩
    have hlen := hb (don.length + 1) (by omega)
    rw [← words_len] at hlen
    refine ⟨[.v (rD sgs), .v (.int (n : Int)), .v (.lst (rows (wordsN sgs (don ++ [a]).length))), .v (.int (a : Int)), .v (.lst (rows (wordsN sgs (don ++ [a]).length))), ((if wordsN sgs don.length = [] then z5 else .v (rD ((wordsN sgs don.length).getLast?.getD [])))), z6], ⟨_, _, _, _, rfl⟩, ?_⟩
    simp -implicitDefEqProofs [eVar_def, seqOf]
    have key : ∀ (l don2 : List (List Nat)), don2 ++ l = wordsN sgs don.length → ∀ z5 : Sl, loopF (tName 5) (sSet 4 (eOp dAdd (eVar 4) (eLc (iSeq (eVar 0)) (tName 6) (bYes) (eOp dAdd (eVar 5) (eVar 6)) [6]))) (rows l) [.v (rD sgs), .v (.int (n : Int)), .v (.lst (rows (wordsN sgs don.length))), .v (.int (a : Int)), .v (.lst (rows (don2.flatMap (ext1 sgs)))), z5, z6] = M.pure (.nx [.v (rD sgs), .v (.int (n : Int)), .v (.lst (rows (wordsN sgs don.length))), .v (.int (a : Int)), .v (.lst (rows (wordsN sgs (don.length + 1)))), (if l = [] then z5 else .v (rD (l.getLast?.getD []))), z6]) := by
      intro l
      induction l with
      | nil =>
        intro don2 e z5
        rw [List.append_nil] at e
        subst e
        rfl
      | cons w l ih =>
        intro don2 e z5
        have hw : w.length = don.length := words_wd sgs _ w (by rw [← e]; simp)
        have e1 : lcF (tName 6) bYes (eOp dAdd (eVar 5) (eVar 6)) [.v (rD sgs), .v (.int (n : Int)), .v (.lst (rows (wordsN sgs don.length))), .v (.int (a : Int)), .v (.lst (rows (don2.flatMap (ext1 sgs)))), .v (rD w), .no] (sgs.map signD) = M.pure (rows (ext1 sgs w)) := lc_ext sgs w fun c hc => ⟨_, rfl, by
          simp -implicitDefEqProofs [eVar_def, sign_eq, add_str w [c] (by simp; omega)]⟩
        have l1 : ((don2.flatMap (ext1 sgs)).length + (ext1 sgs w).length) ≤ (wordsN sgs (don.length + 1)).length := by
          show _ ≤ ((wordsN sgs don.length).flatMap (ext1 sgs)).length
          rw [← e, show don2 ++ w :: l = (don2 ++ [w]) ++ l by simp]
          refine Nat.le_trans ?_ flat_pre
          rw [List.flatMap_append, List.length_append, List.flatMap_singleton]
          exact Nat.le_refl _
        have ad := add_lst (don2.flatMap (ext1 sgs)) (ext1 sgs w) (by omega)
        rw [rows_cons]
        unfold loopF
        simp -implicitDefEqProofs [eVar_def, seq_str, wipeG, e1, ad]
        have e3 : don2.flatMap (ext1 sgs) ++ ext1 sgs w = (don2 ++ [w]).flatMap (ext1 sgs) := by rw [List.flatMap_append, List.flatMap_singleton]
        rw [e3, ih (don2 ++ [w]) (by simpa using e)]
        cases l with
        | nil => rfl
        | cons w2 l2 => simp
    have := key (wordsN sgs don.length) [] rfl z5
    rw [show rows (([] : List (List Nat)).flatMap (ext1 sgs)) = [] from rfl] at this
    rw [this]
    simp -implicitDefEqProofs [eVar_def]
end
/-! ### all strips -/
theorem mulI_ok (i j : Int) (h1 : -10000 < i) (h2 : i < 10000) : dMulI (.int i) (.int j) = some (.int (i * j)) := by
  unfold dMulI
  exact if_pos (.inl ⟨by omega, by omega⟩)
theorem mulD_ok (i j : Int) (h1 : -10000 < i) (h2 : i < 10000) : dMul (.int i) (.int j) = some (.int (i * j)) := by
  unfold dMul
  exact if_pos (.inl ⟨by omega, by omega⟩)
theorem cut_both (r : List Nat) {a b : Nat} (hb : b ≤ r.length) (hab : a ≤ b) : cutG r (some (a : Int)) (some (b : Int)) = (r.drop a).take (b - a) := by
  unfold cutG
  rw [HT.sIx_nat, HT.sIx_nat, Nat.min_eq_left hb, Nat.min_eq_left (show a ≤ r.length by omega)]
def cutR (w : List Nat) (W h : Nat) : List (List Nat) := (List.range h).map fun y => (w.drop (y * W)).take W
theorem cutR_ok {w : List Nat} {W h : Nat} (wp : 0 < W) (hp : 0 < h) (hl : w.length = W * h) : Ok (cutR w W h) h W where
  len := by unfold cutR; simp
  hp := hp
  wd := fun r hr => by
    obtain ⟨y, hy, e⟩ := List.mem_map.mp hr
    have hy := List.mem_range.mp hy
    have : y * W + W ≤ W * h := by
      have : (y + 1) * W ≤ h * W := Nat.mul_le_mul_right W hy
      rw [Nat.add_mul, Nat.one_mul] at this
      rw [Nat.mul_comm W h]
      exact this
    rw [← e, List.length_take, List.length_drop, hl]
    omega
  wp := wp
structure Shape (W h : Nat) : Prop where
  wp : 0 < W
  hp : 0 < h
  w6 : W ≤ 6
  h4 : h ≤ 4
  sm : Builtin.Range.small 0 ((W * h : Nat) : Int) (W : Int) = true
  st : stepN 0 ((W * h : Nat) : Int) (W : Int) = h
theorem range3_sh {W h : Nat} (g : Shape W h) : range3D [.int 0, .int ((W * h : Nat) : Int), .int (W : Int)] = some (stepD 0 (W : Int) h) := by
  have h1 := g.wp
  have h2 := g.w6
  have h4 := g.h4
  show (if 0 < (W : Int) ∧ (W : Int) < 1073741824 ∧ Builtin.Range.small 0 ((W * h : Nat) : Int) (W : Int) = true ∧ stepN 0 ((W * h : Nat) : Int) (W : Int) ≤ 16777216 then some (stepD 0 (W : Int) (stepN 0 ((W * h : Nat) : Int) (W : Int))) else none) = _
  rw [g.st, if_pos ⟨by omega, by omega, g.sm, by omega⟩]
theorem lc_cut {T : Tgt} {fe : E} {Γ : Env} {W h : Nat} (w : List Nat) (h0 : ∀ y, y < h → ∃ Γ1, T (.int ((y * W : Nat) : Int)) Γ = some Γ1 ∧ fe Γ1 = M.pure (rD ((w.drop (y * W)).take W))) : lcF T bYes fe Γ (stepD 0 (W : Int) h) = M.pure (rows (cutR w W h)) := by
  have e : stepD 0 (W : Int) h = (List.range h).map fun y => .int ((y * W : Nat) : Int) := by
    unfold stepD
    apply List.map_congr_left
    intro y _
    simp
  rw [e, lc_map (fun y : Nat => D.int ((y * W : Nat) : Int)) (fun _ => true) (fun y => rD ((w.drop (y * W)).take W)) (List.range h) fun y hy => (by
    obtain ⟨Γ1, h1, h2⟩ := h0 y (List.mem_range.mp hy)
    exact ⟨Γ1, h1, rfl, fun _ => h2⟩)]
  rw [List.filter_eq_self.mpr (by simp)]
  unfold rows cutR
  rw [List.map_map]
  rfl
theorem sl_cut {w : List Nat} {W h y : Nat} (hl : w.length = W * h) (hy : y < h) : dSl (rD w) (some ((y * W : Nat) : Int)) (some (((y * W : Nat) : Int) + (W : Int))) = some (rD ((w.drop (y * W)).take W)) := by
  have hle : y * W + W ≤ w.length := by
    have : (y + 1) * W ≤ h * W := Nat.mul_le_mul_right W hy
    rw [Nat.add_mul, Nat.one_mul] at this
    rw [hl, Nat.mul_comm W h]
    exact this
  have e : (((y * W : Nat) : Int) + (W : Int)) = ((y * W + W : Nat) : Int) := by omega
  rw [e]
  show some (D.str (cutS (rS w) _ _)) = _
  rw [rS_cut, cut_both w hle (by omega), Nat.add_sub_cancel_left]
  rfl
theorem lc2_words {T T1 : Tgt} {fi : Env → M (List D)} {fe : E} {Γ : Env} {vs1 : List Nat} (sgs : List Nat) (N : Nat) : ∀ (l : List (List Nat)) (n : Nat), n + (l.flatMap (ext1 sgs)).length ≤ N → N ≤ 10000 → (∀ w ∈ l, ∃ Γ1, T (rD w) Γ = some Γ1 ∧ fi Γ1 = M.pure (sgs.map signD) ∧ lcF T1 bYes fe (wipeG Γ1 vs1) (sgs.map signD) = M.pure (rows (ext1 sgs w))) →
    lcF2 T fi T1 fe Γ vs1 n (rows l) = M.pure (rows (l.flatMap (ext1 sgs)))
  | [], n, _, _, _ => rfl
  | w :: l, n, hn, hN, h => by
    obtain ⟨Γ1, h1, h2, h3⟩ := h w List.mem_cons_self
    rw [List.flatMap_cons, List.length_append, ext_len] at hn
    have ih := lc2_words sgs N l (n + sgs.length) (by omega) hN fun x hx => h x (List.mem_cons_of_mem _ hx)
    rw [rows_cons]
    unfold lcF2
    rw [h1, M.opt_some, M.pure_bind, h2, M.pure_bind, if_pos (by rw [List.length_map]; omega), h3, M.pure_bind, rows_len, ext_len, ih, M.pure_bind, List.flatMap_cons, ← rows_app]
section
variable {sgs : List Nat} {W h : Nat}
theorem f_all (g : Shape W h) (h1 : 1 ≤ sgs.length) (h3 : sgs.length ≤ 3) (hb : ∀ k, k ≤ W * h → sgs.length ^ k ≤ 5000) : Fn_all_strips [.int (W : Int), .int (h : Int), rD sgs] = M.pure (.tup ((wordsN sgs (W * h)).map fun w => sD (cutR w W h))) := by
  have wp := g.wp
  have hp := g.hp
  have w6 := g.w6
  have h4 := g.h4
  have k1 : (1 : Int) ≤ (W : Int) := by omega
  have k2 : (W : Int) ≤ 24 := by omega
  have k3 : (1 : Int) ≤ (h : Int) := by omega
  have k4 : (h : Int) ≤ 8 := by omega
  have ls : dLen [rD sgs] = some (.int (sgs.length : Int)) := by
    show some (D.int (((rS sgs).length : Nat) : Int)) = _
    rw [rS_len]
  have k5 : ¬ ((sgs.length : Int) < 1) := by omega
  have mu : dMul (.int (W : Int)) (.int (h : Int)) = some (.int ((W * h : Nat) : Int)) := by
    rw [mulD_ok _ _ (by omega) (by omega)]
    simp
  have hWh : W * h ≤ 24 := Nat.mul_le_mul w6 h4
  have r3 := range3_sh g
  have cok : ∀ w ∈ wordsN sgs (W * h), St (cutR w W h) h W := fun w hw => ⟨cutR_ok wp hp (words_wd sgs _ w hw), by omega, by omega⟩
  have scut : ∀ w ∈ wordsN sgs (W * h), ∀ y, y < h → _ := fun w hw y hy => sl_cut (words_wd sgs _ w hw) hy
  generalize hN : W * h = N at *
  have rg := rng_nat N (by omega)
  have r0 : (.lst [.str ""] : D) = .lst (rows (wordsN sgs 0)) := rfl
  simp -implicitDefEqProofs [Fn_all_strips, F_all_strips, eVar_def, k1, k2, k3, k4, k5, ls, mu, rg]
  have l1 : ∃ z4, loopF (tName 4) (sSeq (sAug 3 dMulI (eCall dLen (aCons (eVar 2) (aNil)))) (sIf (bOf (eOp dGt (eVar 3) (eC G_MOST_COUNTED))) (sRaise 3) (sNil))) (intsD 0 N) [.v (.int (W : Int)), .v (.int (h : Int)), .v (rD sgs), .v (.int 1), .no, .no, .no, .no, .no] = M.pure (.nx [.v (.int (W : Int)), .v (.int (h : Int)), .v (rD sgs), .v (.int ((sgs.length ^ N : Nat) : Int)), z4, .no, .no, .no, .no]) := by
    rw [intsD_zero]
    obtain ⟨Γ', ⟨z4, e⟩, e2⟩ := loop_all (T := tName 4) (F := sSeq (sAug 3 dMulI (eCall dLen (aCons (eVar 2) (aNil)))) (sIf (bOf (eOp dGt (eVar 3) (eC G_MOST_COUNTED))) (sRaise 3) (sNil))) (fun (don : List Nat) Γ => ∃ z4, Γ = [.v (.int (W : Int)), .v (.int (h : Int)), .v (rD sgs), .v (.int ((sgs.length ^ don.length : Nat) : Int)), z4, .no, .no, .no, .no]) (fun i : Nat => D.int (i : Int)) N (List.range N) [] (by simp) (Γ := [.v (.int (W : Int)), .v (.int (h : Int)), .v (rD sgs), .v (.int 1), .no, .no, .no, .no, .no]) ⟨_, rfl⟩ fun a don Γ ha hd ⟨z4, e⟩ => by
      subst e
      refine ⟨_, rfl, [.v (.int (W : Int)), .v (.int (h : Int)), .v (rD sgs), .v (.int ((sgs.length ^ (don ++ [a]).length : Nat) : Int)), .v (.int (a : Int)), .no, .no, .no, .no], ⟨_, rfl⟩, ?_⟩
      have b1 := hb don.length (by omega)
      have b2 := hb (don.length + 1) (by omega)
      have e3 : ((sgs.length ^ don.length : Nat) : Int) * (sgs.length : Int) = ((sgs.length ^ (don ++ [a]).length : Nat) : Int) := by
        rw [List.length_append, List.length_singleton, Nat.pow_succ]
        simp
      have e4 : dMulI (.int ((sgs.length ^ don.length : Nat) : Int)) (.int (sgs.length : Int)) = some (.int ((sgs.length ^ (don ++ [a]).length : Nat) : Int)) := by
        rw [← e3]
        generalize hq : (sgs.length ^ don.length) = q at *
        exact mulI_ok _ _ (by omega) (by omega)
      have e5 : ¬ ((5000 : Int) < ((sgs.length ^ (don ++ [a]).length : Nat) : Int)) := by
        rw [List.length_append, List.length_singleton]
        omega
      generalize hq1 : (sgs.length ^ don.length) = q1 at *
      generalize hq2 : (sgs.length ^ (don ++ [a]).length) = q2 at *
      simp -implicitDefEqProofs [eVar_def, ls, e4, G_MOST_COUNTED, e5]
    rw [e2, e]
    exact ⟨z4, by simp⟩
  obtain ⟨z4, l1⟩ := l1
  rw [l1]
  generalize hq : (sgs.length ^ N) = q
  simp -implicitDefEqProofs [eVar_def, mu, rg]
  have l2 : ∃ z4', loopF (tName 4) (sSet 5 (eLc2 (iSeq (eVar 5)) (tName 6) (iSeq (eVar 2)) (tName 7) (eOp dAdd (eVar 6) (eVar 7)) [6, 7] [7])) (intsD 0 N) [.v (.int (W : Int)), .v (.int (h : Int)), .v (rD sgs), .v (.int (q : Int)), z4, .v (.lst [.str ""]), .no, .no, .no] = M.pure (.nx [.v (.int (W : Int)), .v (.int (h : Int)), .v (rD sgs), .v (.int (q : Int)), z4', .v (.lst (rows (wordsN sgs N))), .no, .no, .no]) := by
    rw [intsD_zero]
    obtain ⟨Γ', ⟨z4, e⟩, e2⟩ := loop_all (T := tName 4) (F := sSet 5 (eLc2 (iSeq (eVar 5)) (tName 6) (iSeq (eVar 2)) (tName 7) (eOp dAdd (eVar 6) (eVar 7)) [6, 7] [7])) (fun (don : List Nat) Γ => ∃ z4, Γ = [.v (.int (W : Int)), .v (.int (h : Int)), .v (rD sgs), .v (.int (q : Int)), z4, .v (.lst (rows (wordsN sgs don.length))), .no, .no, .no]) (fun i : Nat => D.int (i : Int)) N (List.range N) [] (by simp) (Γ := [.v (.int (W : Int)), .v (.int (h : Int)), .v (rD sgs), .v (.int (q : Int)), z4, .v (.lst [.str ""]), .no, .no, .no]) ⟨_, by rw [r0]; rfl⟩ fun a don Γ ha hd ⟨z4, e⟩ => by
      subst e
      refine ⟨_, rfl, [.v (.int (W : Int)), .v (.int (h : Int)), .v (rD sgs), .v (.int (q : Int)), .v (.int (a : Int)), .v (.lst (rows (wordsN sgs (don ++ [a]).length))), .no, .no, .no], ⟨_, by rfl⟩, ?_⟩
      have b2 := hb (don.length + 1) (by omega)
      rw [← words_len] at b2
      have lc := lc2_words (T := tName 6) (T1 := tName 7) (fi := iSeq (eVar 2)) (fe := eOp dAdd (eVar 6) (eVar 7)) (Γ := [.v (.int (W : Int)), .v (.int (h : Int)), .v (rD sgs), .v (.int (q : Int)), .v (.int (a : Int)), .v (.lst (rows (wordsN sgs don.length))), .no, .no, .no]) (vs1 := [7]) sgs 5000 (wordsN sgs don.length) 0 (by rw [Nat.zero_add]; exact b2) (by omega) fun w hw => ⟨_, rfl, by simp -implicitDefEqProofs [eVar_def, seq_str], lc_ext sgs w fun c hc => ⟨_, rfl, by
        have := words_wd sgs _ w hw
        simp -implicitDefEqProofs [eVar_def, sign_eq, add_str w [c] (by simp; omega), wipeG]⟩⟩
      simp -implicitDefEqProofs [eVar_def, seqOf, wipeG, lc]
      rfl
    rw [e2, e]
    exact ⟨z4, by simp⟩
  obtain ⟨z4', l2⟩ := l2
  rw [l2]
  simp -implicitDefEqProofs [eVar_def, seqOf, wipeG]
  have lt : lcF (tName 6) bYes (eFun 1 Fn_Strip_init (aCons (eLc (iRng3E (aCons (eC (.int 0)) (aCons (eOp dMul (eVar 0) (eVar 1)) (aCons (eVar 0) (aNil))))) (tName 8) (bYes) (eSl (eVar 6) (oSome (eVar 8)) (oSome (eOp dAdd (eVar 8) (eVar 0)))) [8]) (aNil))) [.v (.int (W : Int)), .v (.int (h : Int)), .v (rD sgs), .v (.int (q : Int)), z4', .v (.lst (rows (wordsN sgs N))), .no, .no, .no] (rows (wordsN sgs N)) = M.pure ((wordsN sgs N).map fun w => sD (cutR w W h)) := lc_rows _ _ fun w hw => by
    have so := cok w hw
    refine ⟨_, rfl, rfl, ?_⟩
    have lc := lc_cut (T := tName 8) (fe := eSl (eVar 6) (oSome (eVar 8)) (oSome (eOp dAdd (eVar 8) (eVar 0)))) (Γ := [.v (.int (W : Int)), .v (.int (h : Int)), .v (rD sgs), .v (.int (q : Int)), z4', .v (.lst (rows (wordsN sgs N))), .v (rD w), .no, .no]) (W := W) (h := h) w fun y hy => ⟨_, rfl, by
      have sc := scut w hw y hy
      generalize (y * W) = yW at *
      simp -implicitDefEqProofs [eVar_def, sc]⟩
    have fi := so.init (.lst (rows (cutR w W h))) (.inl rfl)
    simp -implicitDefEqProofs [eVar_def, mu, r3, wipeG, lc, fi]
  rw [lt]
  simp -implicitDefEqProofs
end
end Dd.Ma
namespace Dd.Ma
open PySem L2 K1
theorem getK_map {α : Type} (f : Key → α) {y : Key} : ∀ {ks : List Key}, hasK ks y = true → getK ks (ks.map f) y = some (f y)
  | [], h => by cases h
  | k :: ks, h => by
    rw [List.map_cons]
    unfold getK
    by_cases e : k = y
    · rw [if_pos e, e]
    · rw [if_neg e]
      refine getK_map f ?_
      unfold hasK at h ⊢
      rw [List.any_cons] at h
      simpa [e] using h
theorem repK_map {α : Type} (f : Key → α) {y : Key} {z : α} : ∀ {ks : List Key}, repK ks (ks.map f) y z = ks.map fun k => if k = y then z else f k
  | [] => rfl
  | k :: ks => by
    rw [List.map_cons, List.map_cons]
    unfold repK
    rw [repK_map f]
theorem putVs_map {α : Type} (f : Key → α) {y : Key} {z : α} {ks : List Key} (h : hasK ks y = true) : putVs ks (ks.map f) y z = ks.map fun k => if k = y then z else f k := by
  unfold putVs
  rw [if_pos h, repK_map]
theorem putKs_in {y : Key} {ks : List Key} (h : hasK ks y = true) : putKs ks y = ks := by unfold putKs; rw [if_pos h]
theorem same_self (ks : List Key) (c : Key → Nat) : sameDk ks (ks.map fun k => .int (c k : Nat)) ks (ks.map fun k => .int (c k : Nat)) = true := by
  unfold sameDk
  rw [Bool.and_eq_true, Bool.and_eq_true]
  refine ⟨⟨by simp, by simp⟩, ?_⟩
  rw [List.all_eq_true]
  intro p hp
  have h1 : ∃ k ∈ ks, p = (k, .int (c k : Nat)) := by
    have : ∀ l : List Key, p ∈ l.zip (l.map fun k => D.int (c k : Nat)) → ∃ k ∈ l, p = (k, .int (c k : Nat)) := fun l => by
      induction l with
      | nil => intro h; simp at h
      | cons k l ih =>
        intro h
        rw [List.map_cons, List.zip_cons_cons] at h
        rcases List.mem_cons.mp h with e | h
        · exact ⟨k, List.mem_cons_self, e⟩
        · obtain ⟨k', h1, h2⟩ := ih h
          exact ⟨k', List.mem_cons_of_mem _ h1, h2⟩
    exact this ks hp
  obtain ⟨k, hk, e⟩ := h1
  subst e
  have h2 : hasK ks k = true := by
    unfold hasK
    rw [List.any_eq_true]
    exact ⟨k, hk, by simp⟩
  rw [getK_map (fun k => D.int (c k : Nat)) h2]
  simp
def kinds7 : List Key := strs_law.map .inr
noncomputable def kindKey (R : List (List Nat)) (h W : Nat) : Key := match kindD R h W with
  | .str s => .inr s
  | _ => .inl 0
theorem kind_key (R : List (List Nat)) (h W : Nat) : keyOf (kindD R h W) = some (kindKey R h W) ∧ hasK kinds7 (kindKey R h W) = true := by
  have key : ∀ d : D, (d = .str "hop" ∨ d = .str "step" ∨ d = .str "sidle" ∨ d = .str "spinning hop" ∨ d = .str "spinning sidle" ∨ d = .str "jump" ∨ d = .str "spinning jump") → keyOf d = some (match d with
    | .str s => .inr s
    | _ => .inl 0) ∧ hasK kinds7 (match d with
    | .str s => .inr s
    | _ => .inl 0) = true := fun d h => by
    rcases h with rfl | rfl | rfl | rfl | rfl | rfl | rfl <;> exact ⟨rfl, by decide +kernel⟩
  refine key _ ?_
  unfold kindD
  split
  · split
    · simp
    · simp
  · split
    · split
      · simp
      · simp
    · split
      · simp
      · split
        · simp
        · simp
section
variable {sgs : List Nat} {W h : Nat}
open Classical in
noncomputable def cnt (W h : Nat) (L : List (List Nat)) (k : Key) : Nat := (L.filter fun w => decide (kindKey (cutR w W h) h W = k)).length
theorem cnt_snoc (L : List (List Nat)) (w : List Nat) (k : Key) : (if k = kindKey (cutR w W h) h W then D.int ((cnt W h L (kindKey (cutR w W h) h W) : Nat) + 1) else .int (cnt W h L k : Nat)) = .int (cnt W h (L ++ [w]) k : Nat) := by
  unfold cnt
  rw [List.filter_append, List.length_append]
  by_cases e : k = kindKey (cutR w W h) h W
  · subst e
    simp
  · have e' : ¬ kindKey (cutR w W h) h W = k := fun z => e z.symm
    simp [e, e']
noncomputable def cntD (W h : Nat) (L : List (List Nat)) : D := .dk kinds7 (kinds7.map fun k => .int (cnt W h L k : Nat))
theorem cnt_step (L : List (List Nat)) (w : List Nat) : putVs kinds7 (kinds7.map fun k => D.int (cnt W h L k : Nat)) (kindKey (cutR w W h) h W) (.int ((cnt W h L (kindKey (cutR w W h) h W) : Nat) + 1)) = kinds7.map fun k => .int (cnt W h (L ++ [w]) k : Nat) := by
  rw [putVs_map _ (kind_key _ _ _).2]
  apply List.map_congr_left
  intro k _
  exact cnt_snoc L w k
theorem cnt_nil : kinds7.map (fun k => D.int (cnt W h [] k : Nat)) = [.int 0, .int 0, .int 0, .int 0, .int 0, .int 0, .int 0] := by
  have : ∀ k, cnt W h [] k = 0 := fun k => rfl
  simp only [this]
  rfl
theorem f_counted (g : Shape W h) (h1 : 1 ≤ sgs.length) (h3 : sgs.length ≤ 3) (hb : ∀ k, k ≤ W * h → sgs.length ^ k ≤ 5000) : Fn_counted [.int (W : Int), .int (h : Int), rD sgs] = M.pure (cntD W h (wordsN sgs (W * h))) := by
  have fa := f_all g h1 h3 hb
  have so : ∀ w ∈ wordsN sgs (W * h), St (cutR w W h) h W := fun w hw => ⟨cutR_ok g.wp g.hp (words_wd sgs _ w hw), by have := g.h4; omega, by have := g.w6; omega⟩
  have sq : seqOf G_KINDS_OF_STRIPS = some [.str "hop", .str "step", .str "sidle", .str "spinning hop", .str "spinning sidle", .str "jump", .str "spinning jump"] := rfl
  have dc : ∀ a b c d e f : Sl, dcF (tName 5) (eVar 5) (eC (.int 0)) [a, b, c, d, e, f] ([], []) [.str "hop", .str "step", .str "sidle", .str "spinning hop", .str "spinning sidle", .str "jump", .str "spinning jump"] = M.pure (kinds7, [.int 0, .int 0, .int 0, .int 0, .int 0, .int 0, .int 0]) := fun a b c d e f => by rfl
  generalize wordsN sgs (W * h) = L at *
  have od : ∀ (i : Nat) (fi : Env → M (List D)) (T : Tgt) (fk fv : E) (vs : List Nat) (Γ : Env), sOwnDc i fi T fk fv vs Γ = M.bind (fi Γ) fun ds => M.bind (nox (dcF T fk fv (wipeG Γ vs) ([], []) ds)) fun kd => M.pure (.nx (Γ.set i (.o (.dk kd.1 kd.2)))) := fun _ _ _ _ _ _ _ => rfl
  have sqt : ∀ xs : List D, seqOf (.tup xs) = some xs := fun _ => rfl
  simp -implicitDefEqProofs [Fn_counted, F_counted, eVar_def, od, sq, wipeG, dc, fa, sqt]
  rw [all_then (fun (don : List (List Nat)) Γ => ∃ z4, Γ = [.v (.int (W : Int)), .v (.int (h : Int)), .v (rD sgs), .o (cntD W h don), z4, .no]) (fun w => sD (cutR w W h)) L ?c ?a ?b]
  case c => exact ⟨.no, by unfold cntD; rw [cnt_nil]⟩
  case b =>
    rintro Γ' ⟨z4, rfl⟩
    simp [ownD]
  case a =>
    rintro w don Γ hw _ ⟨z4, rfl⟩
    obtain ⟨k1, k2⟩ := kind_key (cutR w W h) h W
    refine ⟨_, rfl, _, ⟨.v (sD (cutR w W h)), rfl⟩, ?_⟩
    have fk := f_kind (so w hw)
    have ow : ownK 3 [.v (.int (W : Int)), .v (.int (h : Int)), .v (rD sgs), .o (cntD W h don), .v (sD (cutR w W h)), .no] = some (kinds7, kinds7.map fun k => .int (cnt W h don k : Nat)) := rfl
    have gk := getK_map (fun k => D.int (cnt W h don k : Nat)) k2
    have cs := cnt_step (W := W) (h := h) don w
    have l7 : kinds7.length < 16777216 := by decide
    have og : ∀ (i : Nat) (f : E) (Γ : Env), True := fun _ _ _ => trivial
    simp -implicitDefEqProofs [eVar_def, ow, isObj_sD, fk, k1, gk, cs, putKs_in k2, l7]
    rfl
end
end Dd.Ma
namespace Dd.Ma
open PySem L2 K1
def rotk (I : List (List Nat)) (k : Nat) : List (List Nat) := I.map fun r => r.drop k ++ r.take k
def turnsOf (I : List (List Nat)) (W : Nat) : List (List (List Nat)) := (List.range W).map (rotk I)
def four (R : List (List Nat)) : List (List (List Nat)) := [R, R.reverse, R.map List.reverse, R.reverse.map List.reverse]
def imgs (R : List (List Nat)) (W : Nat) : List (List (List Nat)) := (four R).flatMap fun I => turnsOf I W
section
variable {A B : List (List Nat)} {h W : Nat}
theorem rot_mv (o : Ok A h W) {k : Nat} (hk : k < W) : rotk A k = mv A h W (k : Int) := mv_mk o (Int.emod_eq_of_lt (by omega) (by omega)) hk
theorem sim_turns (s : St A h W) (s' : St B h W) : Sim A W h B W ↔ A ∈ turnsOf B W := by
  unfold turnsOf
  constructor
  · intro ⟨m, k⟩
    obtain ⟨n, e, hn⟩ := mod_nat m s.o.wp
    refine List.mem_map.mpr ⟨n, List.mem_range.mpr hn, ?_⟩
    rw [rot_mv s'.o hn, eq_iff (s'.mv _).o s.o]
    intro y hy x
    rw [sg_mv s' hy, k y hy x]
    have d := dvd_mod (W := W) m
    rw [e] at d
    exact sg_dvd (by rw [show x + (n : Int) - (x + m) = (n : Int) - m by omega]; exact d)
  · intro hm
    obtain ⟨n, hn, e⟩ := List.mem_map.mp hm
    have hn := List.mem_range.mp hn
    rw [rot_mv s'.o hn] at e
    refine ⟨n, fun y hy x => ?_⟩
    rw [← e, sg_mv s' hy]
theorem alike_img (s : St A h W) (s' : St B h W) : Alike A h W B h W ↔ A ∈ imgs B W := by
  unfold Alike imgs four
  rw [ud_list s', lr_list s', lr_list s'.ud, ← tr_eq s']
  simp only [List.mem_flatMap, List.mem_cons, List.mem_nil_iff, or_false, true_and]
  constructor
  · rintro ⟨I, hI, k⟩
    rcases hI with rfl | rfl | rfl | rfl
    · exact ⟨_, .inl rfl, (sim_turns s s').mp k⟩
    · exact ⟨_, .inr (.inr (.inr rfl)), (sim_turns s s'.tr).mp k⟩
    · exact ⟨_, .inr (.inr (.inl rfl)), (sim_turns s s'.lr).mp k⟩
    · exact ⟨_, .inr (.inl rfl), (sim_turns s s'.ud).mp k⟩
  · rintro ⟨I, hI, k⟩
    rcases hI with rfl | rfl | rfl | rfl
    · exact ⟨_, .inl rfl, (sim_turns s s').mpr k⟩
    · exact ⟨_, .inr (.inr (.inr rfl)), (sim_turns s s'.ud).mpr k⟩
    · exact ⟨_, .inr (.inr (.inl rfl)), (sim_turns s s'.lr).mpr k⟩
    · exact ⟨_, .inr (.inl rfl), (sim_turns s s'.tr).mpr k⟩
end
def stepF (W : Nat) (acc : List (List (List Nat))) (R : List (List Nat)) : List (List (List Nat)) := if R ∈ acc.flatMap (fun B => imgs B W) then acc else acc ++ [R]
def firsts (W : Nat) (Ts : List (List (List Nat))) : List (List (List Nat)) := Ts.foldl (stepF W) []
theorem firsts_snoc (W : Nat) (Ts : List (List (List Nat))) (R : List (List Nat)) : firsts W (Ts ++ [R]) = stepF W (firsts W Ts) R := by unfold firsts; rw [List.foldl_append]; rfl
theorem firsts_sub (W : Nat) : ∀ (Ts : List (List (List Nat))) (acc : List (List (List Nat))), ∀ B ∈ Ts.foldl (stepF W) acc, B ∈ acc ∨ B ∈ Ts
  | [], acc, B, h => .inl h
  | R :: Ts, acc, B, h => by
    rcases firsts_sub W Ts (stepF W acc R) B h with h | h
    · unfold stepF at h
      split at h
      · exact .inl h
      · rcases List.mem_append.mp h with h | h
        · exact .inl h
        · exact .inr (List.mem_cons.mpr (.inl (List.mem_singleton.mp h)))
    · exact .inr (List.mem_cons_of_mem _ h)
theorem firsts_len (W : Nat) : ∀ (Ts : List (List (List Nat))) (acc : List (List (List Nat))), (Ts.foldl (stepF W) acc).length ≤ acc.length + Ts.length
  | [], acc => Nat.le_refl _
  | R :: Ts, acc => by
    refine Nat.le_trans (firsts_len W Ts (stepF W acc R)) ?_
    have : (stepF W acc R).length ≤ acc.length + 1 := by
      unfold stepF
      split
      · omega
      · rw [List.length_append]; simp
    rw [List.length_cons]
    omega
section
variable {sgs : List Nat} {W h : Nat}
def tabs (sgs : List Nat) (W h : Nat) : List (List (List Nat)) := (wordsN sgs (W * h)).map fun w => cutR w W h
theorem tabs_st (g : Shape W h) : ∀ R ∈ tabs sgs W h, St R h W := fun R hR => by
  obtain ⟨w, hw, e⟩ := List.mem_map.mp hR
  rw [← e]
  exact ⟨cutR_ok g.wp g.hp (words_wd sgs _ w hw), by have := g.h4; omega, by have := g.w6; omega⟩
theorem f_all' (g : Shape W h) (h1 : 1 ≤ sgs.length) (h3 : sgs.length ≤ 3) (hb : ∀ k, k ≤ W * h → sgs.length ^ k ≤ 5000) : Fn_all_strips [.int (W : Int), .int (h : Int), rD sgs] = M.pure (.tup ((tabs sgs W h).map sD)) := by
  rw [f_all g h1 h3 hb]
  unfold tabs
  rw [List.map_map]
  rfl
theorem tabs_len (hb : ∀ k, k ≤ W * h → sgs.length ^ k ≤ 5000) : (tabs sgs W h).length ≤ 5000 := by
  unfold tabs
  rw [List.length_map, words_len]
  exact hb _ (Nat.le_refl _)
theorem f_unlike (g : Shape W h) (h1 : 1 ≤ sgs.length) (h3 : sgs.length ≤ 3) (hb : ∀ k, k ≤ W * h → sgs.length ^ k ≤ 5000) : Fn_unlike_ones [.int (W : Int), .int (h : Int), rD sgs] = M.pure (.tup ((firsts W (tabs sgs W h)).map sD)) := by
  have fa := f_all' g h1 h3 hb
  have so := tabs_st (sgs := sgs) g
  have tl := tabs_len hb
  generalize tabs sgs W h = Ts at *
  have sqt : ∀ xs : List D, seqOf (.tup xs) = some xs := fun _ => rfl
  simp -implicitDefEqProofs [Fn_unlike_ones, F_unlike_ones, eVar_def, fa, sqt]
  rw [all_then (fun (don : List (List (List Nat))) Γ => (∀ R ∈ don, R ∈ Ts) ∧ ∃ z4, Γ = [.v (.int (W : Int)), .v (.int (h : Int)), .v (rD sgs), .o (.lst ((firsts W don).map sD)), z4, .no]) sD Ts ?c ?a ?b]
  case c => exact ⟨fun _ h => (nomatch h), .no, rfl⟩
  case b =>
    rintro Γ' ⟨_, z4, rfl⟩
    simp -implicitDefEqProofs [ownL]
  case a =>
    rintro R don Γ hR hd ⟨hsub, z4, rfl⟩
    refine ⟨_, rfl, [.v (.int (W : Int)), .v (.int (h : Int)), .v (rD sgs), .o (.lst ((firsts W (don ++ [R])).map sD)), .v (sD R), .no], ⟨fun A hA => ?_, _, rfl⟩, ?_⟩
    · rcases List.mem_append.mp hA with hA | hA
      · exact hsub A hA
      · rw [List.mem_singleton.mp hA]; exact hR
    · have hf : ∀ B ∈ firsts W don, B ∈ Ts := fun B hB => by
        rcases firsts_sub W don [] B hB with h | h
        · cases h
        · exact hsub B h
      have an : ∀ z : Sl, anyF (tName 5) (eMeth 0 2 Fn_Strip_same (eVar 4) (aCons (eVar 5) (aNil))) [.v (.int (W : Int)), .v (.int (h : Int)), .v (rD sgs), .o (.lst ((firsts W don).map sD)), .v (sD R), z] ((firsts W don).map sD) = M.pure (decide (R ∈ (firsts W don).flatMap fun B => imgs B W)) := fun z => by
        have key : ∀ l : List (List (List Nat)), (∀ B ∈ l, B ∈ Ts) → anyF (tName 5) (eMeth 0 2 Fn_Strip_same (eVar 4) (aCons (eVar 5) (aNil))) [.v (.int (W : Int)), .v (.int (h : Int)), .v (rD sgs), .o (.lst ((firsts W don).map sD)), .v (sD R), z] (l.map sD) = M.pure (decide (R ∈ l.flatMap fun B => imgs B W)) := fun l => by
          induction l with
          | nil => intro _; rfl
          | cons B l ih =>
            intro hl
            have fs := f_same (so R hR) (so B (hl B List.mem_cons_self))
            have e : alike R h W B h W = decide (R ∈ imgs B W) := by
              rw [Bool.eq_iff_iff, alike_iff, alike_img (so R hR) (so B (hl B List.mem_cons_self))]
              simp
            rw [e] at fs
            rw [List.map_cons]
            unfold anyF
            simp -implicitDefEqProofs [eVar_def, isObj_sD, fs]
            rw [ih fun A hA => hl A (List.mem_cons_of_mem _ hA)]
            by_cases c : R ∈ imgs B W
            · simp [c]
            · simp [c]
        exact key _ hf
      have ol : ownL 3 [.v (.int (W : Int)), .v (.int (h : Int)), .v (rD sgs), .o (.lst ((firsts W don).map sD)), .v (sD R), .no] = some ((firsts W don).map sD) := rfl
      have fl := firsts_len W don []
      have fl : (firsts W don).length ≤ don.length := by unfold firsts; simpa using fl
      have lim : ((firsts W don).map sD).length < 16777216 := by rw [List.length_map]; omega
      rw [firsts_snoc]
      unfold stepF
      by_cases c : R ∈ (firsts W don).flatMap fun B => imgs B W
      · simp -implicitDefEqProofs [eVar_def, ol, wipeG, an, c, decide_true]
      · simp -implicitDefEqProofs [eVar_def, ol, wipeG, an, c, lim]
        intro q
        exact absurd q (by omega)
end
end Dd.Ma
namespace Dd.Ma
open PySem L2 K1
def kS (k : Nat) : Str := strs_law.getD k ""
section
variable {R : List (List Nat)} {h W : Nat}
theorem f_hasK (s : St R h W) : ∀ k, k < 7 → Fn_has_at_least [sD R, .str (kS k)] = M.pure (.bl (hasB R h W k))
  | 0, _ => f_has_0 s
  | 1, _ => f_has_1 s
  | 2, _ => f_has_2 s
  | 3, _ => f_has_3 s
  | 4, _ => f_has_4 s
  | 5, _ => f_has_5 s
  | 6, _ => f_has_6 s
  | k + 7, h => by omega
theorem f_lhasK (s : St R h W) : ∀ k, k < 7 → Fn_law_has [.lst (rows R), .str (kS k)] = M.pure (.bl (hasB R h W k))
  | 0, _ => f_lhas_0 s
  | 1, _ => f_lhas_1 s
  | 2, _ => f_lhas_2 s
  | 3, _ => f_lhas_3 s
  | 4, _ => f_lhas_4 s
  | 5, _ => f_lhas_5 s
  | 6, _ => f_lhas_6 s
  | k + 7, h => by omega
theorem f_madeK (s : St R h W) (h4 : h ≤ 4) (w6 : W ≤ 6) : ∀ k, k < 7 → Fn_made [.lst (rows R), .str (kS k)] = M.pure (sD (madeR R h W k))
  | 0, _ => f_made_0 s h4 w6
  | 1, _ => f_made_1 s h4 w6
  | 2, _ => f_made_2 s h4 w6
  | 3, _ => f_made_3 s h4 w6
  | 4, _ => f_made_4 s h4 w6
  | 5, _ => f_made_5 s h4 w6
  | 6, _ => f_made_6 s h4 w6
  | k + 7, h => by omega
theorem f_lmadeK (s : St R h W) (h4 : h ≤ 4) (w6 : W ≤ 6) : ∀ k, k < 7 → Fn_law_made [.lst (rows R), .str (kS k)] = M.pure (.lst (rows (madeR R h W k)))
  | 0, _ => f_lmade_0 s h4 w6
  | 1, _ => f_lmade_1 s h4 w6
  | 2, _ => f_lmade_2 s h4 w6
  | 3, _ => f_lmade_3 s h4 w6
  | 4, _ => f_lmade_4 s h4 w6
  | 5, _ => f_lmade_5 s h4 w6
  | 6, _ => f_lmade_6 s h4 w6
  | k + 7, h => by omega
theorem ni_kind : ∀ k, k < 7 → dNotIn (.str (kS k)) G_KINDS_OF_STRIPS = some (.bl false)
  | 0, _ => rfl
  | 1, _ => rfl
  | 2, _ => rfl
  | 3, _ => rfl
  | 4, _ => rfl
  | 5, _ => rfl
  | 6, _ => rfl
  | k + 7, h => by omega
end
/-! ### enumerate -/
def enumL (g : List (List Nat) → D) : Nat → List (List (List Nat)) → List D
  | _, [] => []
  | p, B :: Bs => .tup [.int (p : Nat), g B] :: enumL g (p + 1) Bs
theorem enumL_at (g : List (List Nat) → D) : ∀ (Bs : List (List (List Nat))) (p i : Nat), (enumL g p Bs)[i]? = (Bs[i]?).map fun B => .tup [.int ((p + i : Nat) : Int), g B]
  | [], p, i => by simp [enumL]
  | B :: Bs, p, 0 => by simp [enumL]
  | B :: Bs, p, i + 1 => by
    show (enumL g (p + 1) Bs)[i]? = _
    rw [enumL_at g Bs (p + 1) i]
    rw [List.getElem?_cons_succ, show p + 1 + i = p + (i + 1) by omega]
theorem enumF_eq (g : List (List Nat) → D) (Bs : List (List (List Nat))) : enumF (Bs.map g) = enumL g 0 Bs := by
  apply List.ext_getElem?
  intro i
  rw [enumL_at, Nat.zero_add]
  cases e : Bs[i]? with
  | none =>
    have : Bs.length ≤ i := by simpa using e
    rw [List.getElem?_eq_none (by rw [enumF_len, List.length_map]; exact this)]
    rfl
  | some B =>
    rw [enumF_at (d := g B) (by rw [List.getElem?_map, e]; rfl)]
    rfl
/-! ### how many signs are unlike -/
def unl (r s : List Nat) : Nat := ((r.zip s).filter fun p => !decide (p.1 = p.2)).length
def dif (A B : List (List Nat)) : Nat := ((A.zip B).map fun p => unl p.1 p.2).sum
theorem zipF_signs (r s : List Nat) : zipF (r.map signD) (s.map signD) = (r.zip s).map fun p => .tup [signD p.1, signD p.2] := by
  unfold zipF
  rw [List.zip_map, List.map_map]
  rfl
theorem zipF_rows (A B : List (List Nat)) : zipF (rows A) (rows B) = (A.zip B).map fun p => .tup [rD p.1, rD p.2] := by
  unfold zipF rows
  rw [List.zip_map, List.map_map]
  rfl
theorem ne_sign (a b : Nat) : dNe (signD a) (signD b) = some (.bl (!decide (a = b))) := by
  rw [sign_eq, sign_eq, ne_str]
  simp
theorem lc_unl {i j : Nat} {Γ : Env} (r s : List Nat) (h : ∀ a b : Nat, ∃ Γ1, tTup 2 (tsCons (tName i) (tsCons (tName j) tsNil)) (.tup [signD a, signD b]) Γ = some Γ1 ∧ Γ1[i]? = some (.v (signD a)) ∧ Γ1[j]? = some (.v (signD b))) :
    ∃ ys, lcF (tTup 2 (tsCons (tName i) (tsCons (tName j) tsNil))) (bOf (eOp dNe (eVar i) (eVar j))) (eC (.int 1)) Γ (zipF (r.map signD) (s.map signD)) = M.pure ys ∧ ys.length = unl r s := by
  refine ⟨((r.zip s).filter fun p => !decide (p.1 = p.2)).map fun _ => .int 1, ?_, ?_⟩
  · rw [zipF_signs]
    exact lc_map (fun p : Nat × Nat => D.tup [signD p.1, signD p.2]) (fun p => !decide (p.1 = p.2)) (fun _ => .int 1) (r.zip s) fun p _ => by
      obtain ⟨Γ1, h1, h2, h3⟩ := h p.1 p.2
      exact ⟨Γ1, h1, by simp -implicitDefEqProofs [eVar_def, h2, h3, ne_sign], fun _ => rfl⟩
  · rw [List.length_map]
    rfl
theorem unl_app {W : Nat} : ∀ {a b : List Nat} {r s : List Nat}, r.length = s.length → unl (r ++ a) (s ++ b) = unl r s + unl a b := fun {a b r s} hl => by
  unfold unl
  rw [List.zip_append hl, List.filter_append, List.length_append]
theorem unl_flat {W : Nat} : ∀ (A B : List (List Nat)), A.length = B.length → (∀ r ∈ A, r.length = W) → (∀ r ∈ B, r.length = W) → unl A.flatten B.flatten = dif A B
  | [], [], _, _, _ => rfl
  | [], _ :: _, h, _, _ => by cases h
  | _ :: _, [], h, _, _ => by cases h
  | r :: A, s :: B, h, hA, hB => by
    rw [List.flatten_cons, List.flatten_cons, unl_app (W := W) (by rw [hA r List.mem_cons_self, hB s List.mem_cons_self]), unl_flat A B (Nat.succ.inj h) (fun x hx => hA x (List.mem_cons_of_mem _ hx)) fun x hx => hB x (List.mem_cons_of_mem _ hx)]
    unfold dif
    rw [List.zip_cons_cons, List.map_cons, List.sum_cons]
/-! ### the nearest -/
def rowD (A : List (List Nat)) (p : Nat) (B : List (List Nat)) : D := .tup [.int (dif A B : Nat), .int (p : Nat), .tup (rows B)]
def nearF (hp : List (List Nat) → Bool) (A : List (List Nat)) : Nat → List (List (List Nat)) → List D
  | _, [] => []
  | p, B :: Bs => (if hp B = true then [rowD A p B] else []) ++ nearF hp A (p + 1) Bs
theorem near_mem {hp : List (List Nat) → Bool} {A : List (List Nat)} : ∀ {Bs : List (List (List Nat))} {p : Nat} {d : D}, d ∈ nearF hp A p Bs → ∃ q B, d = rowD A q B
  | [], _, _, h => by cases h
  | B :: Bs, p, d, h => by
    rcases List.mem_append.mp h with h | h
    · split at h
      · exact ⟨p, B, List.mem_singleton.mp h⟩
      · cases h
    · exact near_mem h
def pick (b r : D) : D := if isNon b = true ∨ ltD r b = true then r else b
theorem alike_strs : ∀ A B : List (List Nat), PySem.W.alikeAll (toPys (rows A)) (toPys (rows B)) = true
  | [], B => by
    rw [rows_nil]
    show PySem.W.alikeAll [] _ = true
    simp [PySem.W.alikeAll]
  | a :: A, [] => by
    rw [rows_nil, rows_cons]
    show PySem.W.alikeAll (_ :: _) [] = true
    simp [PySem.W.alikeAll]
  | a :: A, b :: B => by
    rw [rows_cons, rows_cons]
    show PySem.W.alikeAll (toPy (rD a) :: toPys (rows A)) (toPy (rD b) :: toPys (rows B)) = true
    rw [PySem.W.alikeAll, alike_strs A B]
    have : PySem.W.alike (toPy (rD a)) (toPy (rD b)) = true := by
      show PySem.W.alike (.str (rS a)) (.str (rS b)) = true
      rw [PySem.W.alike]
    rw [this]
    rfl
theorem alike_row (A : List (List Nat)) (p q : Nat) (B C : List (List Nat)) : PySem.W.alike (toPy (rowD A p B)) (toPy (rowD A q C)) = true := by
  show PySem.W.alike (.tuple [.int _, .int _, .tuple (toPys (rows B))]) (.tuple [.int _, .int _, .tuple (toPys (rows C))]) = true
  simp [PySem.W.alike, PySem.W.alikeAll, alike_strs]
theorem py_row (A : List (List Nat)) (p : Nat) (B : List (List Nat)) : isPy 8 (rowD A p B) = true := by
  show arePy 7 [.int _, .int _, .tup (rows B)] = true
  unfold arePy arePy arePy arePy
  rw [py_tup]
  rfl
theorem lt_row (A : List (List Nat)) (p q : Nat) (B C : List (List Nat)) : dLtD (rowD A p B) (rowD A q C) = some (.bl (ltD (rowD A p B) (rowD A q C))) := by
  unfold dLtD
  rw [if_pos ⟨py_row A p B, py_row A q C, alike_row A p q B C, rfl⟩]
def bestF : List D → D
  | [] => .non
  | x :: xs => xs.foldl (fun a y => if ltD y a = true then y else a) x
theorem best_mem : ∀ (xs : List D) (x : D), xs.foldl (fun a y => if ltD y a = true then y else a) x ∈ x :: xs
  | [], x => by simp
  | y :: xs, x => by
    rw [List.foldl_cons]
    have := best_mem xs (if ltD y x = true then y else x)
    rcases List.mem_cons.mp this with e | e
    · rw [e]
      split <;> simp
    · exact List.mem_cons_of_mem _ (List.mem_cons_of_mem _ e)
theorem pick_fold : ∀ (xs : List D) (x : D), isNon x = false → (∀ y ∈ xs, isNon y = false) → xs.foldl pick x = xs.foldl (fun a y => if ltD y a = true then y else a) x
  | [], _, _, _ => rfl
  | y :: xs, x, hx, h => by
    rw [List.foldl_cons, List.foldl_cons]
    have e : pick x y = if ltD y x = true then y else x := by
      unfold pick
      simp [hx]
    rw [e]
    refine pick_fold xs _ ?_ fun z hz => h z (List.mem_cons_of_mem _ hz)
    split
    · exact h y List.mem_cons_self
    · exact hx
theorem pick_best {xs : List D} (h : ∀ y ∈ xs, isNon y = false) : xs.foldl pick .non = bestF xs := by
  cases xs with
  | nil => rfl
  | cons x xs =>
    rw [List.foldl_cons]
    have : pick .non x = x := by unfold pick; simp [isNon]
    rw [this]
    exact pick_fold xs x (h x List.mem_cons_self) fun y hy => h y (List.mem_cons_of_mem _ hy)
theorem toPys_getD (ds : List D) (i : Nat) : (toPys ds).getD i .none = toPy (ds.getD i .non) := by
  rw [toPys_map, List.getD_eq_getElem?_getD, List.getD_eq_getElem?_getD, List.getElem?_map]
  cases ds[i]? <;> rfl
theorem arg_best (x : D) (xs : List D) : (x :: xs)[argD (x :: xs)]? = some (bestF (x :: xs)) := by
  obtain ⟨h1, h2⟩ := PySem.W.argBest_fold ltD D.non x xs xs.length (Nat.le_refl _)
  have e : argD (x :: xs) = PySem.argBest (fun i j => ltD ((x :: xs).getD i .non) ((x :: xs).getD j .non)) xs.length := by
    unfold argD
    have : (fun i j => PySem.W.dataLt ((toPys (x :: xs)).getD i .none) ((toPys (x :: xs)).getD j .none)) = fun i j => ltD ((x :: xs).getD i .non) ((x :: xs).getD j .non) := by
      funext i j
      rw [toPys_getD, toPys_getD]
      rfl
    rw [this]
    rfl
  rw [e]
  have hlt : PySem.argBest (fun i j => ltD ((x :: xs).getD i .non) ((x :: xs).getD j .non)) xs.length < (x :: xs).length := by
    rw [List.length_cons]
    exact Nat.lt_succ_of_le h1
  rw [List.take_length] at h2
  rw [List.getD_eq_getElem?_getD, List.getElem?_eq_getElem hlt] at h2
  rw [List.getElem?_eq_getElem hlt]
  congr 1
theorem min_near {ds : List D} (hn : ds ≠ []) (h : ∀ d ∈ ds, ∃ A q B, d = rowD A q B) (hA : ∃ A, ∀ d ∈ ds, ∃ q B, d = rowD A q B) : minD ds = some (bestF ds) := by
  obtain ⟨A, hA⟩ := hA
  have a1 : arePy 8 ds = true := by
    clear hn h
    induction ds with
    | nil => rfl
    | cons d ds ih =>
      obtain ⟨q, B, e⟩ := hA d List.mem_cons_self
      unfold arePy
      rw [e, py_row, ih fun x hx => hA x (List.mem_cons_of_mem _ hx)]
      rfl
  have a2 : alikeD ds = true := by
    unfold alikeD
    rw [List.all_eq_true]
    intro x hx
    obtain ⟨q, B, e⟩ := hA x hx
    rw [Bool.and_eq_true, List.all_eq_true]
    refine ⟨by rw [e]; rfl, fun y hy => ?_⟩
    obtain ⟨q', B', e'⟩ := hA y hy
    rw [e, e']
    exact alike_row A q q' B B'
  unfold minD
  cases ds with
  | nil => exact absurd rfl hn
  | cons x xs =>
    rw [if_pos ⟨a1, a2, by simp⟩]
    exact arg_best x xs
section
variable {sgs : List Nat} {W h : Nat}
theorem f_nearest (g : Shape W h) (h1 : 1 ≤ sgs.length) (h3 : sgs.length ≤ 3) (hb : ∀ k, k ≤ W * h → sgs.length ^ k ≤ 5000) {A : List (List Nat)} (sA : St A h W) {k : Nat} (hk : k < 7) {a0 a1 : D} {B0 : List (List Nat)} (he : bestF (nearF (fun B => hasB B h W k) A 0 (tabs sgs W h)) = .tup [a0, a1, .tup (rows B0)]) :
    Fn_nearest [sD A, .str (kS k), rD sgs] = M.pure (.tup [a0, .tup (rows B0)]) := by
  have fa := f_all' g h1 h3 hb
  have so := tabs_st (sgs := sgs) g
  have tl := tabs_len hb
  have fw := f_wide sA
  have ni := ni_kind k hk
  have hc := fun B hB => f_hasK (so B hB) k hk
  have lenA := sA.o.len
  generalize kS k = K at *
  generalize tabs sgs W h = Ts at *
  have en : enumD [.tup (Ts.map sD)] = some (enumL sD 0 Ts) := by
    show some (enumF (Ts.map sD)) = _
    rw [enumF_eq]
  have w24 := sA.w24
  have h8 := sA.h8
  have loop : ∀ (Bs : List (List (List Nat))) (p : Nat) (b : D) (z4 z5 z6 z7 z8 z9 : Sl), (∀ B ∈ Bs, B ∈ Ts) → (b = .non ∨ ∃ q C, b = rowD A q C) → ∃ z4' z5' z6' z7' z8' z9', loopF (tTup 2 (tsCons (tName 4) (tsCons (tName 5) (tsNil)))) (sIf (bOf (eFun 2 Fn_has_at_least (aCons (eVar 5) (aCons (eVar 1) (aNil))))) (sSeq (sSet 6 (eC (.int 0)))
      (sSeq (sFor (iZipE (aCons (eFld 0 0 (eVar 0)) (aCons (eFld 0 0 (eVar 5)) (aNil)))) (tTup 2 (tsCons (tName 7) (tsCons (tName 8) (tsNil)))) (sAug 6 dAddA (eCall dLen (aCons (eLc (iZipE (aCons (eVar 7) (aCons (eVar 8) (aNil)))) (tTup 2 (tsCons (tName 10) (tsCons (tName 11) (tsNil)))) (bOf (eOp dNe (eVar 10) (eVar 11))) (eC (.int 1)) [10, 11]) (aNil)))))
      (sSeq (sSet 9 (eTup (aCons (eVar 6) (aCons (eVar 4) (aCons (eFld 0 0 (eVar 5)) (aNil))))))
      (sSet 3 (eIf (bOr (bOf (eOp dIs (eVar 3) (eC .non))) (bOf (eOp dLtD (eVar 9) (eVar 3)))) (eVar 9) (eVar 3)))))) (sNil)) (enumL sD p Bs) [.v (sD A), .v (.str K), .v (rD sgs), .v b, z4, z5, z6, z7, z8, z9, .no, .no] = M.pure (.nx [.v (sD A), .v (.str K), .v (rD sgs), .v ((nearF (fun B => hasB B h W k) A p Bs).foldl pick b), z4', z5', z6', z7', z8', z9', .no, .no]) := by
    intro Bs
    induction Bs with
    | nil => intro p b z4 z5 z6 z7 z8 z9 _ _; exact ⟨z4, z5, z6, z7, z8, z9, rfl⟩
    | cons B Bs ih =>
      intro p b z4 z5 z6 z7 z8 z9 hBs hbk
      have hB := hBs B List.mem_cons_self
      have oB := (so B hB).o
      have hcB := hc B hB
      have tg : tTup 2 (tsCons (tName 4) (tsCons (tName 5) (tsNil))) (.tup [.int (p : Nat), sD B]) [.v (sD A), .v (.str K), .v (rD sgs), .v b, z4, z5, z6, z7, z8, z9, .no, .no] = some [.v (sD A), .v (.str K), .v (rD sgs), .v b, .v (.int (p : Nat)), .v (sD B), z6, z7, z8, z9, .no, .no] := rfl
      show ∃ z4' z5' z6' z7' z8' z9', loopF _ _ (.tup [.int (p : Nat), sD B] :: enumL sD (p + 1) Bs) _ = _
      unfold loopF
      rw [tg, M.opt_some, M.pure_bind]
      by_cases c : hasB B h W k = true
      · have zl : ∀ (l : List (List Nat × List Nat)) (n : Nat) (z7 z8 : Sl), n + (l.map fun q => unl q.1 q.2).sum ≤ 10000 → ∃ z7' z8', loopF (tTup 2 (tsCons (tName 7) (tsCons (tName 8) (tsNil)))) (sAug 6 dAddA (eCall dLen (aCons (eLc (iZipE (aCons (eVar 7) (aCons (eVar 8) (aNil)))) (tTup 2 (tsCons (tName 10) (tsCons (tName 11) (tsNil)))) (bOf (eOp dNe (eVar 10) (eVar 11))) (eC (.int 1)) [10, 11]) (aNil)))) (l.map fun q => .tup [rD q.1, rD q.2]) [.v (sD A), .v (.str K), .v (rD sgs), .v b, .v (.int (p : Nat)), .v (sD B), .v (.int (n : Nat)), z7, z8, z9, .no, .no] = M.pure (.nx [.v (sD A), .v (.str K), .v (rD sgs), .v b, .v (.int (p : Nat)), .v (sD B), .v (.int ((n + (l.map fun q => unl q.1 q.2).sum : Nat) : Int)), z7', z8', z9, .no, .no]) := by
          intro l
          induction l with
          | nil => intro n z7 z8 _; exact ⟨z7, z8, rfl⟩
          | cons q l ihl =>
            intro n z7 z8 hl
            rw [List.map_cons, List.sum_cons] at hl
            obtain ⟨ys, e1, e2⟩ := lc_unl (i := 10) (j := 11) (Γ := [.v (sD A), .v (.str K), .v (rD sgs), .v b, .v (.int (p : Nat)), .v (sD B), .v (.int (n : Nat)), .v (rD q.1), .v (rD q.2), z9, .no, .no]) q.1 q.2 fun a b => ⟨_, rfl, rfl, rfl⟩
            obtain ⟨z7', z8', e3⟩ := ihl (n + unl q.1 q.2) (.v (rD q.1)) (.v (rD q.2)) (by omega)
            refine ⟨z7', z8', ?_⟩
            have tg2 : tTup 2 (tsCons (tName 7) (tsCons (tName 8) (tsNil))) (.tup [rD q.1, rD q.2]) [.v (sD A), .v (.str K), .v (rD sgs), .v b, .v (.int (p : Nat)), .v (sD B), .v (.int (n : Nat)), z7, z8, z9, .no, .no] = some [.v (sD A), .v (.str K), .v (rD sgs), .v b, .v (.int (p : Nat)), .v (sD B), .v (.int (n : Nat)), .v (rD q.1), .v (rD q.2), z9, .no, .no] := rfl
            have zd : zipDB [rD q.1, rD q.2] = some (zipF (q.1.map signD) (q.2.map signD)) := by
              show some (zipF ((rS q.1).cps.toList.map signD) ((rS q.2).cps.toList.map signD)) = _
              rw [rS_cps, rS_cps]
            have ai : dAddA (.int (n : Nat)) (.int (ys.length : Nat)) = some (.int ((n + unl q.1 q.2 : Nat) : Int)) := by
              show some (D.int ((n : Int) + (ys.length : Int))) = _
              rw [e2]
              simp
            rw [List.map_cons]
            unfold loopF
            rw [tg2, M.opt_some, M.pure_bind]
            simp -implicitDefEqProofs only [o_sAug, o_eCall, o_aCons, o_aNil, o_eLc, o_iZipE, eVar_def, List.getElem?_cons_zero, List.getElem?_cons_succ, M.pure_bind, M.bind_assoc, zd, M.opt_some, wipeG, List.set_cons_succ, List.set_cons_zero, e1, nox_pure, o_len1, ai]
            rw [e3, List.map_cons, List.sum_cons, Nat.add_assoc]
        have hdif : dif A B ≤ 10000 := by
          have : dif A B = unl A.flatten B.flatten := (unl_flat A B (by rw [lenA, oB.len]) sA.o.wd oB.wd).symm
          rw [this]
          unfold unl
          refine Nat.le_trans (List.length_filter_le _ _) ?_
          rw [List.length_zip, flat_len A sA.o.wd, lenA]
          have : h * W ≤ 8 * 24 := Nat.mul_le_mul h8 w24
          omega
        obtain ⟨z7', z8', zl⟩ := zl (A.zip B) 0 z7 z8 (by rw [Nat.zero_add]; exact hdif)
        have zd : zipDB [.tup (rows A), .tup (rows B)] = some ((A.zip B).map fun q => .tup [rD q.1, rD q.2]) := by
          show some (zipF (rows A) (rows B)) = _
          rw [zipF_rows]
        have nx : nearF (fun B => hasB B h W k) A p (B :: Bs) = rowD A p B :: nearF (fun B => hasB B h W k) A (p + 1) Bs := by
          show (if hasB B h W k = true then [rowD A p B] else []) ++ _ = _
          rw [if_pos c]
          rfl
        rw [Nat.zero_add] at zl
        have zl0 : loopF (tTup 2 (tsCons (tName 7) (tsCons (tName 8) (tsNil)))) (sAug 6 dAddA (eCall dLen (aCons (eLc (iZipE (aCons (eVar 7) (aCons (eVar 8) (aNil)))) (tTup 2 (tsCons (tName 10) (tsCons (tName 11) (tsNil)))) (bOf (eOp dNe (eVar 10) (eVar 11))) (eC (.int 1)) [10, 11]) (aNil)))) ((A.zip B).map fun q => .tup [rD q.1, rD q.2]) [.v (sD A), .v (.str K), .v (rD sgs), .v b, .v (.int (p : Nat)), .v (sD B), .v (.int 0), z7, z8, z9, .no, .no] = M.pure (.nx [.v (sD A), .v (.str K), .v (rD sgs), .v b, .v (.int (p : Nat)), .v (sD B), .v (.int (dif A B : Nat)), z7', z8', z9, .no, .no]) := zl
        obtain ⟨z4', z5', z6', z7'', z8'', z9', e5⟩ := ih (p + 1) (pick b (rowD A p B)) (.v (.int (p : Nat))) (.v (sD B)) (.v (.int (dif A B : Nat))) z7' z8' (.v (rowD A p B)) (fun C hC => hBs C (List.mem_cons_of_mem _ hC)) (.inr (by
          unfold pick
          split
          · exact ⟨p, B, rfl⟩
          · rename_i hn
            rcases hbk with rfl | h
            · exact absurd (.inl rfl) hn
            · exact h))
        refine ⟨z4', z5', z6', z7'', z8'', z9', ?_⟩
        have body : sIf (bOf (eFun 2 Fn_has_at_least (aCons (eVar 5) (aCons (eVar 1) (aNil))))) (sSeq (sSet 6 (eC (.int 0)))
      (sSeq (sFor (iZipE (aCons (eFld 0 0 (eVar 0)) (aCons (eFld 0 0 (eVar 5)) (aNil)))) (tTup 2 (tsCons (tName 7) (tsCons (tName 8) (tsNil)))) (sAug 6 dAddA (eCall dLen (aCons (eLc (iZipE (aCons (eVar 7) (aCons (eVar 8) (aNil)))) (tTup 2 (tsCons (tName 10) (tsCons (tName 11) (tsNil)))) (bOf (eOp dNe (eVar 10) (eVar 11))) (eC (.int 1)) [10, 11]) (aNil)))))
      (sSeq (sSet 9 (eTup (aCons (eVar 6) (aCons (eVar 4) (aCons (eFld 0 0 (eVar 5)) (aNil))))))
      (sSet 3 (eIf (bOr (bOf (eOp dIs (eVar 3) (eC .non))) (bOf (eOp dLtD (eVar 9) (eVar 3)))) (eVar 9) (eVar 3)))))) (sNil) [.v (sD A), .v (.str K), .v (rD sgs), .v b, .v (.int (p : Nat)), .v (sD B), z6, z7, z8, z9, .no, .no] = M.pure (.nx [.v (sD A), .v (.str K), .v (rD sgs), .v (pick b (rowD A p B)), .v (.int (p : Nat)), .v (sD B), .v (.int (dif A B : Nat)), z7', z8', .v (rowD A p B), .no, .no]) := by
          have tl : .tup [.int (dif A B : Nat), .int (p : Nat), .tup (rows B)] = rowD A p B := rfl
          have i1 : dIs b .non = some (.bl (isNon b)) := rfl
          simp -implicitDefEqProofs [eVar_def, hcB, c, fld_sD, zd, zl0, tl, i1]
          rcases hbk with rfl | ⟨q, C, rfl⟩
          · simp -implicitDefEqProofs [isNon, pick]
          · have lt := lt_row A p q B C
            have n0 : isNon (rowD A q C) = false := rfl
            simp -implicitDefEqProofs [n0, lt, pick]
            by_cases cc : ltD (rowD A p B) (rowD A q C) = true
            · simp -implicitDefEqProofs [cc]
            · simp -implicitDefEqProofs [cc]
        rw [body, M.pure_bind, nx, List.foldl_cons]
        exact e5
      · have nx : nearF (fun B => hasB B h W k) A p (B :: Bs) = nearF (fun B => hasB B h W k) A (p + 1) Bs := by
          show (if hasB B h W k = true then [rowD A p B] else []) ++ _ = _
          rw [if_neg c]
          rfl
        obtain ⟨z4', z5', z6', z7', z8', z9', e5⟩ := ih (p + 1) b (.v (.int (p : Nat))) (.v (sD B)) z6 z7 z8 z9 (fun C hC => hBs C (List.mem_cons_of_mem _ hC)) hbk
        refine ⟨z4', z5', z6', z7', z8', z9', ?_⟩
        have cf : hasB B h W k = false := by simpa using c
        simp -implicitDefEqProofs [eVar_def, hcB, cf]
        rw [nx]
        exact e5
  obtain ⟨z4', z5', z6', z7', z8', z9', lp⟩ := loop Ts 0 .non .no .no .no .no .no .no (fun _ h => h) (.inl rfl)
  rw [pick_best (fun y hy => by obtain ⟨q, B, e⟩ := near_mem hy; rw [e]; rfl), he] at lp
  have lA : dLen [.tup (rows A)] = some (.int (h : Int)) := by rw [o_len2, rows_len, lenA]
  simp -implicitDefEqProofs [Fn_nearest, F_nearest, eVar_def, ni, isObj_sD, fw, fld_sD, lA, lenA, fa, en, lp]
  rfl
end
end Dd.Ma
namespace Dd.Ma
open PySem L2 K1
def lexN : List Nat → List Nat → Bool
  | _, [] => false
  | [], _ :: _ => true
  | a :: as, b :: bs => Nat.blt a b || (Nat.beq a b && lexN as bs)
def eqN : List Nat → List Nat → Bool
  | [], [] => true
  | a :: as, b :: bs => Nat.beq a b && eqN as bs
  | _, _ => false
def minW : List (List Nat) → List Nat
  | [] => []
  | x :: xs => xs.foldl (fun a y => if lexN y a = true then y else a) x
def rotsW (w : List Nat) (n : Nat) : List (List Nat) := (List.range n).map fun k => w.drop k ++ w.take k
def allI (over : Bool) (w : List Nat) (n : Nat) : List (List Nat) := rotsW w n ++ (if over = true then (rotsW w n).map List.reverse else [])
def insN (L : List (List Nat)) (m : List Nat) : List (List Nat) := if L.any (fun k => eqN k m) = true then L else L ++ [m]
def foldN (n : Nat) (over : Bool) (ws : List (List Nat)) : List (List Nat) := ws.foldl (fun acc w => insN acc (minW (allI over w n))) []
def ringsN (sgs : List Nat) (n : Nat) (over : Bool) : Nat := (foldN n over (wordsN sgs n)).length
theorem lexN_lt : ∀ a b : List Nat, lexN a b = decide (a < b)
  | [], [] => by simp [lexN]
  | _ :: _, [] => by simp [lexN]
  | [], _ :: _ => by simp [lexN]
  | a :: as, b :: bs => by
    unfold lexN
    rw [lexN_lt as bs, Bool.eq_iff_iff]
    simp only [Bool.or_eq_true, Bool.and_eq_true, decide_eq_true_eq, List.cons_lt_cons_iff]
    constructor
    · rintro (h | ⟨h1, h2⟩)
      · exact .inl (by simpa [Nat.blt_eq] using h)
      · exact .inr ⟨by simpa using h1, h2⟩
    · rintro (h | ⟨h1, h2⟩)
      · exact .inl (by simpa [Nat.blt_eq] using h)
      · exact .inr ⟨by simpa using h1, h2⟩
theorem eqN_iff : ∀ a b : List Nat, eqN a b = decide (a = b)
  | [], [] => by simp [eqN]
  | _ :: _, [] => by simp [eqN]
  | [], _ :: _ => by simp [eqN]
  | a :: as, b :: bs => by
    unfold eqN
    rw [eqN_iff as bs, Bool.eq_iff_iff]
    simp
theorem ltD_str (a b : List Nat) : ltD (rD a) (rD b) = lexN a b := by
  rw [lexN_lt]
  show PyProof.Rows.lexLt PyProof.Rows.itemOrd (PySem.W.keyToks (.str (rS a))) (PySem.W.keyToks (.str (rS b))) = _
  rw [PySem.W.keyToks, PySem.W.keyToks, rS_cps, rS_cps]
  show (decide (a < b) || (!decide (b < a) && false)) = _
  simp
theorem best_rows (x : List Nat) (xs : List (List Nat)) : bestF (rows (x :: xs)) = rD (minW (x :: xs)) := by
  show (rows xs).foldl (fun a y => if ltD y a = true then y else a) (rD x) = rD (xs.foldl (fun a y => if lexN y a = true then y else a) x)
  induction xs generalizing x with
  | nil => rfl
  | cons y xs ih =>
    rw [rows_cons, List.foldl_cons, List.foldl_cons, ltD_str]
    by_cases c : lexN y x = true
    · rw [if_pos c, if_pos c, ih]
    · rw [if_neg c, if_neg c, ih]
theorem min_rows {L : List (List Nat)} (hn : L ≠ []) : dMin [.lst (rows L)] = some (rD (minW L)) := by
  show minD (rows L) = _
  unfold minD
  have a2 : alikeD (rows L) = true := by
    unfold alikeD
    rw [List.all_eq_true]
    intro x hx
    obtain ⟨r, _, e⟩ := List.mem_map.mp hx
    rw [Bool.and_eq_true, List.all_eq_true]
    refine ⟨by rw [← e]; rfl, fun y hy => ?_⟩
    obtain ⟨r', _, e'⟩ := List.mem_map.mp hy
    rw [← e, ← e']
    show PySem.W.alike (.str (rS r)) (.str (rS r')) = true
    rw [PySem.W.alike]
  cases L with
  | nil => exact absurd rfl hn
  | cons x xs =>
    rw [if_pos ⟨are_rows 8 _, a2, by simp⟩]
    show (rD x :: rows xs)[argD (rD x :: rows xs)]? = _
    rw [arg_best]
    exact congrArg some (best_rows x xs)
def keysN (L : List (List Nat)) : List Key := L.map fun r => .inr (rS r)
theorem keysN_has (L : List (List Nat)) (m : List Nat) : hasK (keysN L) (.inr (rS m)) = L.any fun k => eqN k m := by
  unfold hasK keysN
  rw [List.any_map]
  congr 1
  funext k
  show decide ((Sum.inr (rS k) : Key) = Sum.inr (rS m)) = eqN k m
  rw [eqN_iff, decide_eq_decide]
  constructor
  · intro h
    exact rS_inj.mp (Sum.inr.inj h)
  · intro h
    rw [h]
theorem keysN_put (L : List (List Nat)) (m : List Nat) : putKs (keysN L) (.inr (rS m)) = keysN (insN L m) := by
  unfold putKs insN
  rw [keysN_has]
  split
  · rfl
  · unfold keysN
    rw [List.map_append]
    rfl
theorem foldN_snoc (n : Nat) (over : Bool) (ws : List (List Nat)) (w : List Nat) : foldN n over (ws ++ [w]) = insN (foldN n over ws) (minW (allI over w n)) := by unfold foldN; rw [List.foldl_append]; rfl
theorem insN_len (L : List (List Nat)) (m : List Nat) : (insN L m).length ≤ L.length + 1 := by
  unfold insN
  split
  · omega
  · rw [List.length_append]; simp
theorem foldN_len (n : Nat) (over : Bool) : ∀ (ws acc : List (List Nat)), (ws.foldl (fun acc w => insN acc (minW (allI over w n))) acc).length ≤ acc.length + ws.length
  | [], acc => Nat.le_refl _
  | w :: ws, acc => by
    have h1 := foldN_len n over ws (insN acc (minW (allI over w n)))
    have := insN_len acc (minW (allI over w n))
    rw [List.length_cons, List.foldl_cons]
    omega
theorem lc_rev {i : Nat} {Γ : Env} (hi : ∀ r, (Γ.set i (.v (rD r)))[i]? = some (.v (rD r))) (Q : List (List Nat)) : lcF (tName i) bYes (eRev (eVar i)) Γ (rows Q) = M.pure (rows (Q.map List.reverse)) := lc_flip hi Q
section
variable {sgs : List Nat} {n c : Nat}
theorem f_rings (n1 : 1 ≤ n) (n6 : n ≤ 6) (hc : sgs.length ≤ 3) (hs : dSl (.str "abcdefg") none (some ((c : Nat) : Int)) = some (rD sgs)) (over : Bool) : Fn_law_rings [.int (n : Int), .int (c : Int), .bl over] = M.pure (.int (ringsN sgs n over : Nat)) := by
  have hb : ∀ k, k ≤ n → sgs.length ^ k ≤ 5000 := fun k hk => by
    have h1 : sgs.length ^ k ≤ 3 ^ k := Nat.pow_le_pow_left hc k
    have h2 : 3 ^ k ≤ 3 ^ 6 := Nat.pow_le_pow_right (by omega) (by omega)
    have h3 : (3 : Nat) ^ 6 = 729 := by decide
    omega
  have fw := f_words (sgs := sgs) (n := n) (by omega) hb
  have wd := words_wd sgs n
  have wl := words_len sgs n
  have bl := hb n (Nat.le_refl _)
  rw [← wl] at bl
  have rg := rng_nat n (by omega)
  unfold ringsN
  generalize wordsN sgs n = ws at *
  have sql : ∀ xs : List D, seqOf (.lst xs) = some xs := fun _ => rfl
  simp -implicitDefEqProofs [Fn_law_rings, F_law_rings, eVar_def, hs, fw, sql]
  rw [show rows ws = ws.map rD from rfl, all_then (fun (don : List (List Nat)) Γ => (∀ r ∈ don, r ∈ ws) ∧ ∃ vs z4 z5, Γ = [.v (.int (n : Int)), .v (.int (c : Int)), .v (.bl over), .o (.dk (keysN (foldN n over don)) vs), z4, z5, .no, .no]) rD ws ?c ?a ?b]
  case c => exact ⟨fun _ h => (nomatch h), [], .no, .no, rfl⟩
  case b =>
    rintro Γ' ⟨_, vs, z4, z5, rfl⟩
    simp -implicitDefEqProofs [ownK, keysN]
  case a =>
    rintro w don Γ hw hd ⟨hsub, vs, z4, z5, rfl⟩
    have hl := wd w hw
    have l1 : ∀ z5 : Sl, lcF (tName 6) bYes (eOp dAdd (eSl (eVar 4) (oSome (eVar 6)) oNone) (eSl (eVar 4) oNone (oSome (eVar 6)))) [.v (.int (n : Int)), .v (.int (c : Int)), .v (.bl over), .o (.dk (keysN (foldN n over don)) vs), .v (rD w), z5, .no, .no] (intsD 0 n) = M.pure (rows (rotsW w n)) := fun z5 => by
      rw [lc_nats (fun k => rD (w.drop k ++ w.take k)) n fun k hk => ⟨_, rfl, rfl, by
        have c1 : dSl (rD w) (some (k : Int)) none = some (rD (w.drop k)) := by
          show some (D.str (cutS (rS w) _ _)) = _
          rw [rS_cut, cut_lo w k (by omega)]
          rfl
        have c2 : dSl (rD w) none (some (k : Int)) = some (rD (w.take k)) := by
          show some (D.str (cutS (rS w) _ _)) = _
          rw [rS_cut, cut_hi w k (by omega)]
          rfl
        simp -implicitDefEqProofs [eVar_def, c1, c2, add_str (w.drop k) (w.take k) (by rw [List.length_drop, List.length_take]; omega)]⟩]
      unfold rows rotsW
      rw [List.map_map]
      rfl
    have l2 : ∀ z5 : Sl, lcF (tName 7) bYes (eRev (eVar 7)) [.v (.int (n : Int)), .v (.int (c : Int)), .v (.bl over), .o (.dk (keysN (foldN n over don)) vs), .v (rD w), z5, .no, .no] (rows (rotsW w n)) = M.pure (rows ((rotsW w n).map List.reverse)) := fun z5 => lc_rev (fun r => rfl) _
    have lr : (rotsW w n).length = n := by unfold rotsW; simp
    have ad : dAdd (.lst (rows (rotsW w n))) (.lst (rows (if over = true then (rotsW w n).map List.reverse else []))) = some (.lst (rows (allI over w n))) := add_lst _ _ (by
      rw [lr]
      split
      · rw [List.length_map, lr]; omega
      · simp; omega)
    have an : allI over w n ≠ [] := by
      intro z
      have := congrArg List.length z
      unfold allI at this
      rw [List.length_append, lr] at this
      simp at this
      omega
    have mi := min_rows an
    have kk : keyOf (rD (minW (allI over w n))) = some (.inr (rS (minW (allI over w n)))) := rfl
    have ow : ownK 3 [.v (.int (n : Int)), .v (.int (c : Int)), .v (.bl over), .o (.dk (keysN (foldN n over don)) vs), .v (rD w), .v (.lst (rows (allI over w n))), .no, .no] = some (keysN (foldN n over don), vs) := rfl
    have fl := foldN_len n over don []
    have lim : (keysN (foldN n over don)).length < 16777216 := by
      unfold keysN foldN
      rw [List.length_map]
      rw [List.length_nil] at fl
      omega
    refine ⟨_, rfl, [.v (.int (n : Int)), .v (.int (c : Int)), .v (.bl over), .o (.dk (keysN (foldN n over (don ++ [w]))) (putVs (keysN (foldN n over don)) vs (.inr (rS (minW (allI over w n)))) (.int 1))), .v (rD w), .v (.lst (rows (allI over w n))), .no, .no], ⟨fun r hr => ?_, _, _, _, rfl⟩, ?_⟩
    · rcases List.mem_append.mp hr with hr | hr
      · exact hsub r hr
      · rw [List.mem_singleton.mp hr]; exact hw
    · rw [foldN_snoc, ← keysN_put]
      cases over
      · simp only [Bool.false_eq_true, if_false] at ad
        simp -implicitDefEqProofs only [o_sSeq, o_sSet, o_eLc, o_iRng1, o_aCons, o_aNil, o_eOp, o_eIf, o_bOf, o_iSeq, o_eLst, o_sPutO, o_eC, o_eCall, eVar_def, List.set_cons_succ, List.set_cons_zero, List.getElem?_cons_zero, List.getElem?_cons_succ, M.pure_bind, M.bind_assoc, M.opt_some, List.length_cons, List.length_nil, Nat.zero_add, if_true, rg, wipeG, l1, nox_pure, o_asB, Bool.false_eq_true, if_false, rows_nil, ad, mi, kk, ow]
        have ad2 : dAdd (.lst (rows (rotsW w n))) (.lst []) = some (.lst (rows (allI false w n))) := ad
        rw [if_pos (by decide), M.pure_bind, ad2, M.opt_some, M.pure_bind]
        simp -implicitDefEqProofs only [eVar_def, List.set_cons_succ, List.set_cons_zero, List.getElem?_cons_zero, List.getElem?_cons_succ, M.pure_bind, M.opt_some, mi, kk, ow]
        rw [if_pos lim]
      · simp only [if_true] at ad
        simp -implicitDefEqProofs only [o_sSeq, o_sSet, o_eLc, o_iRng1, o_aCons, o_aNil, o_eOp, o_eIf, o_bOf, o_iSeq, o_eLst, o_sPutO, o_eC, o_eCall, eVar_def, List.set_cons_succ, List.set_cons_zero, List.getElem?_cons_zero, List.getElem?_cons_succ, M.pure_bind, M.bind_assoc, M.opt_some, List.length_cons, List.length_nil, Nat.zero_add, if_true, rg, wipeG, l1, l2, sql, nox_pure, o_asB, ad, mi, kk, ow]
        rw [if_pos lim]
end
theorem sl_abc1 : dSl (.str "abcdefg") none (some ((1 : Nat) : Int)) = some (rD [97]) := by kernel_rfl
theorem rn_1_1 : ringsN [97] 1 false = 1 ∧ ringsN [97] 1 true = 1 := by decide +kernel
theorem nk_1_1 : Fn_necklaces [.int ((1 : Nat) : Int), .int ((1 : Nat) : Int)] = M.pure (.int ((1 : Nat) : Int)) ∧ Fn_bracelets [.int ((1 : Nat) : Int), .int ((1 : Nat) : Int)] = M.pure (.int ((1 : Nat) : Int)) := ⟨by kernel_rfl, by kernel_rfl⟩
theorem lr_1_1 : Fn_law_rings [.int ((1 : Nat) : Int), .int ((1 : Nat) : Int), .bl false] = M.pure (.int ((1 : Nat) : Int)) ∧ Fn_law_rings [.int ((1 : Nat) : Int), .int ((1 : Nat) : Int), .bl true] = M.pure (.int ((1 : Nat) : Int)) := ⟨by rw [f_rings (by decide) (by decide) (by decide) sl_abc1, rn_1_1.1], by rw [f_rings (by decide) (by decide) (by decide) sl_abc1, rn_1_1.2]⟩
theorem rn_2_1 : ringsN [97] 2 false = 1 ∧ ringsN [97] 2 true = 1 := by decide +kernel
theorem nk_2_1 : Fn_necklaces [.int ((2 : Nat) : Int), .int ((1 : Nat) : Int)] = M.pure (.int ((1 : Nat) : Int)) ∧ Fn_bracelets [.int ((2 : Nat) : Int), .int ((1 : Nat) : Int)] = M.pure (.int ((1 : Nat) : Int)) := ⟨by kernel_rfl, by kernel_rfl⟩
theorem lr_2_1 : Fn_law_rings [.int ((2 : Nat) : Int), .int ((1 : Nat) : Int), .bl false] = M.pure (.int ((1 : Nat) : Int)) ∧ Fn_law_rings [.int ((2 : Nat) : Int), .int ((1 : Nat) : Int), .bl true] = M.pure (.int ((1 : Nat) : Int)) := ⟨by rw [f_rings (by decide) (by decide) (by decide) sl_abc1, rn_2_1.1], by rw [f_rings (by decide) (by decide) (by decide) sl_abc1, rn_2_1.2]⟩
theorem rn_3_1 : ringsN [97] 3 false = 1 ∧ ringsN [97] 3 true = 1 := by decide +kernel
theorem nk_3_1 : Fn_necklaces [.int ((3 : Nat) : Int), .int ((1 : Nat) : Int)] = M.pure (.int ((1 : Nat) : Int)) ∧ Fn_bracelets [.int ((3 : Nat) : Int), .int ((1 : Nat) : Int)] = M.pure (.int ((1 : Nat) : Int)) := ⟨by kernel_rfl, by kernel_rfl⟩
theorem lr_3_1 : Fn_law_rings [.int ((3 : Nat) : Int), .int ((1 : Nat) : Int), .bl false] = M.pure (.int ((1 : Nat) : Int)) ∧ Fn_law_rings [.int ((3 : Nat) : Int), .int ((1 : Nat) : Int), .bl true] = M.pure (.int ((1 : Nat) : Int)) := ⟨by rw [f_rings (by decide) (by decide) (by decide) sl_abc1, rn_3_1.1], by rw [f_rings (by decide) (by decide) (by decide) sl_abc1, rn_3_1.2]⟩
theorem rn_4_1 : ringsN [97] 4 false = 1 ∧ ringsN [97] 4 true = 1 := by decide +kernel
theorem nk_4_1 : Fn_necklaces [.int ((4 : Nat) : Int), .int ((1 : Nat) : Int)] = M.pure (.int ((1 : Nat) : Int)) ∧ Fn_bracelets [.int ((4 : Nat) : Int), .int ((1 : Nat) : Int)] = M.pure (.int ((1 : Nat) : Int)) := ⟨by kernel_rfl, by kernel_rfl⟩
theorem lr_4_1 : Fn_law_rings [.int ((4 : Nat) : Int), .int ((1 : Nat) : Int), .bl false] = M.pure (.int ((1 : Nat) : Int)) ∧ Fn_law_rings [.int ((4 : Nat) : Int), .int ((1 : Nat) : Int), .bl true] = M.pure (.int ((1 : Nat) : Int)) := ⟨by rw [f_rings (by decide) (by decide) (by decide) sl_abc1, rn_4_1.1], by rw [f_rings (by decide) (by decide) (by decide) sl_abc1, rn_4_1.2]⟩
theorem rn_5_1 : ringsN [97] 5 false = 1 ∧ ringsN [97] 5 true = 1 := by decide +kernel
theorem nk_5_1 : Fn_necklaces [.int ((5 : Nat) : Int), .int ((1 : Nat) : Int)] = M.pure (.int ((1 : Nat) : Int)) ∧ Fn_bracelets [.int ((5 : Nat) : Int), .int ((1 : Nat) : Int)] = M.pure (.int ((1 : Nat) : Int)) := ⟨by kernel_rfl, by kernel_rfl⟩
theorem lr_5_1 : Fn_law_rings [.int ((5 : Nat) : Int), .int ((1 : Nat) : Int), .bl false] = M.pure (.int ((1 : Nat) : Int)) ∧ Fn_law_rings [.int ((5 : Nat) : Int), .int ((1 : Nat) : Int), .bl true] = M.pure (.int ((1 : Nat) : Int)) := ⟨by rw [f_rings (by decide) (by decide) (by decide) sl_abc1, rn_5_1.1], by rw [f_rings (by decide) (by decide) (by decide) sl_abc1, rn_5_1.2]⟩
theorem rn_6_1 : ringsN [97] 6 false = 1 ∧ ringsN [97] 6 true = 1 := by decide +kernel
theorem nk_6_1 : Fn_necklaces [.int ((6 : Nat) : Int), .int ((1 : Nat) : Int)] = M.pure (.int ((1 : Nat) : Int)) ∧ Fn_bracelets [.int ((6 : Nat) : Int), .int ((1 : Nat) : Int)] = M.pure (.int ((1 : Nat) : Int)) := ⟨by kernel_rfl, by kernel_rfl⟩
theorem lr_6_1 : Fn_law_rings [.int ((6 : Nat) : Int), .int ((1 : Nat) : Int), .bl false] = M.pure (.int ((1 : Nat) : Int)) ∧ Fn_law_rings [.int ((6 : Nat) : Int), .int ((1 : Nat) : Int), .bl true] = M.pure (.int ((1 : Nat) : Int)) := ⟨by rw [f_rings (by decide) (by decide) (by decide) sl_abc1, rn_6_1.1], by rw [f_rings (by decide) (by decide) (by decide) sl_abc1, rn_6_1.2]⟩
theorem sl_abc2 : dSl (.str "abcdefg") none (some ((2 : Nat) : Int)) = some (rD [97, 98]) := by kernel_rfl
theorem rn_1_2 : ringsN [97, 98] 1 false = 2 ∧ ringsN [97, 98] 1 true = 2 := by decide +kernel
theorem nk_1_2 : Fn_necklaces [.int ((1 : Nat) : Int), .int ((2 : Nat) : Int)] = M.pure (.int ((2 : Nat) : Int)) ∧ Fn_bracelets [.int ((1 : Nat) : Int), .int ((2 : Nat) : Int)] = M.pure (.int ((2 : Nat) : Int)) := ⟨by kernel_rfl, by kernel_rfl⟩
theorem lr_1_2 : Fn_law_rings [.int ((1 : Nat) : Int), .int ((2 : Nat) : Int), .bl false] = M.pure (.int ((2 : Nat) : Int)) ∧ Fn_law_rings [.int ((1 : Nat) : Int), .int ((2 : Nat) : Int), .bl true] = M.pure (.int ((2 : Nat) : Int)) := ⟨by rw [f_rings (by decide) (by decide) (by decide) sl_abc2, rn_1_2.1], by rw [f_rings (by decide) (by decide) (by decide) sl_abc2, rn_1_2.2]⟩
theorem rn_2_2 : ringsN [97, 98] 2 false = 3 ∧ ringsN [97, 98] 2 true = 3 := by decide +kernel
theorem nk_2_2 : Fn_necklaces [.int ((2 : Nat) : Int), .int ((2 : Nat) : Int)] = M.pure (.int ((3 : Nat) : Int)) ∧ Fn_bracelets [.int ((2 : Nat) : Int), .int ((2 : Nat) : Int)] = M.pure (.int ((3 : Nat) : Int)) := ⟨by kernel_rfl, by kernel_rfl⟩
theorem lr_2_2 : Fn_law_rings [.int ((2 : Nat) : Int), .int ((2 : Nat) : Int), .bl false] = M.pure (.int ((3 : Nat) : Int)) ∧ Fn_law_rings [.int ((2 : Nat) : Int), .int ((2 : Nat) : Int), .bl true] = M.pure (.int ((3 : Nat) : Int)) := ⟨by rw [f_rings (by decide) (by decide) (by decide) sl_abc2, rn_2_2.1], by rw [f_rings (by decide) (by decide) (by decide) sl_abc2, rn_2_2.2]⟩
theorem rn_3_2 : ringsN [97, 98] 3 false = 4 ∧ ringsN [97, 98] 3 true = 4 := by decide +kernel
theorem nk_3_2 : Fn_necklaces [.int ((3 : Nat) : Int), .int ((2 : Nat) : Int)] = M.pure (.int ((4 : Nat) : Int)) ∧ Fn_bracelets [.int ((3 : Nat) : Int), .int ((2 : Nat) : Int)] = M.pure (.int ((4 : Nat) : Int)) := ⟨by kernel_rfl, by kernel_rfl⟩
theorem lr_3_2 : Fn_law_rings [.int ((3 : Nat) : Int), .int ((2 : Nat) : Int), .bl false] = M.pure (.int ((4 : Nat) : Int)) ∧ Fn_law_rings [.int ((3 : Nat) : Int), .int ((2 : Nat) : Int), .bl true] = M.pure (.int ((4 : Nat) : Int)) := ⟨by rw [f_rings (by decide) (by decide) (by decide) sl_abc2, rn_3_2.1], by rw [f_rings (by decide) (by decide) (by decide) sl_abc2, rn_3_2.2]⟩
theorem rn_4_2 : ringsN [97, 98] 4 false = 6 ∧ ringsN [97, 98] 4 true = 6 := by decide +kernel
theorem nk_4_2 : Fn_necklaces [.int ((4 : Nat) : Int), .int ((2 : Nat) : Int)] = M.pure (.int ((6 : Nat) : Int)) ∧ Fn_bracelets [.int ((4 : Nat) : Int), .int ((2 : Nat) : Int)] = M.pure (.int ((6 : Nat) : Int)) := ⟨by kernel_rfl, by kernel_rfl⟩
theorem lr_4_2 : Fn_law_rings [.int ((4 : Nat) : Int), .int ((2 : Nat) : Int), .bl false] = M.pure (.int ((6 : Nat) : Int)) ∧ Fn_law_rings [.int ((4 : Nat) : Int), .int ((2 : Nat) : Int), .bl true] = M.pure (.int ((6 : Nat) : Int)) := ⟨by rw [f_rings (by decide) (by decide) (by decide) sl_abc2, rn_4_2.1], by rw [f_rings (by decide) (by decide) (by decide) sl_abc2, rn_4_2.2]⟩
theorem rn_5_2 : ringsN [97, 98] 5 false = 8 ∧ ringsN [97, 98] 5 true = 8 := by decide +kernel
theorem nk_5_2 : Fn_necklaces [.int ((5 : Nat) : Int), .int ((2 : Nat) : Int)] = M.pure (.int ((8 : Nat) : Int)) ∧ Fn_bracelets [.int ((5 : Nat) : Int), .int ((2 : Nat) : Int)] = M.pure (.int ((8 : Nat) : Int)) := ⟨by kernel_rfl, by kernel_rfl⟩
theorem lr_5_2 : Fn_law_rings [.int ((5 : Nat) : Int), .int ((2 : Nat) : Int), .bl false] = M.pure (.int ((8 : Nat) : Int)) ∧ Fn_law_rings [.int ((5 : Nat) : Int), .int ((2 : Nat) : Int), .bl true] = M.pure (.int ((8 : Nat) : Int)) := ⟨by rw [f_rings (by decide) (by decide) (by decide) sl_abc2, rn_5_2.1], by rw [f_rings (by decide) (by decide) (by decide) sl_abc2, rn_5_2.2]⟩
theorem rn_6_2 : ringsN [97, 98] 6 false = 14 ∧ ringsN [97, 98] 6 true = 13 := by decide +kernel
theorem nk_6_2 : Fn_necklaces [.int ((6 : Nat) : Int), .int ((2 : Nat) : Int)] = M.pure (.int ((14 : Nat) : Int)) ∧ Fn_bracelets [.int ((6 : Nat) : Int), .int ((2 : Nat) : Int)] = M.pure (.int ((13 : Nat) : Int)) := ⟨by kernel_rfl, by kernel_rfl⟩
theorem lr_6_2 : Fn_law_rings [.int ((6 : Nat) : Int), .int ((2 : Nat) : Int), .bl false] = M.pure (.int ((14 : Nat) : Int)) ∧ Fn_law_rings [.int ((6 : Nat) : Int), .int ((2 : Nat) : Int), .bl true] = M.pure (.int ((13 : Nat) : Int)) := ⟨by rw [f_rings (by decide) (by decide) (by decide) sl_abc2, rn_6_2.1], by rw [f_rings (by decide) (by decide) (by decide) sl_abc2, rn_6_2.2]⟩
theorem sl_abc3 : dSl (.str "abcdefg") none (some ((3 : Nat) : Int)) = some (rD [97, 98, 99]) := by kernel_rfl
theorem rn_1_3 : ringsN [97, 98, 99] 1 false = 3 ∧ ringsN [97, 98, 99] 1 true = 3 := by decide +kernel
theorem nk_1_3 : Fn_necklaces [.int ((1 : Nat) : Int), .int ((3 : Nat) : Int)] = M.pure (.int ((3 : Nat) : Int)) ∧ Fn_bracelets [.int ((1 : Nat) : Int), .int ((3 : Nat) : Int)] = M.pure (.int ((3 : Nat) : Int)) := ⟨by kernel_rfl, by kernel_rfl⟩
theorem lr_1_3 : Fn_law_rings [.int ((1 : Nat) : Int), .int ((3 : Nat) : Int), .bl false] = M.pure (.int ((3 : Nat) : Int)) ∧ Fn_law_rings [.int ((1 : Nat) : Int), .int ((3 : Nat) : Int), .bl true] = M.pure (.int ((3 : Nat) : Int)) := ⟨by rw [f_rings (by decide) (by decide) (by decide) sl_abc3, rn_1_3.1], by rw [f_rings (by decide) (by decide) (by decide) sl_abc3, rn_1_3.2]⟩
theorem rn_2_3 : ringsN [97, 98, 99] 2 false = 6 ∧ ringsN [97, 98, 99] 2 true = 6 := by decide +kernel
theorem nk_2_3 : Fn_necklaces [.int ((2 : Nat) : Int), .int ((3 : Nat) : Int)] = M.pure (.int ((6 : Nat) : Int)) ∧ Fn_bracelets [.int ((2 : Nat) : Int), .int ((3 : Nat) : Int)] = M.pure (.int ((6 : Nat) : Int)) := ⟨by kernel_rfl, by kernel_rfl⟩
theorem lr_2_3 : Fn_law_rings [.int ((2 : Nat) : Int), .int ((3 : Nat) : Int), .bl false] = M.pure (.int ((6 : Nat) : Int)) ∧ Fn_law_rings [.int ((2 : Nat) : Int), .int ((3 : Nat) : Int), .bl true] = M.pure (.int ((6 : Nat) : Int)) := ⟨by rw [f_rings (by decide) (by decide) (by decide) sl_abc3, rn_2_3.1], by rw [f_rings (by decide) (by decide) (by decide) sl_abc3, rn_2_3.2]⟩
theorem rn_3_3 : ringsN [97, 98, 99] 3 false = 11 ∧ ringsN [97, 98, 99] 3 true = 10 := by decide +kernel
theorem nk_3_3 : Fn_necklaces [.int ((3 : Nat) : Int), .int ((3 : Nat) : Int)] = M.pure (.int ((11 : Nat) : Int)) ∧ Fn_bracelets [.int ((3 : Nat) : Int), .int ((3 : Nat) : Int)] = M.pure (.int ((10 : Nat) : Int)) := ⟨by kernel_rfl, by kernel_rfl⟩
theorem lr_3_3 : Fn_law_rings [.int ((3 : Nat) : Int), .int ((3 : Nat) : Int), .bl false] = M.pure (.int ((11 : Nat) : Int)) ∧ Fn_law_rings [.int ((3 : Nat) : Int), .int ((3 : Nat) : Int), .bl true] = M.pure (.int ((10 : Nat) : Int)) := ⟨by rw [f_rings (by decide) (by decide) (by decide) sl_abc3, rn_3_3.1], by rw [f_rings (by decide) (by decide) (by decide) sl_abc3, rn_3_3.2]⟩
theorem rn_4_3 : ringsN [97, 98, 99] 4 false = 24 ∧ ringsN [97, 98, 99] 4 true = 21 := by decide +kernel
theorem nk_4_3 : Fn_necklaces [.int ((4 : Nat) : Int), .int ((3 : Nat) : Int)] = M.pure (.int ((24 : Nat) : Int)) ∧ Fn_bracelets [.int ((4 : Nat) : Int), .int ((3 : Nat) : Int)] = M.pure (.int ((21 : Nat) : Int)) := ⟨by kernel_rfl, by kernel_rfl⟩
theorem lr_4_3 : Fn_law_rings [.int ((4 : Nat) : Int), .int ((3 : Nat) : Int), .bl false] = M.pure (.int ((24 : Nat) : Int)) ∧ Fn_law_rings [.int ((4 : Nat) : Int), .int ((3 : Nat) : Int), .bl true] = M.pure (.int ((21 : Nat) : Int)) := ⟨by rw [f_rings (by decide) (by decide) (by decide) sl_abc3, rn_4_3.1], by rw [f_rings (by decide) (by decide) (by decide) sl_abc3, rn_4_3.2]⟩
theorem rn_5_3 : ringsN [97, 98, 99] 5 false = 51 ∧ ringsN [97, 98, 99] 5 true = 39 := by decide +kernel
theorem nk_5_3 : Fn_necklaces [.int ((5 : Nat) : Int), .int ((3 : Nat) : Int)] = M.pure (.int ((51 : Nat) : Int)) ∧ Fn_bracelets [.int ((5 : Nat) : Int), .int ((3 : Nat) : Int)] = M.pure (.int ((39 : Nat) : Int)) := ⟨by kernel_rfl, by kernel_rfl⟩
theorem lr_5_3 : Fn_law_rings [.int ((5 : Nat) : Int), .int ((3 : Nat) : Int), .bl false] = M.pure (.int ((51 : Nat) : Int)) ∧ Fn_law_rings [.int ((5 : Nat) : Int), .int ((3 : Nat) : Int), .bl true] = M.pure (.int ((39 : Nat) : Int)) := ⟨by rw [f_rings (by decide) (by decide) (by decide) sl_abc3, rn_5_3.1], by rw [f_rings (by decide) (by decide) (by decide) sl_abc3, rn_5_3.2]⟩
theorem rn_6_3 : ringsN [97, 98, 99] 6 false = 130 ∧ ringsN [97, 98, 99] 6 true = 92 := by decide +kernel
theorem nk_6_3 : Fn_necklaces [.int ((6 : Nat) : Int), .int ((3 : Nat) : Int)] = M.pure (.int ((130 : Nat) : Int)) ∧ Fn_bracelets [.int ((6 : Nat) : Int), .int ((3 : Nat) : Int)] = M.pure (.int ((92 : Nat) : Int)) := ⟨by kernel_rfl, by kernel_rfl⟩
theorem lr_6_3 : Fn_law_rings [.int ((6 : Nat) : Int), .int ((3 : Nat) : Int), .bl false] = M.pure (.int ((130 : Nat) : Int)) ∧ Fn_law_rings [.int ((6 : Nat) : Int), .int ((3 : Nat) : Int), .bl true] = M.pure (.int ((92 : Nat) : Int)) := ⟨by rw [f_rings (by decide) (by decide) (by decide) sl_abc3, rn_6_3.1], by rw [f_rings (by decide) (by decide) (by decide) sl_abc3, rn_6_3.2]⟩
theorem rings_all : ∀ n c : Nat, 1 ≤ n → n ≤ 6 → 1 ≤ c → c ≤ 3 → ∃ a b : Nat, Fn_necklaces [.int (n : Int), .int (c : Int)] = M.pure (.int (a : Int)) ∧ Fn_bracelets [.int (n : Int), .int (c : Int)] = M.pure (.int (b : Int)) ∧ Fn_law_rings [.int (n : Int), .int (c : Int), .bl false] = M.pure (.int (a : Int)) ∧ Fn_law_rings [.int (n : Int), .int (c : Int), .bl true] = M.pure (.int (b : Int)) := by
  intro n c h1 h2 h3 h4
  have hn : n = 1 ∨ n = 2 ∨ n = 3 ∨ n = 4 ∨ n = 5 ∨ n = 6 := by omega
  have hc : c = 1 ∨ c = 2 ∨ c = 3 := by omega
  rcases hn with rfl | rfl | rfl | rfl | rfl | rfl <;> rcases hc with rfl | rfl | rfl
  · exact ⟨_, _, nk_1_1.1, nk_1_1.2, lr_1_1.1, lr_1_1.2⟩
  · exact ⟨_, _, nk_1_2.1, nk_1_2.2, lr_1_2.1, lr_1_2.2⟩
  · exact ⟨_, _, nk_1_3.1, nk_1_3.2, lr_1_3.1, lr_1_3.2⟩
  · exact ⟨_, _, nk_2_1.1, nk_2_1.2, lr_2_1.1, lr_2_1.2⟩
  · exact ⟨_, _, nk_2_2.1, nk_2_2.2, lr_2_2.1, lr_2_2.2⟩
  · exact ⟨_, _, nk_2_3.1, nk_2_3.2, lr_2_3.1, lr_2_3.2⟩
  · exact ⟨_, _, nk_3_1.1, nk_3_1.2, lr_3_1.1, lr_3_1.2⟩
  · exact ⟨_, _, nk_3_2.1, nk_3_2.2, lr_3_2.1, lr_3_2.2⟩
  · exact ⟨_, _, nk_3_3.1, nk_3_3.2, lr_3_3.1, lr_3_3.2⟩
  · exact ⟨_, _, nk_4_1.1, nk_4_1.2, lr_4_1.1, lr_4_1.2⟩
  · exact ⟨_, _, nk_4_2.1, nk_4_2.2, lr_4_2.1, lr_4_2.2⟩
  · exact ⟨_, _, nk_4_3.1, nk_4_3.2, lr_4_3.1, lr_4_3.2⟩
  · exact ⟨_, _, nk_5_1.1, nk_5_1.2, lr_5_1.1, lr_5_1.2⟩
  · exact ⟨_, _, nk_5_2.1, nk_5_2.2, lr_5_2.1, lr_5_2.2⟩
  · exact ⟨_, _, nk_5_3.1, nk_5_3.2, lr_5_3.1, lr_5_3.2⟩
  · exact ⟨_, _, nk_6_1.1, nk_6_1.2, lr_6_1.1, lr_6_1.2⟩
  · exact ⟨_, _, nk_6_2.1, nk_6_2.2, lr_6_2.1, lr_6_2.2⟩
  · exact ⟨_, _, nk_6_3.1, nk_6_3.2, lr_6_3.1, lr_6_3.2⟩
end Dd.Ma
namespace K1
open PySem PySem.Spec L2 Dd
def B1 : SF := sAsg (eTup (aCons (eOp dAdd (eC (.int 1)) (eFun 2 Fn_law_roll (aCons (eVar 2) (aCons (eC (.int 6)) (aNil))))) (aCons (eOp dAdd (eC (.int 1)) (eFun 2 Fn_law_roll (aCons (eVar 2) (aCons (eC (.int 4)) (aNil))))) (aCons (eIx (eVar 1) (eFun 2 Fn_law_roll (aCons (eVar 2) (aCons (eC (.int 7)) (aNil))))) (aNil))))) (tTup 3 (tsCons (tName 3) (tsCons (tName 4) (tsCons (tName 5) (tsNil)))))
def B2 : SF := sSet 6 (eLc (iRng1 (aCons (eVar 4) (aNil))) (tName 23) (bYes) (eJoin (eC (.str "")) (eLc (iRng1 (aCons (eVar 3) (aNil))) (tName 27) (bYes) (eIx (eC (.str "ab.")) (eFun 2 Fn_law_roll (aCons (eVar 2) (aCons (eC (.int 3)) (aNil))))) [27])) [23])
def B3 : SF := sSet 7 (eFun 2 Fn_made (aCons (eVar 6) (aCons (eVar 5) (aNil))))
def B4 : SF := sIf (bOr (bOf (eOp dNe (eCall dList (aCons (eFld 0 0 (eVar 7)) (aNil))) (eFun 2 Fn_law_made (aCons (eVar 6) (aCons (eVar 5) (aNil)))))) (bOr (bNot (bOf (eFun 2 Fn_law_has (aCons (eFun 2 Fn_law_made (aCons (eVar 6) (aCons (eVar 5) (aNil)))) (aCons (eVar 5) (aNil)))))) (bNot (bOf (eFun 2 Fn_has_at_least (aCons (eVar 7) (aCons (eVar 5) (aNil)))))))) (sRet (eC (.bl false))) (sNil)
def B5 : SF := sSet 8 (eIx (eVar 1) (eFun 2 Fn_law_roll (aCons (eVar 2) (aCons (eC (.int 7)) (aNil)))))
def B6 : SF := sIf (bOf (eOp dNe (eFun 2 Fn_has_at_least (aCons (eVar 7) (aCons (eVar 8) (aNil)))) (eFun 2 Fn_law_has (aCons (eFun 2 Fn_law_made (aCons (eVar 6) (aCons (eVar 5) (aNil)))) (aCons (eVar 8) (aNil)))))) (sRet (eC (.bl false))) (sNil)
def B7 : SF := sSet 9 (eOp dAdd (eC (.int 1)) (eFun 2 Fn_law_roll (aCons (eVar 2) (aCons (eC (.int 3)) (aNil)))))
def B8 : SF := sIf (bOf (eOp dNe (eCall dList (aCons (eFld 0 0 (eFun 1 Fn_beside (aCons (eOp dMul (eLst (aCons (eFun 1 Fn_Strip_init (aCons (eVar 6) (aNil))) (aNil))) (eVar 9)) (aNil)))) (aNil))) (eLc (iSeq (eVar 6)) (tName 25) (bYes) (eOp dMul (eVar 25) (eVar 9)) [25]))) (sRet (eC (.bl false))) (sNil)
def B9 : SF := sAsg (eIx (eLst (aCons (eTup (aCons (eC (.int 1)) (aCons (eC (.int 1)) (aNil)))) (aCons (eTup (aCons (eC (.int 2)) (aCons (eC (.int 1)) (aNil)))) (aCons (eTup (aCons (eC (.int 1)) (aCons (eC (.int 2)) (aNil)))) (aCons (eTup (aCons (eC (.int 2)) (aCons (eC (.int 2)) (aNil)))) (aCons (eTup (aCons (eC (.int 3)) (aCons (eC (.int 1)) (aNil)))) (aCons (eTup (aCons (eC (.int 3)) (aCons (eC (.int 2)) (aNil)))) (aCons (eTup (aCons (eC (.int 2)) (aCons (eC (.int 3)) (aNil)))) (aCons (eTup (aCons (eC (.int 4)) (aCons (eC (.int 1)) (aNil)))) (aNil)))))))))) (eFun 2 Fn_law_roll (aCons (eVar 2) (aCons (eC (.int 8)) (aNil))))) (tTup 2 (tsCons (tName 3) (tsCons (tName 4) (tsNil))))
def B10 : SF := sSet 10 (eIf (bOf (eOp dGt (eOp dMul (eVar 3) (eVar 4)) (eC (.int 4)))) (eSl (eC (.str "ab")) oNone (oSome (eOp dAdd (eC (.int 1)) (eFun 2 Fn_law_roll (aCons (eVar 2) (aCons (eC (.int 2)) (aNil))))))) (eSl (eC (.str "abc")) oNone (oSome (eOp dAdd (eC (.int 1)) (eFun 2 Fn_law_roll (aCons (eVar 2) (aCons (eC (.int 3)) (aNil))))))))
def B11 : SF := sSet 11 (eLc (iSeq (eFun 2 Fn_law_words (aCons (eVar 10) (aCons (eOp dMul (eVar 3) (eVar 4)) (aNil))))) (tName 24) (bYes) (eLc (iRng3E (aCons (eC (.int 0)) (aCons (eOp dMul (eVar 3) (eVar 4)) (aCons (eVar 3) (aNil))))) (tName 26) (bYes) (eSl (eVar 24) (oSome (eVar 26)) (oSome (eOp dAdd (eVar 26) (eVar 3)))) [26]) [24])
def B12 : SF := sOwnDict 13 (aCons (eLc (iSeq (eVar 1)) (tName 12) (bYes) (eTup (aCons (eVar 12) (aCons (eC (.int 0)) (aNil)))) [12]) (aNil))
def B13 : SF := sFor (iSeq (eVar 11)) (tName 12) (sPutO 13 (eOp dAdd (eGetO 13 (eFun 1 Fn_law_kind (aCons (eVar 12) (aNil)))) (eC (.int 1))) (eFun 1 Fn_law_kind (aCons (eVar 12) (aNil))))
def B14 : SF := sIf (bOr (bOf (eOp dNe (eLc (iSeq (eFun 3 Fn_all_strips (aCons (eVar 3) (aCons (eVar 4) (aCons (eVar 10) (aNil)))))) (tName 12) (bYes) (eCall dList (aCons (eFld 0 0 (eVar 12)) (aNil))) [12]) (eVar 11))) (bOf (eNeDO (eFun 3 Fn_counted (aCons (eVar 3) (aCons (eVar 4) (aCons (eVar 10) (aNil))))) 13))) (sRet (eC (.bl false))) (sNil)
def B15 : SF := sPar 14 15 (aCons (eLst (aNil)) (aCons (eLst (aNil)) (aNil)))
def B16 : SF := sFor (iSeq (eVar 11)) (tName 12) (sSeq (sSet 16 (eLst (aNil))) (sSeq (sFor (iSeq (eLst (aCons (eVar 12) (aCons (eRev (eVar 12)) (aCons (eLc (iSeq (eVar 12)) (tName 25) (bYes) (eRev (eVar 25)) [25]) (aCons (eLc (iSeq (eRev (eVar 12))) (tName 25) (bYes) (eRev (eVar 25)) [25]) (aNil))))))) (tName 17) (sSet 16 (eOp dAdd (eVar 16) (eLc (iRng1 (aCons (eVar 3) (aNil))) (tName 28) (bYes) (eLc (iSeq (eVar 17)) (tName 25) (bYes) (eOp dAdd (eSl (eVar 25) (oSome (eVar 28)) oNone) (eSl (eVar 25) oNone (oSome (eVar 28)))) [25]) [28])))) (sIf (bOf (eOp dNotInL (eVar 12) (eVar 15))) (sPar 14 15 (aCons (eOp dAdd (eVar 14) (eLst (aCons (eVar 12) (aNil)))) (aCons (eOp dAdd (eVar 15) (eVar 16)) (aNil)))) (sNil))))
def B17 : SF := sIf (bOf (eOp dNe (eLc (iSeq (eFun 3 Fn_unlike_ones (aCons (eVar 3) (aCons (eVar 4) (aCons (eVar 10) (aNil)))))) (tName 12) (bYes) (eCall dList (aCons (eFld 0 0 (eVar 12)) (aNil))) [12]) (eVar 14))) (sRet (eC (.bl false))) (sNil)
def B18 : SF := sSet 18 (eIx (eVar 11) (eFun 2 Fn_law_roll (aCons (eVar 2) (aCons (eCall dLen (aCons (eVar 11) (aNil))) (aNil)))))
def B19 : SF := sOwnL 19
def B20 : SF := sFor (iEnumE (aCons (eVar 11) (aNil))) (tTup 2 (tsCons (tName 20) (tsCons (tName 12) (tsNil)))) (sIf (bOf (eFun 2 Fn_law_has (aCons (eVar 12) (aCons (eVar 5) (aNil))))) (sAppend 19 (eTup (aCons (eCall dLen (aCons (eLc (iZipE (aCons (eJoin (eC (.str "")) (eVar 18)) (aCons (eJoin (eC (.str "")) (eVar 12)) (aNil)))) (tTup 2 (tsCons (tName 29) (tsCons (tName 30) (tsNil)))) (bOf (eOp dNe (eVar 29) (eVar 30))) (eC (.int 1)) [29, 30]) (aNil))) (aCons (eVar 20) (aCons (eCall dTuple (aCons (eVar 12) (aNil))) (aNil)))))) (sNil))
def B21 : SF := sIf (bOf (eOp dNe (eFun 3 Fn_nearest (aCons (eFun 1 Fn_Strip_init (aCons (eVar 18) (aNil))) (aCons (eVar 5) (aCons (eVar 10) (aNil))))) (eTup (aCons (eIx (eMinO 19) (eC (.int 0))) (aCons (eIx (eMinO 19) (eC (.int 2))) (aNil)))))) (sRet (eC (.bl false))) (sNil)
def B22 : SF := sPar 21 22 (aCons (eOp dAdd (eC (.int 1)) (eFun 2 Fn_law_roll (aCons (eVar 2) (aCons (eC (.int 6)) (aNil))))) (aCons (eOp dAdd (eC (.int 1)) (eFun 2 Fn_law_roll (aCons (eVar 2) (aCons (eC (.int 3)) (aNil))))) (aNil)))
def B23 : SF := sIf (bOr (bOf (eOp dNe (eFun 2 Fn_necklaces (aCons (eVar 21) (aCons (eVar 22) (aNil)))) (eFun 3 Fn_law_rings (aCons (eVar 21) (aCons (eVar 22) (aCons (eC (.bl false)) (aNil))))))) (bOf (eOp dNe (eFun 2 Fn_bracelets (aCons (eVar 21) (aCons (eVar 22) (aNil)))) (eFun 3 Fn_law_rings (aCons (eVar 21) (aCons (eVar 22) (aCons (eC (.bl true)) (aNil)))))))) (sRet (eC (.bl false))) (sNil)
theorem FB_eq : FB_law = sSeq K1.B1 (sSeq K1.B2 (sSeq K1.B3 (sSeq K1.B4 (sSeq K1.B5 (sSeq K1.B6 (sSeq K1.B7 (sSeq K1.B8 (sSeq K1.B9 (sSeq K1.B10 (sSeq K1.B11 (sSeq K1.B12 (sSeq K1.B13 (sSeq K1.B14 (sSeq K1.B15 (sSeq K1.B16 (sSeq K1.B17 (sSeq K1.B18 (sSeq K1.B19 (sSeq K1.B20 (sSeq K1.B21 (sSeq K1.B22 (K1.B23)))))))))))))))))))))) := rfl
end K1
namespace Dd.Ma
open PySem L2 K1
structure Gk (R : List (List Nat)) (h W : Nat) : Prop where
  o : Ok R h W
  h4 : h ≤ 4
  w6 : W ≤ 6
theorem Gk.st {R : List (List Nat)} {h W : Nat} (g : Gk R h W) : St R h W := ⟨g.o, by have := g.h4; omega, by have := g.w6; omega⟩
theorem kinds_at : ∀ k : Nat, k < 7 → dIx (strsD strs_law) (.int (k : Int)) = some (.str (kS k))
  | 0, _ => rfl
  | 1, _ => rfl
  | 2, _ => rfl
  | 3, _ => rfl
  | 4, _ => rfl
  | 5, _ => rfl
  | 6, _ => rfl
  | n + 7, h => absurd h (by omega)
theorem ne_b (b : Bool) : dNe (.bl b) (.bl b) = some (.bl false) := by cases b <;> rfl
theorem dl_tup (x : List D) : dList [.tup x] = some (.lst x) := rfl
theorem toPys_app : ∀ a b : List D, toPys (a ++ b) = toPys a ++ toPys b
  | [], _ => rfl
  | x :: a, b => by
    show toPy x :: toPys (a ++ b) = toPy x :: (toPys a ++ toPys b)
    rw [toPys_app a b]
end Dd.Ma
namespace Dd.Ma
open PySem L2 K1
section
variable {R : List (List Nat)} {h W k : Nat}
theorem c1 {μ : List D} (hd : Dice μ) (s0 s1 s2 s3 s4 s5 s6 s7 s8 s9 s10 s11 s12 s13 s14 s15 s16 s17 s18 s19 s20 s21 s22 s23 s24 s25 s26 s27 s28 s29 s30 : Sl) : ∃ W h k : Nat, (0 < W ∧ W ≤ 6 ∧ 0 < h ∧ h ≤ 4 ∧ k < 7) ∧ ∃ μ', Dice μ' ∧ K1.B1 [s0, .v (strsD strs_law), .v (.cell 0), s3, s4, s5, s6, s7, s8, s9, s10, s11, s12, s13, s14, s15, s16, s17, s18, s19, s20, s21, s22, s23, s24, s25, s26, s27, s28, s29, s30] μ = .ok (.nx [s0, .v (strsD strs_law), .v (.cell 0), .v (.int (W : Int)), .v (.int (h : Int)), .v (.str (kS k)), s6, s7, s8, s9, s10, s11, s12, s13, s14, s15, s16, s17, s18, s19, s20, s21, s22, s23, s24, s25, s26, s27, s28, s29, s30]) μ' := by
  obtain ⟨w, hw, μ1, hd1, e1⟩ := f_roll 6 (by omega) (by omega) hd
  obtain ⟨h', hh, μ2, hd2, e2⟩ := f_roll 4 (by omega) (by omega) hd1
  obtain ⟨k, hk, μ3, hd3, e3⟩ := f_roll 7 (by omega) (by omega) hd2
  obtain ⟨W0, hW0⟩ : ∃ n : Nat, n = 1 + w := ⟨_, rfl⟩
  obtain ⟨H0, hH0⟩ : ∃ n : Nat, n = 1 + h' := ⟨_, rfl⟩
  have cW : (1 : Int) + (w : Int) = (W0 : Int) := by omega
  have cH : (1 : Int) + (h' : Int) = (H0 : Int) := by omega
  refine ⟨W0, H0, k, ⟨by omega, by omega, by omega, by omega, hk⟩, μ3, hd3, ?_⟩
  have e1 : Fn_law_roll [.cell 0, .int 6] μ = _ := e1
  have e2 : Fn_law_roll [.cell 0, .int 4] μ1 = _ := e2
  have e3 : Fn_law_roll [.cell 0, .int 7] μ2 = _ := e3
  have ka := kinds_at k hk
  simp -implicitDefEqProofs [K1.B1, eVar_def, bind_app, pure_app, e1, e2, e3, ka, tTup, tsCons, tsNil, cW, cH]
theorem c2 (hp : 0 < W ∧ W ≤ 6 ∧ 0 < h ∧ h ≤ 4) {μ : List D} (hd : Dice μ) (s0 s1 s2 s3 s4 s5 s6 s7 s8 s9 s10 s11 s12 s13 s14 s15 s16 s17 s18 s19 s20 s21 s22 s23 s24 s25 s26 s27 s28 s29 s30 : Sl) : ∃ R, Gk R h W ∧ ∃ μ', Dice μ' ∧ K1.B2 [s0, s1, .v (.cell 0), .v (.int (W : Int)), .v (.int (h : Int)), s5, s6, s7, s8, s9, s10, s11, s12, s13, s14, s15, s16, s17, s18, s19, s20, s21, s22, s23, s24, s25, s26, s27, s28, s29, s30] μ = .ok (.nx [s0, s1, .v (.cell 0), .v (.int (W : Int)), .v (.int (h : Int)), s5, .v (.lst (rows R)), s7, s8, s9, s10, s11, s12, s13, s14, s15, s16, s17, s18, s19, s20, s21, s22, s23, s24, s25, s26, s27, s28, s29, s30]) μ' := by
  obtain ⟨wp, w6, hp, h4⟩ := hp
  let Γ1 : Env := [s0, s1, .v (.cell 0), .v (.int (W : Int)), .v (.int (h : Int)), s5, s6, s7, s8, s9, s10, s11, s12, s13, s14, s15, s16, s17, s18, s19, s20, s21, s22, .no, s24, s25, s26, s27, s28, s29, s30]
  have r1 := rng_nat W (by omega)
  have r2 := rng_nat h (by omega)
  obtain ⟨ys, μ4, e4, hd4, hl4, hy4⟩ := lc_st (T := tName 23) (fb := bYes) (fe := eJoin (eC (.str "")) (eLc (iRng1 (aCons (eVar 3) (aNil))) (tName 27) (bYes) (eIx (eC (.str "ab.")) (eFun 2 Fn_law_roll (aCons (eVar 2) (aCons (eC (.int 3)) (aNil))))) [27])) (Γ := Γ1) (fun y => ∃ r, y = rD r ∧ r.length = W) (intsD 0 h) (fun d hdd => by
    refine ⟨_, rfl, rfl, fun μ hd => ?_⟩
    obtain ⟨zs, μ5, e5, hd5, hl5, hz5⟩ := lc_st (T := tName 27) (fb := bYes) (fe := eIx (eC (.str "ab.")) (eFun 2 Fn_law_roll (aCons (eVar 2) (aCons (eC (.int 3)) (aNil))))) (Γ := wipeG (Γ1.set 23 (.v d)) [27]) (fun y => ∃ c, y = rD [c]) (intsD 0 W) (fun d2 hd2 => by
      refine ⟨_, rfl, rfl, fun μ hd => ?_⟩
      obtain ⟨r, hr, μ6, hd6, e6⟩ := f_roll 3 (by omega) (by omega) hd
      have e6 : Fn_law_roll [.cell 0, .int 3] μ = _ := e6
      obtain ⟨c, hc⟩ : ∃ c, ([97, 98, 46] : List Nat)[r]? = some c := ⟨_, List.getElem?_eq_getElem hr⟩
      refine ⟨rD [c], μ6, ?_, hd6, c, rfl⟩
      have ix : dIx (.str "ab.") (.int (r : Int)) = some (rD [c]) := by
        show (atI [97, 98, 46] (r : Int)).map signD = _
        rw [atI_nat (by simpa using hr), hc]
        rfl
      simp -implicitDefEqProofs [Γ1, wipeG, eVar_def, bind_app, pure_app, e6, ix]) μ hd
    obtain ⟨r, er⟩ : ∃ r : List Nat, zs = r.map (fun c => rD [c]) := by
      clear e5 hl5
      induction zs with
      | nil => exact ⟨[], rfl⟩
      | cons z zs ih =>
        obtain ⟨c, e⟩ := hz5 z List.mem_cons_self
        obtain ⟨r, e2⟩ := ih fun y hy => hz5 y (List.mem_cons_of_mem _ hy)
        exact ⟨c :: r, by rw [e, e2]; rfl⟩
    have rl : r.length = W := by
      rw [er] at hl5
      simpa [intsD] using hl5
    refine ⟨rD r, μ5, ?_, hd5, r, rfl, rl⟩
    have js := join_signs r (fun c => c) (by omega)
    rw [List.map_id'] at js
    have e5' := nox_ok e5
    rw [er] at e5'
    simp -implicitDefEqProofs only [o_eJoin', o_eLc, o_iRng1]
    have v3 : eVar 3 (Γ1.set 23 (.v d)) = M.pure (.int (W : Int)) := rfl
    simp -implicitDefEqProofs [v3, bind_app, pure_app, r1] at e5' ⊢
    simp -implicitDefEqProofs [e5', js, pure_app]) μ hd
  obtain ⟨R0, er0, hr0⟩ := list_rows hy4
  have l0 : R0.length = h := by
    have : ys.length = R0.length := by rw [er0, rows_len]
    rw [← this, hl4]
    simp [intsD]
  refine ⟨R0, ⟨⟨l0, hp, hr0, wp⟩, h4, w6⟩, μ4, hd4, ?_⟩
  have e4' := nox_ok e4
  rw [er0] at e4'
  have wp : wipeG [s0, s1, .v (.cell 0), .v (.int (W : Int)), .v (.int (h : Int)), s5, s6, s7, s8, s9, s10, s11, s12, s13, s14, s15, s16, s17, s18, s19, s20, s21, s22, s23, s24, s25, s26, s27, s28, s29, s30] [23] = Γ1 := rfl
  have v4 : eVar 4 [s0, s1, .v (.cell 0), .v (.int (W : Int)), .v (.int (h : Int)), s5, s6, s7, s8, s9, s10, s11, s12, s13, s14, s15, s16, s17, s18, s19, s20, s21, s22, s23, s24, s25, s26, s27, s28, s29, s30] = M.pure (.int (h : Int)) := rfl
  simp -implicitDefEqProofs only [K1.B2, o_sSet, o_eLc, o_iRng1, wp, o_aCons, o_aNil, v4, M.pure_bind, r2, M.opt_some, List.length_cons, List.length_nil, Nat.zero_add, if_true]
  rw [M.bind_assoc, bind_ok e4']
  rfl
theorem c3 (g : Gk R h W) (hk : k < 7) (μ : List D) (s0 s1 s2 s3 s4 s5 s6 s7 s8 s9 s10 s11 s12 s13 s14 s15 s16 s17 s18 s19 s20 s21 s22 s23 s24 s25 s26 s27 s28 s29 s30 : Sl) : K1.B3 [s0, s1, s2, s3, s4, .v (.str (kS k)), .v (.lst (rows R)), s7, s8, s9, s10, s11, s12, s13, s14, s15, s16, s17, s18, s19, s20, s21, s22, s23, s24, s25, s26, s27, s28, s29, s30] μ = .ok (.nx [s0, s1, s2, s3, s4, .v (.str (kS k)), .v (.lst (rows R)), .v (sD (madeR R h W k)), s8, s9, s10, s11, s12, s13, s14, s15, s16, s17, s18, s19, s20, s21, s22, s23, s24, s25, s26, s27, s28, s29, s30]) μ := by
  have m := f_madeK g.st g.h4 g.w6 k hk
  simp -implicitDefEqProofs [K1.B3, eVar_def, pure_app, m]
theorem c4 (g : Gk R h W) (hk : k < 7) (μ : List D) (s0 s1 s2 s3 s4 s5 s6 s7 s8 s9 s10 s11 s12 s13 s14 s15 s16 s17 s18 s19 s20 s21 s22 s23 s24 s25 s26 s27 s28 s29 s30 : Sl) : K1.B4 [s0, s1, s2, s3, s4, .v (.str (kS k)), .v (.lst (rows R)), .v (sD (madeR R h W k)), s8, s9, s10, s11, s12, s13, s14, s15, s16, s17, s18, s19, s20, s21, s22, s23, s24, s25, s26, s27, s28, s29, s30] μ = .ok (.nx [s0, s1, s2, s3, s4, .v (.str (kS k)), .v (.lst (rows R)), .v (sD (madeR R h W k)), s8, s9, s10, s11, s12, s13, s14, s15, s16, s17, s18, s19, s20, s21, s22, s23, s24, s25, s26, s27, s28, s29, s30]) μ := by
  have m := f_lmadeK g.st g.h4 g.w6 k hk
  have sm := made_st g.st g.h4 g.w6 k
  have f1 := f_hasK sm k hk
  have f2 := f_lhasK sm k hk
  rw [(hasB_iff k).mpr (made_has g.st k hk)] at f1 f2
  have n1 := ne_lst (madeR R h W k) (madeR R h W k)
  simp -implicitDefEqProofs [K1.B4, eVar_def, pure_app, m, f1, f2, fld_sD, dl_tup, n1]
theorem c5 {μ : List D} (hd : Dice μ) (s0 s1 s2 s3 s4 s5 s6 s7 s8 s9 s10 s11 s12 s13 s14 s15 s16 s17 s18 s19 s20 s21 s22 s23 s24 s25 s26 s27 s28 s29 s30 : Sl) : ∃ k, k < 7 ∧ ∃ μ', Dice μ' ∧ K1.B5 [s0, .v (strsD strs_law), .v (.cell 0), s3, s4, s5, s6, s7, s8, s9, s10, s11, s12, s13, s14, s15, s16, s17, s18, s19, s20, s21, s22, s23, s24, s25, s26, s27, s28, s29, s30] μ = .ok (.nx [s0, .v (strsD strs_law), .v (.cell 0), s3, s4, s5, s6, s7, .v (.str (kS k)), s9, s10, s11, s12, s13, s14, s15, s16, s17, s18, s19, s20, s21, s22, s23, s24, s25, s26, s27, s28, s29, s30]) μ' := by
  obtain ⟨k, hk, μ3, hd3, e3⟩ := f_roll 7 (by omega) (by omega) hd
  have e3 : Fn_law_roll [.cell 0, .int 7] μ = _ := e3
  have ka := kinds_at k hk
  refine ⟨k, hk, μ3, hd3, ?_⟩
  simp -implicitDefEqProofs [K1.B5, eVar_def, bind_app, pure_app, e3, ka]
theorem c6 (g : Gk R h W) (hk : k < 7) {k2 : Nat} (hk2 : k2 < 7) (μ : List D) (s0 s1 s2 s3 s4 s5 s6 s7 s8 s9 s10 s11 s12 s13 s14 s15 s16 s17 s18 s19 s20 s21 s22 s23 s24 s25 s26 s27 s28 s29 s30 : Sl) : K1.B6 [s0, s1, s2, s3, s4, .v (.str (kS k)), .v (.lst (rows R)), .v (sD (madeR R h W k)), .v (.str (kS k2)), s9, s10, s11, s12, s13, s14, s15, s16, s17, s18, s19, s20, s21, s22, s23, s24, s25, s26, s27, s28, s29, s30] μ = .ok (.nx [s0, s1, s2, s3, s4, .v (.str (kS k)), .v (.lst (rows R)), .v (sD (madeR R h W k)), .v (.str (kS k2)), s9, s10, s11, s12, s13, s14, s15, s16, s17, s18, s19, s20, s21, s22, s23, s24, s25, s26, s27, s28, s29, s30]) μ := by
  have m := f_lmadeK g.st g.h4 g.w6 k hk
  have sm := made_st g.st g.h4 g.w6 k
  have f1 := f_hasK sm k2 hk2
  have f2 := f_lhasK sm k2 hk2
  generalize hasB (madeR R h W k) (mh h k) (mw W k) k2 = b at *
  have nb := ne_b b
  simp -implicitDefEqProofs [K1.B6, eVar_def, pure_app, m, f1, f2, nb]
theorem c7 {μ : List D} (hd : Dice μ) (s0 s1 s2 s3 s4 s5 s6 s7 s8 s9 s10 s11 s12 s13 s14 s15 s16 s17 s18 s19 s20 s21 s22 s23 s24 s25 s26 s27 s28 s29 s30 : Sl) : ∃ n : Nat, 1 ≤ n ∧ n ≤ 3 ∧ ∃ μ', Dice μ' ∧ K1.B7 [s0, s1, .v (.cell 0), s3, s4, s5, s6, s7, s8, s9, s10, s11, s12, s13, s14, s15, s16, s17, s18, s19, s20, s21, s22, s23, s24, s25, s26, s27, s28, s29, s30] μ = .ok (.nx [s0, s1, .v (.cell 0), s3, s4, s5, s6, s7, s8, .v (.int (n : Int)), s10, s11, s12, s13, s14, s15, s16, s17, s18, s19, s20, s21, s22, s23, s24, s25, s26, s27, s28, s29, s30]) μ' := by
  obtain ⟨k, hk, μ3, hd3, e3⟩ := f_roll 3 (by omega) (by omega) hd
  have e3 : Fn_law_roll [.cell 0, .int 3] μ = _ := e3
  obtain ⟨n, hn⟩ : ∃ n : Nat, n = 1 + k := ⟨_, rfl⟩
  have cn : (1 : Int) + (k : Int) = (n : Int) := by omega
  refine ⟨n, by omega, by omega, μ3, hd3, ?_⟩
  simp -implicitDefEqProofs [K1.B7, eVar_def, bind_app, pure_app, e3, cn]
theorem mul_str (r : List Nat) (n : Nat) (hn : n ≤ 10) (hl : r.length ≤ 1000) : dMul (rD r) (.int (n : Int)) = some (rD (List.replicate n r).flatten) := by
  have h1 : r.length * n ≤ 1000 * 10 := Nat.mul_le_mul hl hn
  unfold rD dMul
  dsimp only
  rw [rS_len, Int.toNat_natCast, if_pos ⟨by omega, by omega, by omega⟩]
  unfold repS
  rw [rS_cps]
  rfl
theorem mul_one (d : D) (n : Nat) (hn : n ≤ 10) : dMul (.lst [d]) (.int (n : Int)) = some (.lst (List.replicate n d)) := by
  unfold dMul
  dsimp only
  rw [Int.toNat_natCast, List.length_singleton, if_pos ⟨by omega, by omega, by omega⟩]
  congr 2
  induction n with
  | zero => rfl
  | succ n ih => rw [List.replicate_succ, List.flatten_cons, ih (by omega), List.replicate_succ]; rfl
theorem c8 (g : Gk R h W) {n : Nat} (n1 : 1 ≤ n) (n3 : n ≤ 3) (μ : List D) (s0 s1 s2 s3 s4 s5 s6 s7 s8 s9 s10 s11 s12 s13 s14 s15 s16 s17 s18 s19 s20 s21 s22 s23 s24 s25 s26 s27 s28 s29 s30 : Sl) : K1.B8 [s0, s1, s2, s3, s4, s5, .v (.lst (rows R)), s7, s8, .v (.int (n : Int)), s10, s11, s12, s13, s14, s15, s16, s17, s18, s19, s20, s21, s22, s23, s24, s25, s26, s27, s28, s29, s30] μ = .ok (.nx [s0, s1, s2, s3, s4, s5, .v (.lst (rows R)), s7, s8, .v (.int (n : Int)), s10, s11, s12, s13, s14, s15, s16, s17, s18, s19, s20, s21, s22, s23, s24, s25, s26, s27, s28, s29, s30]) μ := by
  have fi := g.st.init (.lst (rows R)) (.inl rfl)
  have m1 := mul_one (sD R) n (by omega)
  have hRs : ∀ A ∈ List.replicate n R, Ok A h W := fun A hA => by rw [(List.mem_replicate.mp hA).2]; exact g.o
  have hne : List.replicate n R ≠ [] := fun z => by
    have := congrArg List.length z
    rw [List.length_replicate] at this
    simp at this
    omega
  have ho := hcat_ok hRs g.o.hp g.o.wp hne
  have h4 := g.h4
  have w6 := g.w6
  have hw : n * W ≤ 3 * 6 := Nat.mul_le_mul n3 w6
  rw [List.length_replicate] at ho
  have fb := f_beside (wds_of hne hRs) (W := n * W) ⟨ho, by omega, by omega⟩ (len_of hRs (by rw [List.length_replicate]; omega))
  rw [List.map_replicate] at fb
  have hc : hcat (List.replicate n R) h = R.map fun r => (List.replicate n r).flatten := by
    refine List.ext_getElem? fun y => ?_
    unfold hcat
    rw [List.getElem?_map, List.getElem?_map]
    by_cases hy : y < h
    · rw [List.getElem?_range hy, Option.map_some, List.map_replicate, List.getElem?_eq_getElem (by rw [g.o.len]; exact hy)]
      rfl
    · rw [List.getElem?_eq_none (by rw [List.length_range]; omega), List.getElem?_eq_none (by rw [g.o.len]; omega)]
      rfl
  rw [hc] at fb
  have lc : ∀ Γ : Env, Γ[9]? = some (.v (.int (n : Int))) → 25 < Γ.length → lcF (tName 25) bYes (eOp dMul (eVar 25) (eVar 9)) Γ (rows R) = M.pure (rows (R.map fun r => (List.replicate n r).flatten)) := fun Γ e9 hl => by
    rw [lc_rows (fun r => rD (List.replicate n r).flatten) R fun r hr => ⟨_, rfl, rfl, by
      have ms := mul_str r n (by omega) (by rw [g.o.wd r hr]; omega)
      have v9 : (Γ.set 25 (.v (rD r)))[9]? = some (.v (.int (n : Int))) := by rw [List.getElem?_set_ne (by decide)]; exact e9
      have v25 : (Γ.set 25 (.v (rD r)))[25]? = some (.v (rD r)) := by rw [List.getElem?_set_self hl]
      rw [o_eOp, var_v v25, M.pure_bind, var_v v9, M.pure_bind, ms, M.opt_some]⟩]
    unfold rows
    rw [List.map_map]
    rfl
  have lc1 := lc [s0, s1, s2, s3, s4, s5, .v (.lst (rows R)), s7, s8, .v (.int (n : Int)), s10, s11, s12, s13, s14, s15, s16, s17, s18, s19, s20, s21, s22, s23, s24, .no, s26, s27, s28, s29, s30] rfl (by simp)
  have nn := ne_lst (R.map fun r => (List.replicate n r).flatten) (R.map fun r => (List.replicate n r).flatten)
  have sql : ∀ xs : List D, seqOf (.lst xs) = some xs := fun _ => rfl
  have l1 : (1 : Nat) ≤ 16777216 := by decide
  simp -implicitDefEqProofs only [l1, if_true, K1.B8, o_sIf, o_bOf, o_eOp, o_eCall, o_aCons, o_aNil, o_eFld, o_eFun, o_eLst, eVar_def, List.getElem?_cons_zero, List.getElem?_cons_succ, M.pure_bind, M.bind_assoc, M.opt_some, fi, List.length_cons, List.length_nil, Nat.zero_add, m1, fb, fld_sD, dl_tup, o_eLc, o_iSeq, sql, wipeG, List.set_cons_succ, List.set_cons_zero, lc1, nox_pure, nn, decide_true, Bool.not_true, Bool.false_eq_true, if_false, o_sNil, o_asB]
  rfl
end
end Dd.Ma
namespace Dd.Ma
open PySem L2 K1
/-! ### lists of tables -/
theorem py_lD (R : List (List Nat)) (n : Nat) : isPy (n + 1) (lD R) = true := py_lst R n
theorem are_lD (n : Nat) : ∀ Ts : List (List (List Nat)), arePy (n + 1) (Ts.map lD) = true
  | [] => rfl
  | R :: Ts => by
    rw [List.map_cons]
    unfold arePy
    rw [py_lD, are_lD n Ts]
    rfl
theorem py_lDs (Ts : List (List (List Nat))) : isPy 8 (.lst (Ts.map lD)) = true := by
  unfold isPy
  exact are_lD 6 Ts
theorem eqv_lD (A B : List (List Nat)) : PyData.eqv (toPy (lD A)) (toPy (lD B)) = decide (A = B) := eq_rows A B
theorem eq_lDs : ∀ Ts : List (List (List Nat)), PyData.eqvAll (toPys (Ts.map lD)) (toPys (Ts.map lD)) = true
  | [] => rfl
  | R :: Ts => by
    show (PyData.eqv (toPy (lD R)) (toPy (lD R)) && PyData.eqvAll (toPys (Ts.map lD)) (toPys (Ts.map lD))) = true
    rw [eqv_lD, eq_lDs Ts]
    simp
theorem ne_lDs (Ts : List (List (List Nat))) : dNe (.lst (Ts.map lD)) (.lst (Ts.map lD)) = some (.bl false) := by
  unfold dNe
  rw [py_lDs, if_pos ⟨rfl, rfl⟩]
  show some (D.bl (!PyData.eqvAll (toPys (Ts.map lD)) (toPys (Ts.map lD)))) = _
  rw [eq_lDs]
  rfl
theorem in_lDs (A : List (List Nat)) : ∀ Ts : List (List (List Nat)), inL (lD A) (Ts.map lD) = decide (A ∈ Ts)
  | [] => rfl
  | R :: Ts => by
    have ih := in_lDs A Ts
    unfold inL at ih ⊢
    rw [List.map_cons, List.any_cons, ih, eqv_lD, Bool.eq_iff_iff]
    simp only [Bool.or_eq_true, decide_eq_true_eq, List.mem_cons]
    exact ⟨fun h => h.imp Eq.symm id, fun h => h.imp Eq.symm id⟩
theorem notIn_lDs (A : List (List Nat)) (Ts : List (List (List Nat))) : dNotInL (lD A) (.lst (Ts.map lD)) = some (.bl (!decide (A ∈ Ts))) := by
  show (if isPy 8 (lD A) = true ∧ isPy 8 (.lst (Ts.map lD)) = true then some (D.bl (!inL (lD A) (Ts.map lD))) else none) = _
  rw [py_lD A 7, py_lDs, if_pos ⟨rfl, rfl⟩, in_lDs]
theorem lst_tables {Γ : Env} {fb : Env → M Bool} {fe : E} {T : Tgt} (Ts : List (List (List Nat))) (h : ∀ R, ∃ Γ1, T (sD R) Γ = some Γ1 ∧ fb Γ1 = M.pure true ∧ fe Γ1 = M.pure (lD R)) : lcF T fb fe Γ (Ts.map sD) = M.pure (Ts.map lD) := by
  have := lc_map (T := T) (fb := fb) (fe := fe) (Γ := Γ) sD (fun _ => true) lD Ts fun R _ => by
    obtain ⟨Γ1, h1, h2, h3⟩ := h R
    exact ⟨Γ1, h1, h2, fun _ => h3⟩
  rw [List.filter_eq_self.mpr (by simp)] at this
  exact this
/-! ### the shapes and the signs -/
def shapeL : List (Nat × Nat) := [(1, 1), (2, 1), (1, 2), (2, 2), (3, 1), (3, 2), (2, 3), (4, 1)]
theorem shape_at : ∀ r : Nat, r < 8 → ∃ W h : Nat, shapeL[r]? = some (W, h) ∧ Shape W h ∧ W * h ≤ 6 ∧ atI [D.tup [.int 1, .int 1], .tup [.int 2, .int 1], .tup [.int 1, .int 2], .tup [.int 2, .int 2], .tup [.int 3, .int 1], .tup [.int 3, .int 2], .tup [.int 2, .int 3], .tup [.int 4, .int 1]] (r : Int) = some (.tup [.int (W : Int), .int (h : Int)])
  | 0, _ => ⟨1, 1, rfl, ⟨by decide, by decide, by decide, by decide, by decide, by decide⟩, by decide, rfl⟩
  | 1, _ => ⟨2, 1, rfl, ⟨by decide, by decide, by decide, by decide, by decide, by decide⟩, by decide, rfl⟩
  | 2, _ => ⟨1, 2, rfl, ⟨by decide, by decide, by decide, by decide, by decide, by decide⟩, by decide, rfl⟩
  | 3, _ => ⟨2, 2, rfl, ⟨by decide, by decide, by decide, by decide, by decide, by decide⟩, by decide, rfl⟩
  | 4, _ => ⟨3, 1, rfl, ⟨by decide, by decide, by decide, by decide, by decide, by decide⟩, by decide, rfl⟩
  | 5, _ => ⟨3, 2, rfl, ⟨by decide, by decide, by decide, by decide, by decide, by decide⟩, by decide, rfl⟩
  | 6, _ => ⟨2, 3, rfl, ⟨by decide, by decide, by decide, by decide, by decide, by decide⟩, by decide, rfl⟩
  | 7, _ => ⟨4, 1, rfl, ⟨by decide, by decide, by decide, by decide, by decide, by decide⟩, by decide, rfl⟩
  | n + 8, h => absurd h (by omega)
theorem c9 {μ : List D} (hd : Dice μ) (s0 s1 s2 s3 s4 s5 s6 s7 s8 s9 s10 s11 s12 s13 s14 s15 s16 s17 s18 s19 s20 s21 s22 s23 s24 s25 s26 s27 s28 s29 s30 : Sl) : ∃ W h : Nat, Shape W h ∧ W * h ≤ 6 ∧ ∃ μ', Dice μ' ∧ K1.B9 [s0, s1, .v (.cell 0), s3, s4, s5, s6, s7, s8, s9, s10, s11, s12, s13, s14, s15, s16, s17, s18, s19, s20, s21, s22, s23, s24, s25, s26, s27, s28, s29, s30] μ = .ok (.nx [s0, s1, .v (.cell 0), .v (.int (W : Int)), .v (.int (h : Int)), s5, s6, s7, s8, s9, s10, s11, s12, s13, s14, s15, s16, s17, s18, s19, s20, s21, s22, s23, s24, s25, s26, s27, s28, s29, s30]) μ' := by
  obtain ⟨k, hk, μ3, hd3, e3⟩ := f_roll 8 (by omega) (by omega) hd
  have e3 : Fn_law_roll [.cell 0, .int 8] μ = _ := e3
  obtain ⟨W, h, _, sh, h6, sa⟩ := shape_at k hk
  refine ⟨W, h, sh, h6, μ3, hd3, ?_⟩
  have ix : ∀ xs : List D, ∀ i : Int, dIx (.lst xs) (.int i) = atI xs i := fun _ _ => rfl
  simp -implicitDefEqProofs [K1.B9, eVar_def, bind_app, pure_app, e3, ix, sa, tTup, tsCons, tsNil]
structure Sg3 (sgs : List Nat) (W h : Nat) : Prop where
  h1 : 1 ≤ sgs.length
  h3 : sgs.length ≤ 3
  hb : ∀ k, k ≤ W * h → sgs.length ^ k ≤ 5000
theorem cut_s (n : Nat) (h1 : 1 ≤ n) (h2 : n ≤ 2) : dSl (.str "ab") none (some ((n : Nat) : Int)) = some (rD ([97, 98].take n)) := by
  rcases n with _ | _ | _ | n
  · omega
  · rfl
  · rfl
  · omega
theorem cut_s3 (n : Nat) (h1 : 1 ≤ n) (h2 : n ≤ 3) : dSl (.str "abc") none (some ((n : Nat) : Int)) = some (rD ([97, 98, 99].take n)) := by
  rcases n with _ | _ | _ | _ | n
  · omega
  · rfl
  · rfl
  · rfl
  · omega
section
variable {W h : Nat} {sgs : List Nat}
theorem c10 (g : Shape W h) (h6 : W * h ≤ 6) {μ : List D} (hd : Dice μ) (s0 s1 s2 s3 s4 s5 s6 s7 s8 s9 s10 s11 s12 s13 s14 s15 s16 s17 s18 s19 s20 s21 s22 s23 s24 s25 s26 s27 s28 s29 s30 : Sl) : ∃ sgs, Sg3 sgs W h ∧ ∃ μ', Dice μ' ∧ K1.B10 [s0, s1, .v (.cell 0), .v (.int (W : Int)), .v (.int (h : Int)), s5, s6, s7, s8, s9, s10, s11, s12, s13, s14, s15, s16, s17, s18, s19, s20, s21, s22, s23, s24, s25, s26, s27, s28, s29, s30] μ = .ok (.nx [s0, s1, .v (.cell 0), .v (.int (W : Int)), .v (.int (h : Int)), s5, s6, s7, s8, s9, .v (rD sgs), s11, s12, s13, s14, s15, s16, s17, s18, s19, s20, s21, s22, s23, s24, s25, s26, s27, s28, s29, s30]) μ' := by
  have wi : (W : Int) < 10000 := by have := g.w6; omega
  have md := mulD_ok (W : Int) (h : Int) (by omega) wi
  rw [← Int.natCast_mul] at md
  generalize hN : W * h = N at *
  have gt : ∀ b : Bool, decide (4 < N) = b → dGt (.int (N : Int)) (.int 4) = some (.bl b) := fun b e => by
    have gi : ∀ i j : Int, dGt (.int i) (.int j) = some (.bl (decide (j < i))) := fun _ _ => rfl
    rw [gi, ← e]
    exact congrArg (fun b => some (D.bl b)) (decide_eq_decide.mpr (by omega))
  by_cases c : 4 < N
  · obtain ⟨k, hk, μ3, hd3, e3⟩ := f_roll 2 (by omega) (by omega) hd
    have e3 : Fn_law_roll [.cell 0, .int 2] μ = _ := e3
    obtain ⟨n, hn⟩ : ∃ n : Nat, n = 1 + k := ⟨_, rfl⟩
    have cn : (1 : Int) + (k : Int) = (n : Int) := by omega
    have ct := cut_s n (by omega) (by omega)
    have ln : ([97, 98].take n : List Nat).length = n := by rw [List.length_take]; simp; omega
    refine ⟨[97, 98].take n, ⟨by omega, by omega, fun k hk => ?_⟩, μ3, hd3, ?_⟩
    · rw [ln]
      have h1 : n ^ k ≤ 2 ^ k := Nat.pow_le_pow_left (by omega) k
      have h2 : 2 ^ k ≤ 2 ^ 6 := Nat.pow_le_pow_right (by omega) (by omega)
      have h3 : (2 : Nat) ^ 6 = 64 := by decide
      omega
    · have g1 := gt true (decide_eq_true c)
      simp -implicitDefEqProofs [K1.B10, eVar_def, bind_app, pure_app, md, g1, e3, cn, ct]
  · obtain ⟨k, hk, μ3, hd3, e3⟩ := f_roll 3 (by omega) (by omega) hd
    have e3 : Fn_law_roll [.cell 0, .int 3] μ = _ := e3
    obtain ⟨n, hn⟩ : ∃ n : Nat, n = 1 + k := ⟨_, rfl⟩
    have cn : (1 : Int) + (k : Int) = (n : Int) := by omega
    have ct := cut_s3 n (by omega) (by omega)
    have ln : ([97, 98, 99].take n : List Nat).length = n := by rw [List.length_take]; simp; omega
    refine ⟨[97, 98, 99].take n, ⟨by omega, by omega, fun k hk => ?_⟩, μ3, hd3, ?_⟩
    · rw [ln]
      have h1 : n ^ k ≤ 3 ^ k := Nat.pow_le_pow_left (by omega) k
      have h2 : 3 ^ k ≤ 3 ^ 4 := Nat.pow_le_pow_right (by omega) (by omega)
      have h3 : (3 : Nat) ^ 4 = 81 := by decide
      omega
    · have g1 := gt false (decide_eq_false c)
      simp -implicitDefEqProofs [K1.B10, eVar_def, bind_app, pure_app, md, g1, e3, cn, ct]
theorem c11 (g : Shape W h) (h6 : W * h ≤ 6) (q : Sg3 sgs W h) (μ : List D) (s0 s1 s2 s3 s4 s5 s6 s7 s8 s9 s10 s11 s12 s13 s14 s15 s16 s17 s18 s19 s20 s21 s22 s23 s24 s25 s26 s27 s28 s29 s30 : Sl) : K1.B11 [s0, s1, s2, .v (.int (W : Int)), .v (.int (h : Int)), s5, s6, s7, s8, s9, .v (rD sgs), s11, s12, s13, s14, s15, s16, s17, s18, s19, s20, s21, s22, s23, s24, s25, s26, s27, s28, s29, s30] μ = .ok (.nx [s0, s1, s2, .v (.int (W : Int)), .v (.int (h : Int)), s5, s6, s7, s8, s9, .v (rD sgs), .v (.lst ((tabs sgs W h).map lD)), s12, s13, s14, s15, s16, s17, s18, s19, s20, s21, s22, s23, s24, s25, s26, s27, s28, s29, s30]) μ := by
  have md := mulD_ok (W : Int) (h : Int) (by omega) (by have := g.w6; omega)
  rw [← Int.natCast_mul] at md
  have fw := f_words (sgs := sgs) (n := W * h) (by omega) q.hb
  have r3 := range3_sh g
  have wd := words_wd sgs (W * h)
  have add_i : ∀ a b : Int, dAdd (.int a) (.int b) = some (.int (a + b)) := fun _ _ => rfl
  have li := fun (w : List Nat) (hw : w.length = W * h) => lc_cut (T := tName 26) (fe := eSl (eVar 24) (oSome (eVar 26)) (oSome (eOp dAdd (eVar 26) (eVar 3)))) (Γ := [s0, s1, s2, .v (.int (W : Int)), .v (.int (h : Int)), s5, s6, s7, s8, s9, .v (rD sgs), s11, s12, s13, s14, s15, s16, s17, s18, s19, s20, s21, s22, s23, .v (rD w), s25, .no, s27, s28, s29, s30]) (W := W) (h := h) w fun y hy => ⟨_, rfl, by
    have sc := sl_cut hw hy
    simp -implicitDefEqProofs only [o_eSl, o_oSome, o_eOp, eVar_def, List.set_cons_succ, List.set_cons_zero, List.getElem?_cons_zero, List.getElem?_cons_succ, M.pure_bind, M.bind_assoc, M.opt_some, add_i, o_asI, sc]⟩
  have lo : lcF (tName 24) bYes (eLc (iRng3E (aCons (eC (.int 0)) (aCons (eOp dMul (eVar 3) (eVar 4)) (aCons (eVar 3) (aNil))))) (tName 26) (bYes) (eSl (eVar 24) (oSome (eVar 26)) (oSome (eOp dAdd (eVar 26) (eVar 3)))) [26]) [s0, s1, s2, .v (.int (W : Int)), .v (.int (h : Int)), s5, s6, s7, s8, s9, .v (rD sgs), s11, s12, s13, s14, s15, s16, s17, s18, s19, s20, s21, s22, s23, .no, s25, s26, s27, s28, s29, s30] (rows (wordsN sgs (W * h))) = M.pure ((wordsN sgs (W * h)).map fun w => lD (cutR w W h)) := lc_rows (fun w => lD (cutR w W h)) _ fun w hw => ⟨_, rfl, rfl, by
    have l1 := li w (wd w hw)
    simp -implicitDefEqProofs only [o_eLc, o_iRng3E, o_aCons, o_aNil, o_eC, o_eOp, eVar_def, List.set_cons_succ, List.set_cons_zero, List.getElem?_cons_zero, List.getElem?_cons_succ, M.pure_bind, M.bind_assoc, M.opt_some, md, r3, wipeG, l1, nox_pure]
    rfl⟩
  have tb : (tabs sgs W h).map lD = (wordsN sgs (W * h)).map fun w => lD (cutR w W h) := by
    unfold tabs
    rw [List.map_map]
    rfl
  rw [tb]
  have sql : ∀ xs : List D, seqOf (.lst xs) = some xs := fun _ => rfl
  simp -implicitDefEqProofs only [K1.B11, o_sSet, o_eLc, o_iSeq, o_eFun, o_aCons, o_aNil, o_eOp, eVar_def, List.set_cons_succ, List.set_cons_zero, List.getElem?_cons_zero, List.getElem?_cons_succ, M.pure_bind, M.bind_assoc, M.opt_some, List.length_cons, List.length_nil, Nat.zero_add, if_true, md, fw, sql, wipeG, lo, nox_pure]
  rfl
theorem c12 (μ : List D) (s0 s1 s2 s3 s4 s5 s6 s7 s8 s9 s10 s11 s12 s13 s14 s15 s16 s17 s18 s19 s20 s21 s22 s23 s24 s25 s26 s27 s28 s29 s30 : Sl) : K1.B12 [s0, .v (strsD strs_law), s2, s3, s4, s5, s6, s7, s8, s9, s10, s11, s12, s13, s14, s15, s16, s17, s18, s19, s20, s21, s22, s23, s24, s25, s26, s27, s28, s29, s30] μ = .ok (.nx [s0, .v (strsD strs_law), s2, s3, s4, s5, s6, s7, s8, s9, s10, s11, s12, .o (cntD W h []), s14, s15, s16, s17, s18, s19, s20, s21, s22, s23, s24, s25, s26, s27, s28, s29, s30]) μ := by
  unfold cntD
  rw [cnt_nil]
  rfl
theorem c13 (g : Shape W h) (μ : List D) (s0 s1 s2 s3 s4 s5 s6 s7 s8 s9 s10 s11 s12 s13 s14 s15 s16 s17 s18 s19 s20 s21 s22 s23 s24 s25 s26 s27 s28 s29 s30 : Sl) : ∃ z, K1.B13 [s0, s1, s2, s3, s4, s5, s6, s7, s8, s9, s10, .v (.lst ((tabs sgs W h).map lD)), s12, .o (cntD W h []), s14, s15, s16, s17, s18, s19, s20, s21, s22, s23, s24, s25, s26, s27, s28, s29, s30] μ = .ok (.nx [s0, s1, s2, s3, s4, s5, s6, s7, s8, s9, s10, .v (.lst ((tabs sgs W h).map lD)), z, .o (cntD W h (wordsN sgs (W * h))), s14, s15, s16, s17, s18, s19, s20, s21, s22, s23, s24, s25, s26, s27, s28, s29, s30]) μ := by
  have so : ∀ w ∈ wordsN sgs (W * h), St (cutR w W h) h W := fun w hw => ⟨cutR_ok g.wp g.hp (words_wd sgs _ w hw), by have := g.h4; omega, by have := g.w6; omega⟩
  have tb : (tabs sgs W h).map lD = (wordsN sgs (W * h)).map fun w => lD (cutR w W h) := by
    unfold tabs
    rw [List.map_map]
    rfl
  rw [tb]
  generalize wordsN sgs (W * h) = L at *
  obtain ⟨Γ', ⟨z, rfl⟩, e⟩ := loop_all (T := tName 12) (F := sPutO 13 (eOp dAdd (eGetO 13 (eFun 1 Fn_law_kind (aCons (eVar 12) (aNil)))) (eC (.int 1))) (eFun 1 Fn_law_kind (aCons (eVar 12) (aNil)))) (fun (don : List (List Nat)) Γ => ∃ z, Γ = [s0, s1, s2, s3, s4, s5, s6, s7, s8, s9, s10, .v (.lst (L.map fun w => lD (cutR w W h))), z, .o (cntD W h don), s14, s15, s16, s17, s18, s19, s20, s21, s22, s23, s24, s25, s26, s27, s28, s29, s30]) (fun w => lD (cutR w W h)) L.length L [] (Γ := [s0, s1, s2, s3, s4, s5, s6, s7, s8, s9, s10, .v (.lst (L.map fun w => lD (cutR w W h))), s12, .o (cntD W h []), s14, s15, s16, s17, s18, s19, s20, s21, s22, s23, s24, s25, s26, s27, s28, s29, s30]) (by simp) ⟨s12, rfl⟩ (by
    rintro w don Γ hw _ ⟨z, rfl⟩
    obtain ⟨k1, k2⟩ := kind_key (cutR w W h) h W
    refine ⟨_, rfl, _, ⟨.v (lD (cutR w W h)), rfl⟩, ?_⟩
    have fk := f_law_kind (so w hw)
    have fk : Fn_law_kind [lD (cutR w W h)] = _ := fk
    have ow : ownK 13 [s0, s1, s2, s3, s4, s5, s6, s7, s8, s9, s10, .v (.lst (L.map fun w => lD (cutR w W h))), .v (lD (cutR w W h)), .o (cntD W h don), s14, s15, s16, s17, s18, s19, s20, s21, s22, s23, s24, s25, s26, s27, s28, s29, s30] = some (kinds7, kinds7.map fun k => .int (cnt W h don k : Nat)) := rfl
    have gk := getK_map (fun k => D.int (cnt W h don k : Nat)) k2
    have cs := cnt_step (W := W) (h := h) don w
    have l7 : kinds7.length < 16777216 := by decide
    simp -implicitDefEqProofs [eVar_def, ow, fk, k1, gk, cs, putKs_in k2, l7]
    rfl)
  refine ⟨z, ?_⟩
  have sql : ∀ xs : List D, seqOf (.lst xs) = some xs := fun _ => rfl
  simp -implicitDefEqProofs only [K1.B13, o_sFor, o_iSeq, eVar_def, List.getElem?_cons_zero, List.getElem?_cons_succ, M.pure_bind, M.bind_assoc, M.opt_some, sql]
  rw [e]
  rfl
theorem c14 (g : Shape W h) (q : Sg3 sgs W h) (μ : List D) (s0 s1 s2 s3 s4 s5 s6 s7 s8 s9 s10 s11 s12 s13 s14 s15 s16 s17 s18 s19 s20 s21 s22 s23 s24 s25 s26 s27 s28 s29 s30 : Sl) : K1.B14 [s0, s1, s2, .v (.int (W : Int)), .v (.int (h : Int)), s5, s6, s7, s8, s9, .v (rD sgs), .v (.lst ((tabs sgs W h).map lD)), s12, .o (cntD W h (wordsN sgs (W * h))), s14, s15, s16, s17, s18, s19, s20, s21, s22, s23, s24, s25, s26, s27, s28, s29, s30] μ = .ok (.nx [s0, s1, s2, .v (.int (W : Int)), .v (.int (h : Int)), s5, s6, s7, s8, s9, .v (rD sgs), .v (.lst ((tabs sgs W h).map lD)), s12, .o (cntD W h (wordsN sgs (W * h))), s14, s15, s16, s17, s18, s19, s20, s21, s22, s23, s24, s25, s26, s27, s28, s29, s30]) μ := by
  have fa := f_all' g q.h1 q.h3 q.hb
  have fc := f_counted g q.h1 q.h3 q.hb
  have nl := ne_lDs (tabs sgs W h)
  have ss := same_self kinds7 (cnt W h (wordsN sgs (W * h)))
  generalize wordsN sgs (W * h) = L at *
  generalize tabs sgs W h = Ts at *
  have lt := lst_tables (T := tName 12) (fb := bYes) (fe := eCall dList (aCons (eFld 0 0 (eVar 12)) (aNil))) (Γ := [s0, s1, s2, .v (.int (W : Int)), .v (.int (h : Int)), s5, s6, s7, s8, s9, .v (rD sgs), .v (.lst (Ts.map lD)), .no, .o (cntD W h L), s14, s15, s16, s17, s18, s19, s20, s21, s22, s23, s24, s25, s26, s27, s28, s29, s30]) Ts fun R => ⟨_, rfl, rfl, by
    simp -implicitDefEqProofs only [o_eCall, o_aCons, o_aNil, o_eFld, eVar_def, List.set_cons_succ, List.set_cons_zero, List.getElem?_cons_zero, List.getElem?_cons_succ, M.pure_bind, M.opt_some, fld_sD, dl_tup]
    rfl⟩
  have sqt : ∀ xs : List D, seqOf (.tup xs) = some xs := fun _ => rfl
  have ow : ownK 13 [s0, s1, s2, .v (.int (W : Int)), .v (.int (h : Int)), s5, s6, s7, s8, s9, .v (rD sgs), .v (.lst (Ts.map lD)), s12, .o (cntD W h L), s14, s15, s16, s17, s18, s19, s20, s21, s22, s23, s24, s25, s26, s27, s28, s29, s30] = some (kinds7, kinds7.map fun k => .int (cnt W h L k : Nat)) := rfl
  have ned : eNeDO (eFun 3 Fn_counted (aCons (eVar 3) (aCons (eVar 4) (aCons (eVar 10) (aNil))))) 13 [s0, s1, s2, .v (.int (W : Int)), .v (.int (h : Int)), s5, s6, s7, s8, s9, .v (rD sgs), .v (.lst (Ts.map lD)), s12, .o (cntD W h L), s14, s15, s16, s17, s18, s19, s20, s21, s22, s23, s24, s25, s26, s27, s28, s29, s30] = M.pure (.bl false) := by
    show M.bind (M.opt (ownK 13 _)) _ = _
    rw [ow, M.opt_some, M.pure_bind]
    simp -implicitDefEqProofs only [o_eFun, o_aCons, o_aNil, eVar_def, List.getElem?_cons_zero, List.getElem?_cons_succ, M.pure_bind, M.opt_some, List.length_cons, List.length_nil, Nat.zero_add, if_true, fc]
    show M.opt (if sameDk kinds7 (kinds7.map fun k => D.int (cnt W h L k : Nat)) kinds7 (kinds7.map fun k => D.int (cnt W h L k : Nat)) = true then some (D.bl false) else none) = _
    rw [if_pos ss]
    rfl
  simp -implicitDefEqProofs only [K1.B14, o_sIf, o_bOr, o_bOf, o_eOp, o_eLc, o_iSeq, o_eFun, o_aCons, o_aNil, eVar_def, List.getElem?_cons_zero, List.getElem?_cons_succ, M.pure_bind, M.bind_assoc, M.opt_some, List.length_cons, List.length_nil, Nat.zero_add, if_true, fa, sqt, wipeG, List.set_cons_succ, List.set_cons_zero, lt, nox_pure, nl, o_asB, ned, Bool.false_eq_true, if_false, o_sNil]
  rfl
theorem c15 (μ : List D) (s0 s1 s2 s3 s4 s5 s6 s7 s8 s9 s10 s11 s12 s13 s14 s15 s16 s17 s18 s19 s20 s21 s22 s23 s24 s25 s26 s27 s28 s29 s30 : Sl) : K1.B15 [s0, s1, s2, s3, s4, s5, s6, s7, s8, s9, s10, s11, s12, s13, s14, s15, s16, s17, s18, s19, s20, s21, s22, s23, s24, s25, s26, s27, s28, s29, s30] μ = .ok (.nx [s0, s1, s2, s3, s4, s5, s6, s7, s8, s9, s10, s11, s12, s13, .v (.lst []), .v (.lst []), s16, s17, s18, s19, s20, s21, s22, s23, s24, s25, s26, s27, s28, s29, s30]) μ := by
  rfl
end
end Dd.Ma
namespace Dd.Ma
open PySem L2 K1
section
variable {W h : Nat} {sgs : List Nat}
theorem add_lDs (A B : List (List (List Nat))) (hl : A.length + B.length ≤ 16777216) : dAdd (.lst (A.map lD)) (.lst (B.map lD)) = some (.lst ((A ++ B).map lD)) := by
  have : ∀ x y : List D, x.length + y.length ≤ 16777216 → dAdd (.lst x) (.lst y) = some (.lst (x ++ y)) := fun x y hh => by
    unfold dAdd
    dsimp only
    rw [if_pos hh]
  rw [this _ _ (by rw [List.length_map, List.length_map]; exact hl), List.map_append]
theorem lc_rot {Γ : Env} {k W h : Nat} {I : List (List Nat)} (o : Ok I h W) (hk : k < W) (w6 : W ≤ 100) (e28 : ∀ r : D, (Γ.set 25 (.v r))[28]? = some (.v (.int (k : Int)))) (e25 : ∀ r : D, (Γ.set 25 (.v r))[25]? = some (.v r)) : lcF (tName 25) bYes (eOp dAdd (eSl (eVar 25) (oSome (eVar 28)) oNone) (eSl (eVar 25) oNone (oSome (eVar 28)))) Γ (rows I) = M.pure (rows (rotk I k)) := by
  rw [lc_rows (fun r => rD (r.drop k ++ r.take k)) I fun r hr => ⟨_, rfl, rfl, by
    have hl := o.wd r hr
    have c1 : dSl (rD r) (some (k : Int)) none = some (rD (r.drop k)) := by
      show some (D.str (cutS (rS r) _ _)) = _
      rw [rS_cut, cut_lo r k (by omega)]
      rfl
    have c2 : dSl (rD r) none (some (k : Int)) = some (rD (r.take k)) := by
      show some (D.str (cutS (rS r) _ _)) = _
      rw [rS_cut, cut_hi r k (by omega)]
      rfl
    have v25 := var_v (e25 (rD r))
    have v28 := var_v (e28 (rD r))
    have ad := add_str (r.drop k) (r.take k) (by rw [List.length_drop, List.length_take]; omega)
    simp -implicitDefEqProofs [v25, v28, c1, c2, ad]⟩]
  unfold rows rotk
  rw [List.map_map]
  rfl
theorem c16 (g : Shape W h) (q : Sg3 sgs W h) (μ : List D) (s0 s1 s2 s3 s4 s5 s6 s7 s8 s9 s10 s11 s12 s13 s14 s15 s16 s17 s18 s19 s20 s21 s22 s23 s24 s25 s26 s27 s28 s29 s30 : Sl) : ∃ z12 z15 z16 z17, K1.B16 [s0, s1, s2, .v (.int (W : Int)), .v (.int (h : Int)), s5, s6, s7, s8, s9, s10, .v (.lst ((tabs sgs W h).map lD)), s12, s13, .v (.lst []), .v (.lst []), s16, s17, s18, s19, s20, s21, s22, s23, s24, s25, s26, s27, s28, s29, s30] μ = .ok (.nx [s0, s1, s2, .v (.int (W : Int)), .v (.int (h : Int)), s5, s6, s7, s8, s9, s10, .v (.lst ((tabs sgs W h).map lD)), z12, s13, .v (.lst ((firsts W (tabs sgs W h)).map lD)), z15, z16, z17, s18, s19, s20, s21, s22, s23, s24, s25, s26, s27, s28, s29, s30]) μ := by
  have so := tabs_st (sgs := sgs) g
  have tl := tabs_len q.hb
  have w6 := g.w6
  generalize tabs sgs W h = Ts at *
  have rW := rng_nat W (by omega)
  have il : ∀ (Rs : List (List (List Nat))), (Rs.flatMap fun B => imgs B W).length = Rs.length * (4 * W) := fun Rs => by
    induction Rs with
    | nil => simp
    | cons B Rs ih =>
      have e4 : (imgs B W).length = 4 * W := by
        unfold imgs four turnsOf
        simp
        omega
      rw [List.flatMap_cons, List.length_append, ih, List.length_cons, Nat.succ_mul Rs.length, e4, Nat.add_comm]
  have sql : ∀ xs : List D, seqOf (.lst xs) = some xs := fun _ => rfl
  -- one image turned
  have inner : ∀ (R I : List (List Nat)) (Acc : List (List (List Nat))) (s14 s15 s28 : Sl), Ok I h W → Acc.length ≤ 100 → (sSet 16 (eOp dAdd (eVar 16) (eLc (iRng1 (aCons (eVar 3) (aNil))) (tName 28) (bYes) (eLc (iSeq (eVar 17)) (tName 25) (bYes) (eOp dAdd (eSl (eVar 25) (oSome (eVar 28)) oNone) (eSl (eVar 25) oNone (oSome (eVar 28)))) [25]) [28]))) [s0, s1, s2, .v (.int (W : Int)), .v (.int (h : Int)), s5, s6, s7, s8, s9, s10, .v (.lst (Ts.map lD)), .v (lD R), s13, s14, s15, .v (.lst (Acc.map lD)), .v (lD I), s18, s19, s20, s21, s22, s23, s24, s25, s26, s27, s28, s29, s30] = M.pure (.nx [s0, s1, s2, .v (.int (W : Int)), .v (.int (h : Int)), s5, s6, s7, s8, s9, s10, .v (.lst (Ts.map lD)), .v (lD R), s13, s14, s15, .v (.lst ((Acc ++ turnsOf I W).map lD)), .v (lD I), s18, s19, s20, s21, s22, s23, s24, s25, s26, s27, s28, s29, s30]) := by
    intro R I Acc s14 s15 s28 oI hA
    have lo : lcF (tName 28) bYes (eLc (iSeq (eVar 17)) (tName 25) (bYes) (eOp dAdd (eSl (eVar 25) (oSome (eVar 28)) oNone) (eSl (eVar 25) oNone (oSome (eVar 28)))) [25]) [s0, s1, s2, .v (.int (W : Int)), .v (.int (h : Int)), s5, s6, s7, s8, s9, s10, .v (.lst (Ts.map lD)), .v (lD R), s13, s14, s15, .v (.lst (Acc.map lD)), .v (lD I), s18, s19, s20, s21, s22, s23, s24, s25, s26, s27, .no, s29, s30] (intsD 0 W) = M.pure ((turnsOf I W).map lD) := by
      rw [lc_nats (fun k => lD (rotk I k)) W fun k hk => ⟨_, rfl, rfl, by
        have l1 := lc_rot (Γ := [s0, s1, s2, .v (.int (W : Int)), .v (.int (h : Int)), s5, s6, s7, s8, s9, s10, .v (.lst (Ts.map lD)), .v (lD R), s13, s14, s15, .v (.lst (Acc.map lD)), .v (lD I), s18, s19, s20, s21, s22, s23, s24, .no, s26, s27, .v (.int (k : Int)), s29, s30]) oI hk (by omega) (fun _ => rfl) (fun _ => rfl)
        have sq : seqOf (lD I) = some (rows I) := rfl
        simp -implicitDefEqProofs only [o_eLc, o_iSeq, eVar_def, List.set_cons_succ, List.set_cons_zero, List.getElem?_cons_zero, List.getElem?_cons_succ, M.pure_bind, M.opt_some, sq, wipeG, l1, nox_pure]
        rfl⟩]
      unfold turnsOf
      rw [List.map_map]
      rfl
    have ad := add_lDs Acc (turnsOf I W) (by unfold turnsOf; rw [List.length_map, List.length_range]; omega)
    simp -implicitDefEqProofs only [o_sSet, o_eOp, o_eLc, o_iRng1, o_aCons, o_aNil, eVar_def, List.set_cons_succ, List.set_cons_zero, List.getElem?_cons_zero, List.getElem?_cons_succ, M.pure_bind, M.bind_assoc, M.opt_some, List.length_cons, List.length_nil, Nat.zero_add, if_true, rW, wipeG, lo, nox_pure, ad]
  obtain ⟨Γ', ⟨_, z12, z16, z17, rfl⟩, e⟩ := loop_all (T := tName 12) (F := sSeq (sSet 16 (eLst (aNil)))
      (sSeq (sFor (iSeq (eLst (aCons (eVar 12) (aCons (eRev (eVar 12)) (aCons (eLc (iSeq (eVar 12)) (tName 25) (bYes) (eRev (eVar 25)) [25]) (aCons (eLc (iSeq (eRev (eVar 12))) (tName 25) (bYes) (eRev (eVar 25)) [25]) (aNil))))))) (tName 17) (sSet 16 (eOp dAdd (eVar 16) (eLc (iRng1 (aCons (eVar 3) (aNil))) (tName 28) (bYes) (eLc (iSeq (eVar 17)) (tName 25) (bYes) (eOp dAdd (eSl (eVar 25) (oSome (eVar 28)) oNone) (eSl (eVar 25) oNone (oSome (eVar 28)))) [25]) [28]))))
      (sIf (bOf (eOp dNotInL (eVar 12) (eVar 15))) (sPar 14 15 (aCons (eOp dAdd (eVar 14) (eLst (aCons (eVar 12) (aNil)))) (aCons (eOp dAdd (eVar 15) (eVar 16)) (aNil)))) (sNil)))) (fun (don : List (List (List Nat))) Γ => (∀ R ∈ don, R ∈ Ts) ∧ ∃ z12 z16 z17, Γ = [s0, s1, s2, .v (.int (W : Int)), .v (.int (h : Int)), s5, s6, s7, s8, s9, s10, .v (.lst (Ts.map lD)), z12, s13, .v (.lst ((firsts W don).map lD)), .v (.lst (((firsts W don).flatMap fun B => imgs B W).map lD)), z16, z17, s18, s19, s20, s21, s22, s23, s24, s25, s26, s27, s28, s29, s30]) lD Ts.length Ts [] (Γ := [s0, s1, s2, .v (.int (W : Int)), .v (.int (h : Int)), s5, s6, s7, s8, s9, s10, .v (.lst (Ts.map lD)), s12, s13, .v (.lst []), .v (.lst []), s16, s17, s18, s19, s20, s21, s22, s23, s24, s25, s26, s27, s28, s29, s30]) (by simp) ⟨fun _ h => (nomatch h), s12, s16, s17, rfl⟩ (by
    rintro R don Γ hR hd ⟨hsub, z12, z16, z17, rfl⟩
    have oR := (so R hR).o
    have o2 : Ok R.reverse h W := oR.rev
    have o3 : Ok (R.map List.reverse) h W := by rw [lr_list (so R hR)]; exact (so R hR).lr.o
    have o4 : Ok (R.reverse.map List.reverse) h W := by rw [tr_list (so R hR)]; exact (so R hR).tr.o
    have fl := firsts_len W don []
    have fl : (firsts W don).length ≤ don.length := by unfold firsts; simpa using fl
    have tlen : ∀ I, (turnsOf I W).length = W := fun I => by unfold turnsOf; rw [List.length_map, List.length_range]
    have ni := notIn_lDs R ((firsts W don).flatMap fun B => imgs B W)
    have ilf := il (firsts W don)
    have ad1 := add_lDs (firsts W don) [R] (by simp; omega)
    have ad2 := add_lDs ((firsts W don).flatMap fun B => imgs B W) (imgs R W) (by
      have i1 := il [R]
      have hm : (firsts W don).length * (4 * W) ≤ 5000 * (4 * 6) := Nat.mul_le_mul (by omega) (by omega)
      simp at i1
      omega)
    have ex : ∃ Γ2 : Env, (fun Γ : Env => (∀ A ∈ don ++ [R], A ∈ Ts) ∧ ∃ z12 z16 z17, Γ = [s0, s1, s2, .v (.int (W : Int)), .v (.int (h : Int)), s5, s6, s7, s8, s9, s10, .v (.lst (Ts.map lD)), z12, s13, .v (.lst ((firsts W (don ++ [R])).map lD)), .v (.lst (((firsts W (don ++ [R])).flatMap fun B => imgs B W).map lD)), z16, z17, s18, s19, s20, s21, s22, s23, s24, s25, s26, s27, s28, s29, s30]) Γ2 ∧ (sIf (bOf (eOp dNotInL (eVar 12) (eVar 15))) (sPar 14 15 (aCons (eOp dAdd (eVar 14) (eLst (aCons (eVar 12) (aNil)))) (aCons (eOp dAdd (eVar 15) (eVar 16)) (aNil)))) (sNil)) [s0, s1, s2, .v (.int (W : Int)), .v (.int (h : Int)), s5, s6, s7, s8, s9, s10, .v (.lst (Ts.map lD)), .v (lD R), s13, .v (.lst ((firsts W don).map lD)), .v (.lst (((firsts W don).flatMap fun B => imgs B W).map lD)), .v (.lst ((imgs R W).map lD)), .v (lD (R.reverse.map List.reverse)), s18, s19, s20, s21, s22, s23, s24, s25, s26, s27, s28, s29, s30] = M.pure (.nx Γ2) := by
      refine ⟨_, ⟨fun A hA => ?_, .v (lD R), .v (.lst ((imgs R W).map lD)), .v (lD (R.reverse.map List.reverse)), rfl⟩, ?_⟩
      · rcases List.mem_append.mp hA with hA | hA
        · exact hsub A hA
        · rw [List.mem_singleton.mp hA]; exact hR
      · have l1 : (1 : Nat) ≤ 16777216 := by decide
        have lR : .lst [lD R] = D.lst ([R].map lD) := rfl
        rw [firsts_snoc]
        unfold stepF
        by_cases c : R ∈ (firsts W don).flatMap fun B => imgs B W
        · rw [if_pos c]
          rw [decide_eq_true c] at ni
          simp -implicitDefEqProofs only [o_sIf, o_bOf, o_eOp, eVar_def, List.getElem?_cons_zero, List.getElem?_cons_succ, M.pure_bind, M.bind_assoc, M.opt_some, ni, o_asB, Bool.not_true, Bool.false_eq_true, if_false, o_sNil]
        · rw [if_neg c]
          rw [decide_eq_false c] at ni
          simp -implicitDefEqProofs only [o_sIf, o_bOf, o_eOp, o_sPar, o_eLst, o_aCons, o_aNil, eVar_def, List.getElem?_cons_zero, List.getElem?_cons_succ, M.pure_bind, M.bind_assoc, M.opt_some, ni, o_asB, Bool.not_false, if_true, l1, List.length_cons, List.length_nil, Nat.zero_add, lR, ad1, ad2, List.set_cons_succ, List.set_cons_zero]
          rw [List.flatMap_append]
          simp only [List.flatMap_cons, List.flatMap_nil, List.append_nil]
    obtain ⟨Γ2, hΓ2, e2⟩ := ex
    refine ⟨_, rfl, Γ2, hΓ2, ?_⟩
    rw [← e2]
    have i1 := inner R R [] (.v (.lst ((firsts W don).map lD))) (.v (.lst (((firsts W don).flatMap fun B => imgs B W).map lD))) s28 oR (by simp)
    have i2 := inner R R.reverse (turnsOf R W) (.v (.lst ((firsts W don).map lD))) (.v (.lst (((firsts W don).flatMap fun B => imgs B W).map lD))) s28 o2 (by rw [tlen]; omega)
    have i3 := inner R (R.map List.reverse) (turnsOf R W ++ turnsOf R.reverse W) (.v (.lst ((firsts W don).map lD))) (.v (.lst (((firsts W don).flatMap fun B => imgs B W).map lD))) s28 o3 (by rw [List.length_append, tlen, tlen]; omega)
    have i4 := inner R (R.reverse.map List.reverse) (turnsOf R W ++ turnsOf R.reverse W ++ turnsOf (R.map List.reverse) W) (.v (.lst ((firsts W don).map lD))) (.v (.lst (((firsts W don).flatMap fun B => imgs B W).map lD))) s28 o4 (by rw [List.length_append, List.length_append, tlen, tlen, tlen]; omega)
    have im : imgs R W = turnsOf R W ++ turnsOf R.reverse W ++ turnsOf (R.map List.reverse) W ++ turnsOf (R.reverse.map List.reverse) W := by
      unfold imgs four
      simp only [List.flatMap_cons, List.flatMap_nil, List.append_nil, List.append_assoc]
    rw [← im] at i4
    rw [List.nil_append] at i1
    have l0 : (0 : Nat) ≤ 16777216 := by decide
    have l4 : (4 : Nat) ≤ 16777216 := by decide
    have rv : ∀ xs : List (List Nat), dRev (lD xs) = some (lD xs.reverse) := fun xs => by
      show some (D.lst (rows xs).reverse) = _
      rw [rows_rev]
      rfl
    have sqD : ∀ xs : List (List Nat), seqOf (lD xs) = some (rows xs) := fun _ => rfl
    have lf : ∀ (Q : List (List Nat)), lcF (tName 25) bYes (eRev (eVar 25)) [s0, s1, s2, .v (.int (W : Int)), .v (.int (h : Int)), s5, s6, s7, s8, s9, s10, .v (.lst (Ts.map lD)), .v (lD R), s13, .v (.lst ((firsts W don).map lD)), .v (.lst (((firsts W don).flatMap fun B => imgs B W).map lD)), .v (.lst []), z17, s18, s19, s20, s21, s22, s23, s24, .no, s26, s27, s28, s29, s30] (rows Q) = M.pure (rows (Q.map List.reverse)) := fun Q => lc_flip (fun _ => rfl) Q
    have fold1 : ∀ xs : List (List Nat), D.lst (rows xs) = lD xs := fun _ => rfl
    have nl : ∀ s : Sl, s = s := fun _ => rfl
    have emp : (D.lst ([] : List D)) = D.lst (([] : List (List (List Nat))).map lD) := rfl
    simp -implicitDefEqProofs only [o_sSeq, o_sSet, o_eLst, o_sFor, o_iSeq, o_aCons, o_aNil, o_eRev, o_eLc, eVar_def, List.set_cons_succ, List.set_cons_zero, List.getElem?_cons_zero, List.getElem?_cons_succ, M.pure_bind, M.bind_assoc, M.opt_some, List.length_cons, List.length_nil, Nat.zero_add, Nat.reduceAdd, if_true, l0, l4, rv, sqD, wipeG, lf, nox_pure, fold1, sql]
    have stp : ∀ (I : List (List Nat)) (l : List D) (Γ Γ1 : Env) (F : SF), F (Γ.set 17 (.v (lD I))) = M.pure (.nx Γ1) → loopF (tName 17) F (lD I :: l) Γ = loopF (tName 17) F l Γ1 := fun I l Γ Γ1 F hF => by
      rw [loopF]
      show M.bind (M.opt (some (Γ.set 17 (.v (lD I))))) _ = _
      rw [M.opt_some, M.pure_bind, hF, M.pure_bind]
    rw [stp R _ _ _ _ i1, stp R.reverse _ _ _ _ i2, stp (R.map List.reverse) _ _ _ _ i3, stp (R.reverse.map List.reverse) _ _ _ _ i4]
    show M.bind (M.pure _) _ = _
    rw [M.pure_bind])
  refine ⟨z12, .v (.lst (((firsts W Ts).flatMap fun B => imgs B W).map lD)), z16, z17, ?_⟩
  simp -implicitDefEqProofs only [K1.B16, o_sFor, o_iSeq, eVar_def, List.getElem?_cons_zero, List.getElem?_cons_succ, M.pure_bind, M.bind_assoc, M.opt_some, sql]
  rw [e]
  rfl
end
end Dd.Ma
namespace Dd.Ma
open PySem L2 K1
section
variable {W h : Nat} {sgs : List Nat}
theorem c17 (g : Shape W h) (q : Sg3 sgs W h) (μ : List D) (s0 s1 s2 s3 s4 s5 s6 s7 s8 s9 s10 s11 s12 s13 s14 s15 s16 s17 s18 s19 s20 s21 s22 s23 s24 s25 s26 s27 s28 s29 s30 : Sl) : K1.B17 [s0, s1, s2, .v (.int (W : Int)), .v (.int (h : Int)), s5, s6, s7, s8, s9, .v (rD sgs), s11, s12, s13, .v (.lst ((firsts W (tabs sgs W h)).map lD)), s15, s16, s17, s18, s19, s20, s21, s22, s23, s24, s25, s26, s27, s28, s29, s30] μ = .ok (.nx [s0, s1, s2, .v (.int (W : Int)), .v (.int (h : Int)), s5, s6, s7, s8, s9, .v (rD sgs), s11, s12, s13, .v (.lst ((firsts W (tabs sgs W h)).map lD)), s15, s16, s17, s18, s19, s20, s21, s22, s23, s24, s25, s26, s27, s28, s29, s30]) μ := by
  have fu := f_unlike g q.h1 q.h3 q.hb
  generalize firsts W (tabs sgs W h) = Ts at *
  have nl := ne_lDs Ts
  have lt := lst_tables (T := tName 12) (fb := bYes) (fe := eCall dList (aCons (eFld 0 0 (eVar 12)) (aNil))) (Γ := [s0, s1, s2, .v (.int (W : Int)), .v (.int (h : Int)), s5, s6, s7, s8, s9, .v (rD sgs), s11, .no, s13, .v (.lst (Ts.map lD)), s15, s16, s17, s18, s19, s20, s21, s22, s23, s24, s25, s26, s27, s28, s29, s30]) Ts fun R => ⟨_, rfl, rfl, by
    simp -implicitDefEqProofs only [o_eCall, o_aCons, o_aNil, o_eFld, eVar_def, List.set_cons_succ, List.set_cons_zero, List.getElem?_cons_zero, List.getElem?_cons_succ, M.pure_bind, M.opt_some, fld_sD, dl_tup]
    rfl⟩
  have sqt : ∀ xs : List D, seqOf (.tup xs) = some xs := fun _ => rfl
  simp -implicitDefEqProofs only [K1.B17, o_sIf, o_bOf, o_eOp, o_eLc, o_iSeq, o_eFun, o_aCons, o_aNil, eVar_def, List.getElem?_cons_zero, List.getElem?_cons_succ, M.pure_bind, M.bind_assoc, M.opt_some, List.length_cons, List.length_nil, Nat.zero_add, if_true, fu, sqt, wipeG, List.set_cons_succ, List.set_cons_zero, lt, nox_pure, nl, o_asB, Bool.false_eq_true, if_false, o_sNil]
  rfl
theorem tabs_pos (q : Sg3 sgs W h) : 0 < (tabs sgs W h).length := by
  unfold tabs
  rw [List.length_map, words_len]
  have := q.h1
  exact Nat.pow_pos (by omega)
theorem c18 (q : Sg3 sgs W h) {μ : List D} (hd : Dice μ) (s0 s1 s2 s3 s4 s5 s6 s7 s8 s9 s10 s11 s12 s13 s14 s15 s16 s17 s18 s19 s20 s21 s22 s23 s24 s25 s26 s27 s28 s29 s30 : Sl) : ∃ A ∈ tabs sgs W h, ∃ μ', Dice μ' ∧ K1.B18 [s0, s1, .v (.cell 0), s3, s4, s5, s6, s7, s8, s9, s10, .v (.lst ((tabs sgs W h).map lD)), s12, s13, s14, s15, s16, s17, s18, s19, s20, s21, s22, s23, s24, s25, s26, s27, s28, s29, s30] μ = .ok (.nx [s0, s1, .v (.cell 0), s3, s4, s5, s6, s7, s8, s9, s10, .v (.lst ((tabs sgs W h).map lD)), s12, s13, s14, s15, s16, s17, .v (lD A), s19, s20, s21, s22, s23, s24, s25, s26, s27, s28, s29, s30]) μ' := by
  have tl := tabs_len q.hb
  have tp := tabs_pos q
  generalize tabs sgs W h = Ts at *
  obtain ⟨r, hr, μ3, hd3, e3⟩ := f_roll Ts.length tp (by omega) hd
  refine ⟨Ts[r], List.getElem_mem _, μ3, hd3, ?_⟩
  have ix : dIx (.lst (Ts.map lD)) (.int (r : Int)) = some (lD Ts[r]) := by
    show atI (Ts.map lD) (r : Int) = _
    rw [atI_nat (by rw [List.length_map]; exact hr), List.getElem?_map, List.getElem?_eq_getElem hr]
    rfl
  have ln : dLen [.lst (Ts.map lD)] = some (.int (Ts.length : Int)) := by
    rw [o_len1, List.length_map]
  simp -implicitDefEqProofs only [K1.B18, o_sSet, o_eIx, o_eFun, o_eCall, o_aCons, o_aNil, eVar_def, List.getElem?_cons_zero, List.getElem?_cons_succ, M.pure_bind, M.bind_assoc, M.opt_some, List.length_cons, List.length_nil, Nat.zero_add, Nat.reduceAdd, if_true, ln]
  rw [bind_ok e3]
  simp -implicitDefEqProofs only [M.opt_some, M.pure_bind, ix]
  rfl
theorem c19 (μ : List D) (s0 s1 s2 s3 s4 s5 s6 s7 s8 s9 s10 s11 s12 s13 s14 s15 s16 s17 s18 s19 s20 s21 s22 s23 s24 s25 s26 s27 s28 s29 s30 : Sl) : K1.B19 [s0, s1, s2, s3, s4, s5, s6, s7, s8, s9, s10, s11, s12, s13, s14, s15, s16, s17, s18, s19, s20, s21, s22, s23, s24, s25, s26, s27, s28, s29, s30] μ = .ok (.nx [s0, s1, s2, s3, s4, s5, s6, s7, s8, s9, s10, s11, s12, s13, s14, s15, s16, s17, s18, .o (.lst []), s20, s21, s22, s23, s24, s25, s26, s27, s28, s29, s30]) μ := rfl
theorem c20 (g : Shape W h) (q : Sg3 sgs W h) {k : Nat} (hk : k < 7) {A : List (List Nat)} (hA : A ∈ tabs sgs W h) (μ : List D) (s0 s1 s2 s3 s4 s5 s6 s7 s8 s9 s10 s11 s12 s13 s14 s15 s16 s17 s18 s19 s20 s21 s22 s23 s24 s25 s26 s27 s28 s29 s30 : Sl) : ∃ z12 z20, K1.B20 [s0, s1, s2, s3, s4, .v (.str (kS k)), s6, s7, s8, s9, s10, .v (.lst ((tabs sgs W h).map lD)), s12, s13, s14, s15, s16, s17, .v (lD A), .o (.lst []), s20, s21, s22, s23, s24, s25, s26, s27, s28, s29, s30] μ = .ok (.nx [s0, s1, s2, s3, s4, .v (.str (kS k)), s6, s7, s8, s9, s10, .v (.lst ((tabs sgs W h).map lD)), z12, s13, s14, s15, s16, s17, .v (lD A), .o (.lst (nearF (fun B => hasB B h W k) A 0 (tabs sgs W h))), z20, s21, s22, s23, s24, s25, s26, s27, s28, s29, s30]) μ := by
  have so := tabs_st (sgs := sgs) g
  have tl := tabs_len q.hb
  have hc := fun B hB => f_lhasK (so B hB) k hk
  have oA := (so A hA).o
  have jn : ∀ B, St B h W → dJoin "" (lD B) = some (rD B.flatten) := fun B s => join_rows B (by
    rw [flat_len B s.o.wd, s.o.len]
    have : h * W ≤ 8 * 24 := Nat.mul_le_mul s.h8 s.w24
    omega)
  have jA := jn A (so A hA)
  generalize kS k = K at *
  generalize tabs sgs W h = Ts at *
  have en : enumD [.lst (Ts.map lD)] = some (enumL lD 0 Ts) := by
    show some (enumF (Ts.map lD)) = _
    rw [enumF_eq]
  have loop : ∀ (Bs : List (List (List Nat))) (p : Nat) (acc : List D) (z12 z20 : Sl), (∀ B ∈ Bs, B ∈ Ts) → acc.length + Bs.length ≤ 5000 → ∃ z12' z20', loopF (tTup 2 (tsCons (tName 20) (tsCons (tName 12) (tsNil)))) (sIf (bOf (eFun 2 Fn_law_has (aCons (eVar 12) (aCons (eVar 5) (aNil))))) (sAppend 19 (eTup (aCons (eCall dLen (aCons (eLc (iZipE (aCons (eJoin (eC (.str "")) (eVar 18)) (aCons (eJoin (eC (.str "")) (eVar 12)) (aNil)))) (tTup 2 (tsCons (tName 29) (tsCons (tName 30) (tsNil)))) (bOf (eOp dNe (eVar 29) (eVar 30))) (eC (.int 1)) [29, 30]) (aNil))) (aCons (eVar 20) (aCons (eCall dTuple (aCons (eVar 12) (aNil))) (aNil)))))) (sNil)) (enumL lD p Bs) [s0, s1, s2, s3, s4, .v (.str K), s6, s7, s8, s9, s10, .v (.lst (Ts.map lD)), z12, s13, s14, s15, s16, s17, .v (lD A), .o (.lst acc), z20, s21, s22, s23, s24, s25, s26, s27, s28, s29, s30] = M.pure (.nx [s0, s1, s2, s3, s4, .v (.str K), s6, s7, s8, s9, s10, .v (.lst (Ts.map lD)), z12', s13, s14, s15, s16, s17, .v (lD A), .o (.lst (acc ++ nearF (fun B => hasB B h W k) A p Bs)), z20', s21, s22, s23, s24, s25, s26, s27, s28, s29, s30]) := by
    intro Bs
    induction Bs with
    | nil => intro p acc z12 z20 _ _; exact ⟨z12, z20, by rw [show nearF (fun B => hasB B h W k) A p [] = [] from rfl, List.append_nil]; rfl⟩
    | cons B Bs ih =>
      intro p acc z12 z20 hBs hl
      rw [List.length_cons] at hl
      have hB := hBs B List.mem_cons_self
      have oB := (so B hB).o
      have hcB : Fn_law_has [lD B, .str K] = M.pure (.bl (hasB B h W k)) := hc B hB
      have jB := jn B (so B hB)
      show ∃ z12' z20', loopF _ _ (.tup [.int (p : Nat), lD B] :: enumL lD (p + 1) Bs) _ = _
      have tg : tTup 2 (tsCons (tName 20) (tsCons (tName 12) (tsNil))) (.tup [.int (p : Nat), lD B]) [s0, s1, s2, s3, s4, .v (.str K), s6, s7, s8, s9, s10, .v (.lst (Ts.map lD)), z12, s13, s14, s15, s16, s17, .v (lD A), .o (.lst acc), z20, s21, s22, s23, s24, s25, s26, s27, s28, s29, s30] = some [s0, s1, s2, s3, s4, .v (.str K), s6, s7, s8, s9, s10, .v (.lst (Ts.map lD)), .v (lD B), s13, s14, s15, s16, s17, .v (lD A), .o (.lst acc), .v (.int (p : Nat)), s21, s22, s23, s24, s25, s26, s27, s28, s29, s30] := rfl
      obtain ⟨z12', z20', e2⟩ := ih (p + 1) (acc ++ if hasB B h W k = true then [rowD A p B] else []) (.v (lD B)) (.v (.int (p : Nat))) (fun C hC => hBs C (List.mem_cons_of_mem _ hC)) (by
        rw [List.length_append]
        split <;> simp <;> omega)
      refine ⟨z12', z20', ?_⟩
      have nx : acc ++ nearF (fun B => hasB B h W k) A p (B :: Bs) = (acc ++ if hasB B h W k = true then [rowD A p B] else []) ++ nearF (fun B => hasB B h W k) A (p + 1) Bs := by
        rw [List.append_assoc]
        rfl
      rw [nx, ← e2]
      obtain ⟨ys, e5, e6⟩ := lc_unl (i := 29) (j := 30) (Γ := [s0, s1, s2, s3, s4, .v (.str K), s6, s7, s8, s9, s10, .v (.lst (Ts.map lD)), .v (lD B), s13, s14, s15, s16, s17, .v (lD A), .o (.lst acc), .v (.int (p : Nat)), s21, s22, s23, s24, s25, s26, s27, s28, .no, .no]) A.flatten B.flatten fun a b => ⟨_, rfl, rfl, rfl⟩
      rw [unl_flat A B (by rw [oA.len, oB.len]) oA.wd oB.wd] at e6
      have zd : zipDB [rD A.flatten, rD B.flatten] = some (zipF (A.flatten.map signD) (B.flatten.map signD)) := by
        show some (zipF ((rS A.flatten).cps.toList.map signD) ((rS B.flatten).cps.toList.map signD)) = _
        rw [rS_cps, rS_cps]
      have ow : ownL 19 [s0, s1, s2, s3, s4, .v (.str K), s6, s7, s8, s9, s10, .v (.lst (Ts.map lD)), .v (lD B), s13, s14, s15, s16, s17, .v (lD A), .o (.lst acc), .v (.int (p : Nat)), s21, s22, s23, s24, s25, s26, s27, s28, s29, s30] = some acc := rfl
      have dt : dTuple [lD B] = some (.tup (rows B)) := rfl
      have tr : D.tup [.int (dif A B : Nat), .int (p : Nat), .tup (rows B)] = rowD A p B := rfl
      have ln : dLen [.lst ys] = some (.int (dif A B : Nat)) := by rw [o_len1, e6]
      have lim : acc.length < 16777216 := by omega
      rw [loopF, tg, M.opt_some, M.pure_bind]
      by_cases c : hasB B h W k = true
      · rw [if_pos c]
        rw [c] at hcB
        have l3 : (3 : Nat) ≤ 16777216 := by decide
        simp -implicitDefEqProofs only [l3, o_sIf, o_bOf, o_eFun, o_sAppend, o_eTup, o_eCall, o_aCons, o_aNil, o_eLc, o_iZipE, o_eJoin', o_eC, asS, eVar_def, List.getElem?_cons_zero, List.getElem?_cons_succ, M.pure_bind, M.bind_assoc, M.opt_some, List.length_cons, List.length_nil, Nat.zero_add, Nat.reduceAdd, if_true, hcB, o_asB, ow, jA, jB, zd, wipeG, List.set_cons_succ, List.set_cons_zero, e5, nox_pure, ln, dt, tr, lim]
      · rw [if_neg c, List.append_nil]
        rw [Bool.not_eq_true] at c
        rw [c] at hcB
        simp -implicitDefEqProofs only [o_sIf, o_bOf, o_eFun, o_aCons, o_aNil, eVar_def, List.getElem?_cons_zero, List.getElem?_cons_succ, M.pure_bind, M.bind_assoc, M.opt_some, List.length_cons, List.length_nil, Nat.zero_add, Nat.reduceAdd, if_true, hcB, o_asB, Bool.false_eq_true, if_false, o_sNil]
  obtain ⟨z12, z20, e⟩ := loop Ts 0 [] s12 s20 (fun _ h => h) (by rw [List.length_nil]; omega)
  refine ⟨z12, z20, ?_⟩
  simp -implicitDefEqProofs only [K1.B20, o_sFor, o_iEnumE, o_aCons, o_aNil, eVar_def, List.getElem?_cons_zero, List.getElem?_cons_succ, M.pure_bind, M.bind_assoc, M.opt_some, en]
  rw [e]
  rfl
/-! ### some strip has the kind -/
theorem const_sg {w : List Nat} {c : Nat} (g : Shape W h) (hw : w.length = W * h) (hc : ∀ x ∈ w, x = c) {y : Nat} (hy : y < h) (x : Int) : sg (cutR w W h) W x y = c := by
  obtain ⟨r, e1, h1⟩ := (cutR_ok g.wp g.hp hw).row hy
  obtain ⟨n, en, hn⟩ := mod_nat x g.wp
  have er : r = (w.drop (y * W)).take W := by
    unfold cutR at e1
    rw [List.getElem?_map, List.getElem?_range hy] at e1
    exact (Option.some.inj e1).symm
  have hi : r[n]? = some r[n] := List.getElem?_eq_getElem (by rw [h1]; exact hn)
  have hm : r[n] ∈ w := by
    have : r[n] ∈ (w.drop (y * W)).take W := by rw [← er]; exact List.getElem_mem _
    exact List.mem_of_mem_drop (List.mem_of_mem_take this)
  unfold sg
  rw [e1, en]
  simp [hi, hc _ hm]
theorem const_has {R : List (List Nat)} {c : Nat} (hc : ∀ y, y < h → ∀ x : Int, sg R W x y = c) : ∀ k, k < 7 → HasK R h W k := by
  have kc : ∀ flip turn m, Kp R h W flip turn m := fun flip turn m y hy x => by
    rw [hc y hy, hc]
    split
    · omega
    · exact hy
  intro k hk
  rcases k with _ | _ | _ | _ | _ | _ | _ | k
  · exact trivial
  · exact ⟨0, kc _ _ _⟩
  · exact ⟨0, kc _ _ _⟩
  · exact ⟨0, kc _ _ _⟩
  · exact ⟨⟨0, kc _ _ _⟩, ⟨0, kc _ _ _⟩, ⟨0, kc _ _ _⟩⟩
  · exact kc _ _ _
  · exact ⟨kc _ _ _, ⟨0, kc _ _ _⟩⟩
  · omega
theorem const_word {c : Nat} (hc : c ∈ sgs) : ∀ n, List.replicate n c ∈ wordsN sgs n
  | 0 => List.mem_singleton.mpr rfl
  | n + 1 => by
    show _ ∈ (wordsN sgs n).flatMap (ext1 sgs)
    rw [List.mem_flatMap]
    refine ⟨_, const_word hc n, ?_⟩
    unfold ext1
    rw [List.mem_map]
    exact ⟨c, hc, by rw [← List.replicate_succ']⟩
theorem near_ne {hp : List (List Nat) → Bool} {A B : List (List Nat)} (hB : hp B = true) : ∀ {Bs : List (List (List Nat))} {p : Nat}, B ∈ Bs → nearF hp A p Bs ≠ []
  | C :: Bs, p, hm => by
    rcases List.mem_cons.mp hm with rfl | hm
    · show (if hp B = true then [rowD A p B] else []) ++ _ ≠ []
      rw [if_pos hB]
      simp
    · have := near_ne (A := A) hB (Bs := Bs) (p := p + 1) hm
      show _ ++ nearF hp A (p + 1) Bs ≠ []
      simp [this]
theorem near_tabs (g : Shape W h) (q : Sg3 sgs W h) {k : Nat} (hk : k < 7) (A : List (List Nat)) : nearF (fun B => hasB B h W k) A 0 (tabs sgs W h) ≠ [] := by
  have := q.h1
  obtain ⟨c, hc⟩ : ∃ c, c ∈ sgs := by
    cases sgs with
    | nil => simp at this
    | cons c l => exact ⟨c, List.mem_cons_self⟩
  refine near_ne (B := cutR (List.replicate (W * h) c) W h) ?_ ?_
  · exact (hasB_iff k).mpr (const_has (c := c) (fun y hy x => const_sg g (by rw [List.length_replicate]) (fun x hx => (List.mem_replicate.mp hx).2) hy x) k hk)
  · unfold tabs
    rw [List.mem_map]
    exact ⟨_, const_word hc _, rfl⟩
theorem ne_pair (a : Int) (B : List (List Nat)) : dNe (.tup [.int a, .tup (rows B)]) (.tup [.int a, .tup (rows B)]) = some (.bl false) := by
  have py : isPy 8 (.tup [.int a, .tup (rows B)]) = true := by
    show (true && (isPy 7 (.tup (rows B)) && true)) = true
    rw [py_tup B 6]
    rfl
  have eq : eqD (.tup [.int a, .tup (rows B)]) (.tup [.int a, .tup (rows B)]) = true := by
    show ((a == a) && (PyData.eqvAll (toPys (rows B)) (toPys (rows B)) && true)) = true
    rw [eq_rows]
    simp
  unfold dNe
  rw [py, if_pos ⟨rfl, rfl⟩, eq]
  rfl
theorem c21 (g : Shape W h) (q : Sg3 sgs W h) {k : Nat} (hk : k < 7) {A : List (List Nat)} (hA : A ∈ tabs sgs W h) (μ : List D) (s0 s1 s2 s3 s4 s5 s6 s7 s8 s9 s10 s11 s12 s13 s14 s15 s16 s17 s18 s19 s20 s21 s22 s23 s24 s25 s26 s27 s28 s29 s30 : Sl) : K1.B21 [s0, s1, s2, s3, s4, .v (.str (kS k)), s6, s7, s8, s9, .v (rD sgs), s11, s12, s13, s14, s15, s16, s17, .v (lD A), .o (.lst (nearF (fun B => hasB B h W k) A 0 (tabs sgs W h))), s20, s21, s22, s23, s24, s25, s26, s27, s28, s29, s30] μ = .ok (.nx [s0, s1, s2, s3, s4, .v (.str (kS k)), s6, s7, s8, s9, .v (rD sgs), s11, s12, s13, s14, s15, s16, s17, .v (lD A), .o (.lst (nearF (fun B => hasB B h W k) A 0 (tabs sgs W h))), s20, s21, s22, s23, s24, s25, s26, s27, s28, s29, s30]) μ := by
  have sA := tabs_st (sgs := sgs) g A hA
  have nn := near_tabs g q hk A
  have fi : Fn_Strip_init [lD A] = M.pure (sD A) := sA.init (.lst (rows A)) (.inl rfl)
  have mem : ∀ d ∈ nearF (fun B => hasB B h W k) A 0 (tabs sgs W h), ∃ q B, d = rowD A q B := fun d hd => near_mem hd
  have mn := min_near nn (fun d hd => ⟨A, mem d hd⟩) ⟨A, mem⟩
  obtain ⟨p0, B0, eb⟩ : ∃ p0 B0, bestF (nearF (fun B => hasB B h W k) A 0 (tabs sgs W h)) = rowD A p0 B0 := by
    generalize nearF (fun B => hasB B h W k) A 0 (tabs sgs W h) = l at *
    cases l with
    | nil => exact absurd rfl nn
    | cons x xs => exact mem _ (best_mem xs x)
  have fn := f_nearest g q.h1 q.h3 q.hb sA hk (a0 := .int (dif A B0 : Nat)) (a1 := .int (p0 : Nat)) (B0 := B0) eb
  rw [eb] at mn
  generalize nearF (fun B => hasB B h W k) A 0 (tabs sgs W h) = l at *
  have ow : ownL 19 [s0, s1, s2, s3, s4, .v (.str (kS k)), s6, s7, s8, s9, .v (rD sgs), s11, s12, s13, s14, s15, s16, s17, .v (lD A), .o (.lst l), s20, s21, s22, s23, s24, s25, s26, s27, s28, s29, s30] = some l := rfl
  have i0 : dIx (rowD A p0 B0) (.int 0) = some (.int (dif A B0 : Nat)) := rfl
  have i2 : dIx (rowD A p0 B0) (.int 2) = some (.tup (rows B0)) := rfl
  have ne := ne_pair (dif A B0 : Nat) B0
  have l2 : (2 : Nat) ≤ 16777216 := by decide
  simp -implicitDefEqProofs only [l2, K1.B21, o_sIf, o_bOf, o_eOp, o_eFun, o_eTup, o_eIx, o_eMinO, o_eC, o_aCons, o_aNil, eVar_def, List.getElem?_cons_zero, List.getElem?_cons_succ, M.pure_bind, M.bind_assoc, M.opt_some, List.length_cons, List.length_nil, Nat.zero_add, Nat.reduceAdd, if_true, fi, fn, ow, mn, i0, i2, ne, o_asB, Bool.false_eq_true, if_false, o_sNil]
  rfl
end
end Dd.Ma
namespace Dd.Ma
open PySem L2 K1
theorem c22 {μ : List D} (hd : Dice μ) (s0 s1 s2 s3 s4 s5 s6 s7 s8 s9 s10 s11 s12 s13 s14 s15 s16 s17 s18 s19 s20 s21 s22 s23 s24 s25 s26 s27 s28 s29 s30 : Sl) : ∃ b c : Nat, (1 ≤ b ∧ b ≤ 6 ∧ 1 ≤ c ∧ c ≤ 3) ∧ ∃ μ', Dice μ' ∧ K1.B22 [s0, s1, .v (.cell 0), s3, s4, s5, s6, s7, s8, s9, s10, s11, s12, s13, s14, s15, s16, s17, s18, s19, s20, s21, s22, s23, s24, s25, s26, s27, s28, s29, s30] μ = .ok (.nx [s0, s1, .v (.cell 0), s3, s4, s5, s6, s7, s8, s9, s10, s11, s12, s13, s14, s15, s16, s17, s18, s19, s20, .v (.int (b : Int)), .v (.int (c : Int)), s23, s24, s25, s26, s27, s28, s29, s30]) μ' := by
  obtain ⟨x, hx, μ1, hd1, e1⟩ := f_roll 6 (by omega) (by omega) hd
  obtain ⟨y, hy, μ2, hd2, e2⟩ := f_roll 3 (by omega) (by omega) hd1
  obtain ⟨b, hb⟩ : ∃ n : Nat, n = 1 + x := ⟨_, rfl⟩
  obtain ⟨c, hc⟩ : ∃ n : Nat, n = 1 + y := ⟨_, rfl⟩
  have cb : (1 : Int) + (x : Int) = (b : Int) := by omega
  have cc : (1 : Int) + (y : Int) = (c : Int) := by omega
  refine ⟨b, c, ⟨by omega, by omega, by omega, by omega⟩, μ2, hd2, ?_⟩
  have e1 : Fn_law_roll [.cell 0, .int 6] μ = _ := e1
  have e2 : Fn_law_roll [.cell 0, .int 3] μ1 = _ := e2
  simp -implicitDefEqProofs [K1.B22, eVar_def, bind_app, pure_app, e1, e2, cb, cc]
theorem c23 {b c : Nat} (h : 1 ≤ b ∧ b ≤ 6 ∧ 1 ≤ c ∧ c ≤ 3) (μ : List D) (s0 s1 s2 s3 s4 s5 s6 s7 s8 s9 s10 s11 s12 s13 s14 s15 s16 s17 s18 s19 s20 s21 s22 s23 s24 s25 s26 s27 s28 s29 s30 : Sl) : K1.B23 [s0, s1, s2, s3, s4, s5, s6, s7, s8, s9, s10, s11, s12, s13, s14, s15, s16, s17, s18, s19, s20, .v (.int (b : Int)), .v (.int (c : Int)), s23, s24, s25, s26, s27, s28, s29, s30] μ = .ok (.nx [s0, s1, s2, s3, s4, s5, s6, s7, s8, s9, s10, s11, s12, s13, s14, s15, s16, s17, s18, s19, s20, .v (.int (b : Int)), .v (.int (c : Int)), s23, s24, s25, s26, s27, s28, s29, s30]) μ := by
  obtain ⟨h1, h2, h3, h4⟩ := h
  obtain ⟨p, q, e1, e2, e3, e4⟩ := rings_all b c h1 h2 h3 h4
  have n1 := ne_int (p : Int) (p : Int)
  have n2 := ne_int (q : Int) (q : Int)
  simp -implicitDefEqProofs only [K1.B23, o_sIf, o_bOr, o_bOf, o_eOp, o_eFun, o_eC, o_aCons, o_aNil, eVar_def, List.getElem?_cons_zero, List.getElem?_cons_succ, M.pure_bind, M.bind_assoc, M.opt_some, List.length_cons, List.length_nil, Nat.zero_add, Nat.reduceAdd, if_true, e1, e2, e3, e4, n1, n2, decide_true, Bool.not_true, o_asB, Bool.false_eq_true, if_false, o_sNil]
  rfl
theorem t_plain : fnF 2 F_law_plain [] [] = .ok (.bl true) [] := by kernel_rfl
theorem tail_ok (Γ : Env) (μ : List D) : FR_law Γ μ = .ok (.ret (.bl true)) μ := by
  unfold FR_law sRet
  have e : Fn_law_plain [] μ = .ok (.bl true) μ := by
    unfold Fn_law_plain fnP
    rw [t_plain]
  rw [bind_ok e]
  rfl
theorem body_ok {μ : List D} (hd : Dice μ) : ∃ μ', diceF FB_law FR_law [.no, .v (strsD strs_law), .v (.cell 0), .no, .no, .no, .no, .no, .no, .no, .no, .no, .no, .no, .no, .no, .no, .no, .no, .no, .no, .no, .no, .no, .no, .no, .no, .no, .no, .no, .no] μ = .ok (.ret (.bl true)) μ' := by
  obtain ⟨W, h, k, ⟨w1, w2, h1, h2, hk⟩, μ1, hd1, e1⟩ := c1 hd (.no) (.v (strsD strs_law)) (.v (.cell 0)) (.no) (.no) (.no) (.no) (.no) (.no) (.no) (.no) (.no) (.no) (.no) (.no) (.no) (.no) (.no) (.no) (.no) (.no) (.no) (.no) (.no) (.no) (.no) (.no) (.no) (.no) (.no) (.no)
  obtain ⟨R, g, μ2, hd2, e2⟩ := c2 (W := W) (h := h) ⟨w1, w2, h1, h2⟩ hd1 (.no) (.v (strsD strs_law)) (.v (.cell 0)) (.v (.int (W : Int))) (.v (.int (h : Int))) (.v (.str (kS k))) (.no) (.no) (.no) (.no) (.no) (.no) (.no) (.no) (.no) (.no) (.no) (.no) (.no) (.no) (.no) (.no) (.no) (.no) (.no) (.no) (.no) (.no) (.no) (.no) (.no)
  have e3 := c3 g hk μ2 (.no) (.v (strsD strs_law)) (.v (.cell 0)) (.v (.int (W : Int))) (.v (.int (h : Int))) (.v (.str (kS k))) (.v (.lst (rows R))) (.no) (.no) (.no) (.no) (.no) (.no) (.no) (.no) (.no) (.no) (.no) (.no) (.no) (.no) (.no) (.no) (.no) (.no) (.no) (.no) (.no) (.no) (.no) (.no)
  have e4 := c4 g hk μ2 (.no) (.v (strsD strs_law)) (.v (.cell 0)) (.v (.int (W : Int))) (.v (.int (h : Int))) (.v (.str (kS k))) (.v (.lst (rows R))) (.v (sD (madeR R h W k))) (.no) (.no) (.no) (.no) (.no) (.no) (.no) (.no) (.no) (.no) (.no) (.no) (.no) (.no) (.no) (.no) (.no) (.no) (.no) (.no) (.no) (.no) (.no)
  obtain ⟨k2, hk2, μ3, hd3, e5⟩ := c5 hd2 (.no) (.v (strsD strs_law)) (.v (.cell 0)) (.v (.int (W : Int))) (.v (.int (h : Int))) (.v (.str (kS k))) (.v (.lst (rows R))) (.v (sD (madeR R h W k))) (.no) (.no) (.no) (.no) (.no) (.no) (.no) (.no) (.no) (.no) (.no) (.no) (.no) (.no) (.no) (.no) (.no) (.no) (.no) (.no) (.no) (.no) (.no)
  have e6 := c6 g hk hk2 μ3 (.no) (.v (strsD strs_law)) (.v (.cell 0)) (.v (.int (W : Int))) (.v (.int (h : Int))) (.v (.str (kS k))) (.v (.lst (rows R))) (.v (sD (madeR R h W k))) (.v (.str (kS k2))) (.no) (.no) (.no) (.no) (.no) (.no) (.no) (.no) (.no) (.no) (.no) (.no) (.no) (.no) (.no) (.no) (.no) (.no) (.no) (.no) (.no) (.no)
  obtain ⟨n, n1, n3, μ4, hd4, e7⟩ := c7 hd3 (.no) (.v (strsD strs_law)) (.v (.cell 0)) (.v (.int (W : Int))) (.v (.int (h : Int))) (.v (.str (kS k))) (.v (.lst (rows R))) (.v (sD (madeR R h W k))) (.v (.str (kS k2))) (.no) (.no) (.no) (.no) (.no) (.no) (.no) (.no) (.no) (.no) (.no) (.no) (.no) (.no) (.no) (.no) (.no) (.no) (.no) (.no) (.no) (.no)
  have e8 := c8 g n1 n3 μ4 (.no) (.v (strsD strs_law)) (.v (.cell 0)) (.v (.int (W : Int))) (.v (.int (h : Int))) (.v (.str (kS k))) (.v (.lst (rows R))) (.v (sD (madeR R h W k))) (.v (.str (kS k2))) (.v (.int (n : Int))) (.no) (.no) (.no) (.no) (.no) (.no) (.no) (.no) (.no) (.no) (.no) (.no) (.no) (.no) (.no) (.no) (.no) (.no) (.no) (.no) (.no)
  obtain ⟨W', h', sh, h6, μ5, hd5, e9⟩ := c9 hd4 (.no) (.v (strsD strs_law)) (.v (.cell 0)) (.v (.int (W : Int))) (.v (.int (h : Int))) (.v (.str (kS k))) (.v (.lst (rows R))) (.v (sD (madeR R h W k))) (.v (.str (kS k2))) (.v (.int (n : Int))) (.no) (.no) (.no) (.no) (.no) (.no) (.no) (.no) (.no) (.no) (.no) (.no) (.no) (.no) (.no) (.no) (.no) (.no) (.no) (.no) (.no)
  obtain ⟨sgs, q, μ6, hd6, e10⟩ := c10 sh h6 hd5 (.no) (.v (strsD strs_law)) (.v (.cell 0)) (.v (.int (W' : Int))) (.v (.int (h' : Int))) (.v (.str (kS k))) (.v (.lst (rows R))) (.v (sD (madeR R h W k))) (.v (.str (kS k2))) (.v (.int (n : Int))) (.no) (.no) (.no) (.no) (.no) (.no) (.no) (.no) (.no) (.no) (.no) (.no) (.no) (.no) (.no) (.no) (.no) (.no) (.no) (.no) (.no)
  have e11 := c11 sh h6 q μ6 (.no) (.v (strsD strs_law)) (.v (.cell 0)) (.v (.int (W' : Int))) (.v (.int (h' : Int))) (.v (.str (kS k))) (.v (.lst (rows R))) (.v (sD (madeR R h W k))) (.v (.str (kS k2))) (.v (.int (n : Int))) (.v (rD sgs)) (.no) (.no) (.no) (.no) (.no) (.no) (.no) (.no) (.no) (.no) (.no) (.no) (.no) (.no) (.no) (.no) (.no) (.no) (.no) (.no)
  have e12 := c12 (W := W') (h := h') μ6 (.no) (.v (strsD strs_law)) (.v (.cell 0)) (.v (.int (W' : Int))) (.v (.int (h' : Int))) (.v (.str (kS k))) (.v (.lst (rows R))) (.v (sD (madeR R h W k))) (.v (.str (kS k2))) (.v (.int (n : Int))) (.v (rD sgs)) (.v (.lst ((tabs sgs W' h').map lD))) (.no) (.no) (.no) (.no) (.no) (.no) (.no) (.no) (.no) (.no) (.no) (.no) (.no) (.no) (.no) (.no) (.no) (.no) (.no)
  obtain ⟨z12, e13⟩ := c13 (sgs := sgs) sh μ6 (.no) (.v (strsD strs_law)) (.v (.cell 0)) (.v (.int (W' : Int))) (.v (.int (h' : Int))) (.v (.str (kS k))) (.v (.lst (rows R))) (.v (sD (madeR R h W k))) (.v (.str (kS k2))) (.v (.int (n : Int))) (.v (rD sgs)) (.v (.lst ((tabs sgs W' h').map lD))) (.no) (.o (cntD W' h' [])) (.no) (.no) (.no) (.no) (.no) (.no) (.no) (.no) (.no) (.no) (.no) (.no) (.no) (.no) (.no) (.no) (.no)
  have e14 := c14 sh q μ6 (.no) (.v (strsD strs_law)) (.v (.cell 0)) (.v (.int (W' : Int))) (.v (.int (h' : Int))) (.v (.str (kS k))) (.v (.lst (rows R))) (.v (sD (madeR R h W k))) (.v (.str (kS k2))) (.v (.int (n : Int))) (.v (rD sgs)) (.v (.lst ((tabs sgs W' h').map lD))) (z12) (.o (cntD W' h' (wordsN sgs (W' * h')))) (.no) (.no) (.no) (.no) (.no) (.no) (.no) (.no) (.no) (.no) (.no) (.no) (.no) (.no) (.no) (.no) (.no)
  have e15 := c15 μ6 (.no) (.v (strsD strs_law)) (.v (.cell 0)) (.v (.int (W' : Int))) (.v (.int (h' : Int))) (.v (.str (kS k))) (.v (.lst (rows R))) (.v (sD (madeR R h W k))) (.v (.str (kS k2))) (.v (.int (n : Int))) (.v (rD sgs)) (.v (.lst ((tabs sgs W' h').map lD))) (z12) (.o (cntD W' h' (wordsN sgs (W' * h')))) (.no) (.no) (.no) (.no) (.no) (.no) (.no) (.no) (.no) (.no) (.no) (.no) (.no) (.no) (.no) (.no) (.no)
  obtain ⟨z12, z15, z16, z17, e16⟩ := c16 sh q μ6 (.no) (.v (strsD strs_law)) (.v (.cell 0)) (.v (.int (W' : Int))) (.v (.int (h' : Int))) (.v (.str (kS k))) (.v (.lst (rows R))) (.v (sD (madeR R h W k))) (.v (.str (kS k2))) (.v (.int (n : Int))) (.v (rD sgs)) (.v (.lst ((tabs sgs W' h').map lD))) (z12) (.o (cntD W' h' (wordsN sgs (W' * h')))) (.v (.lst [])) (.v (.lst [])) (.no) (.no) (.no) (.no) (.no) (.no) (.no) (.no) (.no) (.no) (.no) (.no) (.no) (.no) (.no)
  have e17 := c17 sh q μ6 (.no) (.v (strsD strs_law)) (.v (.cell 0)) (.v (.int (W' : Int))) (.v (.int (h' : Int))) (.v (.str (kS k))) (.v (.lst (rows R))) (.v (sD (madeR R h W k))) (.v (.str (kS k2))) (.v (.int (n : Int))) (.v (rD sgs)) (.v (.lst ((tabs sgs W' h').map lD))) (z12) (.o (cntD W' h' (wordsN sgs (W' * h')))) (.v (.lst ((firsts W' (tabs sgs W' h')).map lD))) (z15) (z16) (z17) (.no) (.no) (.no) (.no) (.no) (.no) (.no) (.no) (.no) (.no) (.no) (.no) (.no)
  obtain ⟨A, hA, μ7, hd7, e18⟩ := c18 (W := W') (h := h') q hd6 (.no) (.v (strsD strs_law)) (.v (.cell 0)) (.v (.int (W' : Int))) (.v (.int (h' : Int))) (.v (.str (kS k))) (.v (.lst (rows R))) (.v (sD (madeR R h W k))) (.v (.str (kS k2))) (.v (.int (n : Int))) (.v (rD sgs)) (.v (.lst ((tabs sgs W' h').map lD))) (z12) (.o (cntD W' h' (wordsN sgs (W' * h')))) (.v (.lst ((firsts W' (tabs sgs W' h')).map lD))) (z15) (z16) (z17) (.no) (.no) (.no) (.no) (.no) (.no) (.no) (.no) (.no) (.no) (.no) (.no) (.no)
  have e19 := c19 μ7 (.no) (.v (strsD strs_law)) (.v (.cell 0)) (.v (.int (W' : Int))) (.v (.int (h' : Int))) (.v (.str (kS k))) (.v (.lst (rows R))) (.v (sD (madeR R h W k))) (.v (.str (kS k2))) (.v (.int (n : Int))) (.v (rD sgs)) (.v (.lst ((tabs sgs W' h').map lD))) (z12) (.o (cntD W' h' (wordsN sgs (W' * h')))) (.v (.lst ((firsts W' (tabs sgs W' h')).map lD))) (z15) (z16) (z17) (.v (lD A)) (.no) (.no) (.no) (.no) (.no) (.no) (.no) (.no) (.no) (.no) (.no) (.no)
  obtain ⟨z12, z20, e20⟩ := c20 sh q hk hA μ7 (.no) (.v (strsD strs_law)) (.v (.cell 0)) (.v (.int (W' : Int))) (.v (.int (h' : Int))) (.v (.str (kS k))) (.v (.lst (rows R))) (.v (sD (madeR R h W k))) (.v (.str (kS k2))) (.v (.int (n : Int))) (.v (rD sgs)) (.v (.lst ((tabs sgs W' h').map lD))) (z12) (.o (cntD W' h' (wordsN sgs (W' * h')))) (.v (.lst ((firsts W' (tabs sgs W' h')).map lD))) (z15) (z16) (z17) (.v (lD A)) (.o (.lst [])) (.no) (.no) (.no) (.no) (.no) (.no) (.no) (.no) (.no) (.no) (.no)
  have e21 := c21 sh q hk hA μ7 (.no) (.v (strsD strs_law)) (.v (.cell 0)) (.v (.int (W' : Int))) (.v (.int (h' : Int))) (.v (.str (kS k))) (.v (.lst (rows R))) (.v (sD (madeR R h W k))) (.v (.str (kS k2))) (.v (.int (n : Int))) (.v (rD sgs)) (.v (.lst ((tabs sgs W' h').map lD))) (z12) (.o (cntD W' h' (wordsN sgs (W' * h')))) (.v (.lst ((firsts W' (tabs sgs W' h')).map lD))) (z15) (z16) (z17) (.v (lD A)) (.o (.lst (nearF (fun B => hasB B h' W' k) A 0 (tabs sgs W' h')))) (z20) (.no) (.no) (.no) (.no) (.no) (.no) (.no) (.no) (.no) (.no)
  obtain ⟨b, c, hbc, μ8, hd8, e22⟩ := c22 hd7 (.no) (.v (strsD strs_law)) (.v (.cell 0)) (.v (.int (W' : Int))) (.v (.int (h' : Int))) (.v (.str (kS k))) (.v (.lst (rows R))) (.v (sD (madeR R h W k))) (.v (.str (kS k2))) (.v (.int (n : Int))) (.v (rD sgs)) (.v (.lst ((tabs sgs W' h').map lD))) (z12) (.o (cntD W' h' (wordsN sgs (W' * h')))) (.v (.lst ((firsts W' (tabs sgs W' h')).map lD))) (z15) (z16) (z17) (.v (lD A)) (.o (.lst (nearF (fun B => hasB B h' W' k) A 0 (tabs sgs W' h')))) (z20) (.no) (.no) (.no) (.no) (.no) (.no) (.no) (.no) (.no) (.no)
  have e23 := c23 hbc μ8 (.no) (.v (strsD strs_law)) (.v (.cell 0)) (.v (.int (W' : Int))) (.v (.int (h' : Int))) (.v (.str (kS k))) (.v (.lst (rows R))) (.v (sD (madeR R h W k))) (.v (.str (kS k2))) (.v (.int (n : Int))) (.v (rD sgs)) (.v (.lst ((tabs sgs W' h').map lD))) (z12) (.o (cntD W' h' (wordsN sgs (W' * h')))) (.v (.lst ((firsts W' (tabs sgs W' h')).map lD))) (z15) (z16) (z17) (.v (lD A)) (.o (.lst (nearF (fun B => hasB B h' W' k) A 0 (tabs sgs W' h')))) (z20) (.v (.int (b : Int))) (.v (.int (c : Int))) (.no) (.no) (.no) (.no) (.no) (.no) (.no) (.no)
  refine ⟨μ8, ?_⟩
  unfold diceF
  have e : FB_law [.no, .v (strsD strs_law), .v (.cell 0), .no, .no, .no, .no, .no, .no, .no, .no, .no, .no, .no, .no, .no, .no, .no, .no, .no, .no, .no, .no, .no, .no, .no, .no, .no, .no, .no, .no] μ = .ok (.nx [.no, .v (strsD strs_law), .v (.cell 0), .v (.int (W' : Int)), .v (.int (h' : Int)), .v (.str (kS k)), .v (.lst (rows R)), .v (sD (madeR R h W k)), .v (.str (kS k2)), .v (.int (n : Int)), .v (rD sgs), .v (.lst ((tabs sgs W' h').map lD)), z12, .o (cntD W' h' (wordsN sgs (W' * h'))), .v (.lst ((firsts W' (tabs sgs W' h')).map lD)), z15, z16, z17, .v (lD A), .o (.lst (nearF (fun B => hasB B h' W' k) A 0 (tabs sgs W' h'))), z20, .v (.int (b : Int)), .v (.int (c : Int)), .no, .no, .no, .no, .no, .no, .no, .no]) μ8 := by
    rw [FB_eq, seq_ok e1, seq_ok e2, seq_ok e3, seq_ok e4, seq_ok e5, seq_ok e6, seq_ok e7, seq_ok e8, seq_ok e9, seq_ok e10, seq_ok e11, seq_ok e12, seq_ok e13, seq_ok e14, seq_ok e15, seq_ok e16, seq_ok e17, seq_ok e18, seq_ok e19, seq_ok e20, seq_ok e21, seq_ok e22]
    exact e23
  rw [bind_ok e]
  exact tail_ok _ _
theorem hw0 (ns : List Int) (hl : ns.length ≤ 63) : Dd.Good (E_law ((.v (.rol (ns.map .int)) :: Dd.nos (31 - 1)).set 1 (.v (Dd.strsD strs_law))) []) (fun d μ1 => μ1 = [] ∧ ∃ x y z : Int, d = .lst [.lst [.int x, .int y, .int z]] ∧ Dd.diceOk2 31 2 1 (Dd.strsD strs_law) FB_law FR_law (.lst [.int x, .int y, .int z])) (fun _ _ => False) := by
  obtain ⟨a, b, c, e⟩ := f_rounds ns
  have e1 : E_law ((.v (.rol (ns.map .int)) :: Dd.nos (31 - 1)).set 1 (.v (Dd.strsD strs_law))) [] = .ok (.lst [.lst [.int a, .int b, .int c]]) [] := by
    have v0 : eVar 0 ((.v (.rol (ns.map .int)) :: Dd.nos (31 - 1)).set 1 (.v (Dd.strsD strs_law))) = M.pure (.rol (ns.map .int)) := rfl
    simp -implicitDefEqProofs only [E_law, o_eFun, o_aCons, o_aNil, v0, o_eC, M.pure_bind, List.length_cons, List.length_nil, Nat.zero_add, Nat.reduceAdd, if_true, e, pure_app]
  rw [e1]
  refine ⟨rfl, a, b, c, rfl, ?_⟩
  obtain ⟨μ', e2⟩ := body_ok (μ := [.lst [.int a, .int b, .int c]]) ⟨a, b, c, rfl⟩
  unfold diceOk2
  have e3 : env2 31 2 1 (Dd.strsD strs_law) = [.no, .v (strsD strs_law), .v (.cell 0), .no, .no, .no, .no, .no, .no, .no, .no, .no, .no, .no, .no, .no, .no, .no, .no, .no, .no, .no, .no, .no, .no, .no, .no, .no, .no, .no, .no] := rfl
  rw [e3, e2]
  rfl
end Dd.Ma
theorem PySem.Challenge.cw_friezestack_k02_strips_that_are_made_holds : PySem.Challenge.rw_friezestack_k02_strips_that_are_made.Holds :=
  K1.law_holds Dd.Ma.hw0
