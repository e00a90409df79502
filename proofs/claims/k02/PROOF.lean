import PyProof.Rows.All
import Wide.All
import OpenK.AllK
import Wide.FinOn
import HandS.ForMost
import HandS.Exc
import HandS.TryOnly
import HandS.ExcOwn
import HandS.TryMany
import HandS.WordsExc
import HandS.Flow
import HandS.Style
import HandS.Wide
import HandS.WideBits
import HandS.SortInts
import HandS.TupLen
import HandS.WordsDict
import HandS.RaiseMore
import HandS.IsInst
import HandS.Text
import HandS.Small
import HandS.StrSplit
import HandS.TupAny
import HandS.FStr
import HandS.Iter
import HandS.Zip
import HandS.SlotsOwn
import HandS.HeadHook1
import HandS.DictComp
import HandS.EndBits
import HandS.Head0
import HandS.Head1
import HandS.Head2
import HandS.HeadEnd
import PySem.Challenge.RW_anymodulus_k02_whole_lots_of_moduli
set_option Elab.async false
set_option linter.all false
set_option maxRecDepth 100000
set_option maxHeartbeats 2000000
/-! A mirror of plain data over the hand layer: every expression, statement and def of the program is told by a plain Lean function on data (D); what the layer asks is shown once for each construct. -/
namespace MM
open PySem PySem.Spec PyProof.Rows L2

/-- plain data -/
inductive D where
  | non
  | bl (b : Bool)
  | int (i : Int)
  | str (s : Str)
  | tup (l : List D)
  | lst (l : List D)
  | dK (l : List (Key × D))
  | dT (l : List (List Key × D))
  | obj (c : Nat) (fs : List (Str × D))
  | fn (i : Nat)
  | scr (ns : List Int)
/-- what the program's top has written: classes, defs as values, classes of errors -/
structure G where
  K : PySem.W.Frag
  C : Nat → Addr
  F : Nat → Addr
  X : Nat → Addr

/-- a tuple of texts that the module's top has bound -/
def KTup (g : G) (a : Addr) (l : List Str) : Prop := ∀ H : Hp, SqT g.K H a (l.map V.str)
mutual
/-- the value v is the data d in H -/
inductive Rep (g : G) (H : Hp) : D → V → Prop
  | non : Rep g H .non .non
  | bl {b} : Rep g H (.bl b) (.bl b)
  | int {i} : Rep g H (.int i) (.int i)
  | str {s} : Rep g H (.str s) (.str s)
  | tup {l a xs} : H a = some (.tup xs) → Reps g H l xs → Rep g H (.tup l) (.ref a)
  | ktup {l a} : KTup g a l → Rep g H (.tup (l.map .str)) (.ref a)
  | lst {l a xs} : H a = some (.lst xs) → Reps g H l xs → Rep g H (.lst l) (.ref a)
  | scr {ns a} : SqL g.K H a (ns.map V.int) → Rep g H (.scr ns) (.ref a)
  | dK {l a kvs} : Rd H a (.dK kvs) → kvs.map (·.1) = l.map (·.1) → Reps g H (l.map (·.2)) (kvs.map (·.2)) → Rep g H (.dK l) (.ref a)
  | dT {l a kvs} : Rd H a (.dT kvs) → kvs.map (·.1) = l.map (·.1) → Reps g H (l.map (·.2)) (kvs.map (·.2)) → Rep g H (.dT l) (.ref a)
  | obj {c fs a dx gs} : H a = some (.ins (g.C c) dx gs) → gs.map (·.1) = fs.map (·.1) → Reps g H (fs.map (·.2)) (gs.map (·.2)) → Rep g H (.obj c fs) (.ref a)
  | fn {i} : Rep g H (.fn i) (.ref (g.F i))
inductive Reps (g : G) (H : Hp) : List D → List V → Prop
  | nil : Reps g H [] []
  | cons {d v l xs} : Rep g H d v → Reps g H l xs → Reps g H (d :: l) (v :: xs)
end

/-! ### heaps -/
/-- no loop locks it -/
def Solid : HO → Prop
  | .lst _ => True
  | .tup _ => True
  | .ins _ _ _ => True
  | _ => False
/-- what could be read can be read -/
structure Le (H H' : Hp) : Prop where
  rd : ∀ a u, (∀ o w, u ≠ .frz o w) → Rd H a u → Rd H' a u
  ex : ∀ a u, Solid u → H a = some u → H' a = some u
theorem Le.refl (H : Hp) : Le H H := ⟨fun _ _ _ h => h, fun _ _ _ h => h⟩
theorem Le.trans {H H1 H2 : Hp} (a : Le H H1) (b : Le H1 H2) : Le H H2 := ⟨fun x u n h => b.rd x u n (a.rd x u n h), fun x u s h => b.ex x u s (a.ex x u s h)⟩
def Ext (H H' : Hp) : Prop := ∀ a o, H a = some o → H' a = some o
theorem Ext.refl (H : Hp) : Ext H H := fun _ _ h => h
theorem Ext.trans {H H1 H2 : Hp} (a : Ext H H1) (b : Ext H1 H2) : Ext H H2 := fun x o h => b x o (a x o h)
theorem Ext.le {H H' : Hp} (e : Ext H H') : Le H H' :=
  ⟨fun a u _ h => h.elim (fun h => .inl (e a u h)) fun ⟨o, h⟩ => .inr ⟨o, e a _ h⟩, fun a _ _ h => e a _ h⟩
theorem Ext.new {H : Hp} {p : Addr} {o : HO} (h : H p = none) : Ext H (upd H p o) := fun a u e => by
  rw [upd_ne (ne_of_none e h)]
  exact e
def hide (H : Hp) (O : List Addr) : Hp := fun a => if a ∈ O then none else H a
theorem hide_in {H : Hp} {O : List Addr} {a : Addr} (h : a ∈ O) : hide H O a = none := if_pos h
theorem hide_out {H : Hp} {O : List Addr} {a : Addr} (h : a ∉ O) : hide H O a = H a := if_neg h
theorem hide_some {H : Hp} {O : List Addr} {a : Addr} {o : HO} (h : hide H O a = some o) : a ∉ O ∧ H a = some o := by
  by_cases q : a ∈ O
  · rw [hide_in q] at h; cases h
  · rw [hide_out q] at h; exact ⟨q, h⟩
theorem hide_ext {H H' : Hp} {O : List Addr} (e : Ext H H') : Ext (hide H O) (hide H' O) := fun a o h => by
  obtain ⟨n, h⟩ := hide_some h
  rw [hide_out n]; exact e a o h
theorem hide_less {H : Hp} {O O' : List Addr} (s : ∀ a, a ∈ O' → a ∈ O) : Ext (hide H O) (hide H O') := fun a o h => by
  obtain ⟨n, h⟩ := hide_some h
  rw [hide_out fun q => n (s a q)]; exact h
theorem hide_sub {H : Hp} {O : List Addr} : Ext (hide H O) H := fun a o h => (hide_some h).2
/-- a hidden object changes -/
theorem hide_upd {H : Hp} {O : List Addr} {a : Addr} {o : HO} (h : a ∈ O) : hide (upd H a o) O = hide H O := by
  funext b
  by_cases q : b ∈ O
  · rw [hide_in q, hide_in q]
  · rw [hide_out q, hide_out q, upd_ne fun (e : b = a) => q (e ▸ h)]
theorem hide_same {H H' : Hp} {O : List Addr} {a : Addr} (h : a ∈ O) (e : ∀ b o, b ≠ a → H b = some o → H' b = some o) : Ext (hide H O) (hide H' O) := fun b o q => by
  obtain ⟨n, q⟩ := hide_some q
  rw [hide_out n]; exact e b o (fun z => n (z ▸ h)) q
/-- a dict is locked, unlocked -/
theorem lock_le {H : Hp} {d : Addr} {u : HO} {od : Obj} (h : H d = some u) (n : ∀ o w, u ≠ .frz o w) (ns : ¬ Solid u) : Le H (upd H d (.frz od u)) := by
  refine ⟨fun a w nw r => ?_, fun a w sw r => ?_⟩
  · by_cases e : a = d
    · subst e
      rcases r with r | ⟨o, r⟩
      · rw [h] at r; cases r; exact .inr ⟨od, upd_same⟩
      · rw [h] at r; cases r; exact absurd rfl (n _ _)
    · rcases r with r | ⟨o, r⟩
      · exact .inl (by rw [upd_ne e]; exact r)
      · exact .inr ⟨o, by rw [upd_ne e]; exact r⟩
  · by_cases e : a = d
    · subst e; rw [h] at r; cases r; exact absurd sw ns
    · rw [upd_ne e]; exact r
theorem unlock_le {H : Hp} {d : Addr} {u : HO} {od : Obj} (h : H d = some (.frz od u)) : Le H (upd H d u) := by
  refine ⟨fun a w nw r => ?_, fun a w sw r => ?_⟩
  · by_cases e : a = d
    · subst e
      rcases r with r | ⟨o, r⟩
      · rw [h] at r; cases r; exact absurd rfl (nw _ _)
      · rw [h] at r; cases r; exact .inl upd_same
    · rcases r with r | ⟨o, r⟩
      · exact .inl (by rw [upd_ne e]; exact r)
      · exact .inr ⟨o, by rw [upd_ne e]; exact r⟩
  · by_cases e : a = d
    · subst e; rw [h] at r; cases r; exact absurd sw (fun z => z)
    · rw [upd_ne e]; exact r
theorem hide_upd_out {H : Hp} {O : List Addr} {d : Addr} {u : HO} (h : d ∉ O) : hide (upd H d u) O = upd (hide H O) d u := by
  funext b
  by_cases q : b ∈ O
  · rw [hide_in q, upd_ne (fun (e : b = d) => h (e ▸ q)), hide_in q]
  · by_cases e : b = d
    · subst e; rw [hide_out q, upd_same, upd_same]
    · rw [hide_out q, upd_ne e, upd_ne e, hide_out q]

theorem sqL_le {K : PySem.W.Frag} {H H' : Hp} {a : Addr} {xs : List V} (e : Le H H') (h : SqL K H a xs) : SqL K H' a xs := h.elim (fun h => .inl (e.rd a _ (fun _ _ z => by cases z) h)) .inr
theorem sqT_le {K : PySem.W.Frag} {H H' : Hp} {a : Addr} {xs : List V} (e : Le H H') (h : SqT K H a xs) : SqT K H' a xs := h.elim (fun h => .inl (e.rd a _ (fun _ _ z => by cases z) h)) .inr
mutual
theorem Rep.le {g : G} {H H' : Hp} (e : Le H H') : ∀ {d : D} {v : V}, Rep g H d v → Rep g H' d v
  | _, _, .non => .non
  | _, _, .bl => .bl
  | _, _, .int => .int
  | _, _, .str => .str
  | _, _, .tup h r => .tup (e.ex _ _ trivial h) (Reps.le e r)
  | _, _, .ktup h => .ktup h
  | _, _, .lst h r => .lst (e.ex _ _ trivial h) (Reps.le e r)
  | _, _, .scr h => .scr (sqL_le e h)
  | _, _, .dK h m r => .dK (e.rd _ _ (fun _ _ z => by cases z) h) m (Reps.le e r)
  | _, _, .dT h m r => .dT (e.rd _ _ (fun _ _ z => by cases z) h) m (Reps.le e r)
  | _, _, .obj h m r => .obj (e.ex _ _ trivial h) m (Reps.le e r)
  | _, _, .fn => .fn
theorem Reps.le {g : G} {H H' : Hp} (e : Le H H') : ∀ {l : List D} {xs : List V}, Reps g H l xs → Reps g H' l xs
  | _, _, .nil => .nil
  | _, _, .cons h r => .cons (Rep.le e h) (Reps.le e r)
end
theorem Reps.len {g : G} {H : Hp} : ∀ {l : List D} {xs : List V}, Reps g H l xs → l.length = xs.length
  | _, _, .nil => rfl
  | _, _, .cons _ r => by simp [r.len]
theorem Reps.get {g : G} {H : Hp} : ∀ {l : List D} {xs : List V} {i : Nat} {d : D}, Reps g H l xs → l[i]? = some d → ∃ v, xs[i]? = some v ∧ Rep g H d v
  | _, _, 0, _, .cons h _, e => by simp at e; subst e; exact ⟨_, rfl, h⟩
  | _, _, i + 1, _, .cons _ r, e => by
    obtain ⟨v, h1, h2⟩ := r.get (i := i) (by simpa using e)
    exact ⟨v, by simpa using h1, h2⟩
  | _, _, _, _, .nil, e => by simp at e
theorem Reps.getV {g : G} {H : Hp} : ∀ {l : List D} {xs : List V} {i : Nat} {v : V}, Reps g H l xs → xs[i]? = some v → ∃ d, l[i]? = some d ∧ Rep g H d v
  | _, _, 0, _, .cons h _, e => by simp at e; subst e; exact ⟨_, rfl, h⟩
  | _, _, i + 1, _, .cons _ r, e => by
    obtain ⟨v, h1, h2⟩ := r.getV (i := i) (by simpa using e)
    exact ⟨v, by simpa using h1, h2⟩
  | _, _, _, _, .nil, e => by simp at e
theorem Reps.append {g : G} {H : Hp} : ∀ {l l' : List D} {xs ys : List V}, Reps g H l xs → Reps g H l' ys → Reps g H (l ++ l') (xs ++ ys)
  | _, _, _, _, .nil, s => s
  | _, _, _, _, .cons h r, s => .cons h (r.append s)
theorem Reps.set {g : G} {H : Hp} {d : D} {v : V} (h : Rep g H d v) : ∀ {l : List D} {xs : List V} (i : Nat), Reps g H l xs → Reps g H (l.set i d) (xs.set i v)
  | _, _, _, .nil => .nil
  | _, _, 0, .cons _ r => .cons h r
  | _, _, i + 1, .cons q r => .cons q (r.set h i)
theorem Reps.take {g : G} {H : Hp} : ∀ {l : List D} {xs : List V} (n : Nat), Reps g H l xs → Reps g H (l.take n) (xs.take n)
  | _, _, 0, _ => .nil
  | _, _, _ + 1, .nil => .nil
  | _, _, n + 1, .cons h r => .cons h (r.take n)
theorem Reps.drop {g : G} {H : Hp} : ∀ {l : List D} {xs : List V} (n : Nat), Reps g H l xs → Reps g H (l.drop n) (xs.drop n)
  | _, _, 0, r => r
  | _, _, _ + 1, .nil => .nil
  | _, _, n + 1, .cons _ r => r.drop n
theorem Reps.reverse {g : G} {H : Hp} : ∀ {l : List D} {xs : List V}, Reps g H l xs → Reps g H l.reverse xs.reverse
  | _, _, .nil => .nil
  | _, _, .cons h r => by rw [List.reverse_cons, List.reverse_cons]; exact r.reverse.append (.cons h .nil)
theorem Reps.ints {g : G} {H : Hp} : ∀ (ns : List Int), Reps g H (ns.map D.int) (ns.map V.int)
  | [] => .nil
  | _ :: r => .cons .int (Reps.ints r)
theorem Reps.strs {g : G} {H : Hp} : ∀ (ns : List Str), Reps g H (ns.map D.str) (ns.map V.str)
  | [] => .nil
  | _ :: r => .cons .str (Reps.strs r)
theorem Reps.of_ints {g : G} {H : Hp} : ∀ {ns : List Int} {xs : List V}, Reps g H (ns.map D.int) xs → xs = ns.map V.int
  | [], _, .nil => rfl
  | _ :: r, _, .cons .int q => by rw [Reps.of_ints (ns := r) q]; rfl
theorem Reps.of_bls {g : G} {H : Hp} : ∀ {ns : List Bool} {xs : List V}, Reps g H (ns.map D.bl) xs → xs = ns.map V.bl
  | [], _, .nil => rfl
  | _ :: r, _, .cons .bl q => by rw [Reps.of_bls (ns := r) q]; rfl
theorem Reps.of_strs {g : G} {H : Hp} : ∀ {ns : List Str} {xs : List V}, Reps g H (ns.map D.str) xs → xs = ns.map V.str
  | [], _, .nil => rfl
  | _ :: r, _, .cons .str q => by rw [Reps.of_strs (ns := r) q]; rfl

/-! ### the names' data: a slot holds nothing, data that stays, or an object of its own that may change -/
inductive Sl where
  | no | fr (d : D) | ow (d : D)
abbrev DEnv := List Sl
/-- at a stands the object d, of one's own; its parts stay -/
def OwnAt (g : G) (H : Hp) (O : List Addr) : D → Addr → Prop
  | .lst l, a => ∃ xs, H a = some (.lst xs) ∧ Reps g (hide H O) l xs
  | .dK l, a => ∃ kvs, H a = some (.dK kvs) ∧ kvs.map (·.1) = l.map (·.1) ∧ Reps g (hide H O) (l.map (·.2)) (kvs.map (·.2))
  | .dT l, a => ∃ kvs, H a = some (.dT kvs) ∧ kvs.map (·.1) = l.map (·.1) ∧ Reps g (hide H O) (l.map (·.2)) (kvs.map (·.2))
  | .obj c fs, a => ∃ dx gs, H a = some (.ins (g.C c) dx gs) ∧ gs.map (·.1) = fs.map (·.1) ∧ Reps g (hide H O) (fs.map (·.2)) (gs.map (·.2))
  | _, _ => False
/-- the ground: what must stay, what others hide -/
structure Bas where
  B : Hp
  O : List Addr
  I : Option Addr
/-- what is hidden: no tuple -/
def Hid : Option HO → Prop
  | some (.tup _) => False
  | some _ => True
  | none => False
theorem Hid.keep {H H' : Hp} {c : Addr} (h : Hid (H c)) (k : ∀ o, H c = some o → H' c = some o) : Hid (H' c) := by
  cases z : H c with
  | none => rw [z] at h; exact h.elim
  | some o => rw [k o z, ← z]; exact h
theorem Hid.ne {x : Option HO} (h : Hid x) : x ≠ none := fun e => by rw [e] at h; exact h
structure REnv (g : G) (b : Bas) (H : Hp) (O : List Addr) (σ : L2.St) (env : DEnv) : Prop where
  len : env.length = σ.length
  pro : Ext b.B H
  out : ∀ a, a ∈ b.O → a ∈ O
  hd : ∀ a, a ∈ O → Hid (H a)
  fr : ∀ (i : Nat) (d : D), env[i]? = some (Sl.fr d) → ∃ v : V, σ[i]? = some (some v) ∧ Rep g (hide H O) d v
  ow : ∀ (i : Nat) (d : D), env[i]? = some (Sl.ow d) → ∃ a : Addr, σ[i]? = some (some (V.ref a)) ∧ a ∈ O ∧ a ∉ b.O ∧ b.B a = none ∧ OwnAt g H O d a
  sep : ∀ (i j : Nat) (d e : D) (a : Addr), env[i]? = some (Sl.ow d) → env[j]? = some (Sl.ow e) → σ[i]? = some (some (V.ref a)) → σ[j]? = some (some (V.ref a)) → i = j
  io : ∀ (a : Addr) (d : D), b.I = some a → env[0]? = some (Sl.ow d) → σ[0]? = some (some (V.ref a))

theorem REnv.occ {g : G} {b : Bas} {H : Hp} {O : List Addr} {σ : L2.St} {env : DEnv} (R : REnv g b H O σ env) (a : Addr) (h : a ∈ O) : H a ≠ none := (R.hd a h).ne
theorem OwnAt.hid {g : G} {H : Hp} {O : List Addr} {a : Addr} : ∀ {d : D}, OwnAt g H O d a → Hid (H a)
  | .lst _, ⟨_, h, _⟩ => by rw [h]; trivial
  | .dK _, ⟨_, h, _⟩ => by rw [h]; trivial
  | .dT _, ⟨_, h, _⟩ => by rw [h]; trivial
  | .obj _ _, ⟨_, _, h, _⟩ => by rw [h]; trivial
theorem OwnAt.there {g : G} {H : Hp} {O : List Addr} {a : Addr} : ∀ {d : D}, OwnAt g H O d a → ∃ o, H a = some o
  | .lst _, ⟨_, h, _⟩ => ⟨_, h⟩
  | .dK _, ⟨_, h, _⟩ => ⟨_, h⟩
  | .dT _, ⟨_, h, _⟩ => ⟨_, h⟩
  | .obj _ _, ⟨_, _, h, _⟩ => ⟨_, h⟩
theorem OwnAt.le {g : G} {H H' : Hp} {O O' : List Addr} {a : Addr} (e : Le (hide H O) (hide H' O')) (k : ∀ o, H a = some o → H' a = some o) : ∀ {d : D}, OwnAt g H O d a → OwnAt g H' O' d a
  | .lst _, ⟨xs, h, r⟩ => ⟨xs, k _ h, r.le e⟩
  | .dK _, ⟨xs, h, m, r⟩ => ⟨xs, k _ h, m, r.le e⟩
  | .dT _, ⟨xs, h, m, r⟩ => ⟨xs, k _ h, m, r.le e⟩
  | .obj _ _, ⟨dx, xs, h, m, r⟩ => ⟨dx, xs, k _ h, m, r.le e⟩
/-- an object of one's own that is hidden no more is data -/
theorem OwnAt.rep {g : G} {H : Hp} {O O' : List Addr} {a : Addr} (e : Le (hide H O) (hide H O')) (n : a ∉ O') : ∀ {d : D}, OwnAt g H O d a → Rep g (hide H O') d (.ref a)
  | .lst _, ⟨xs, h, r⟩ => .lst (by rw [hide_out n]; exact h) (r.le e)
  | .dK _, ⟨xs, h, m, r⟩ => .dK (.inl (by rw [hide_out n]; exact h)) m (r.le e)
  | .dT _, ⟨xs, h, m, r⟩ => .dT (.inl (by rw [hide_out n]; exact h)) m (r.le e)
  | .obj _ _, ⟨dx, xs, h, m, r⟩ => .obj (by rw [hide_out n]; exact h) m (r.le e)

section
variable {g : G} {b : Bas} {H H' : Hp} {O O' : List Addr} {σ : L2.St} {env : DEnv} {i : Nat} {d : D} {v : V} {a : Addr}
/-- the heap grows, or others' objects turn -/
theorem REnv.more (R : REnv g b H O σ env) (e : Le (hide H O) (hide H' O)) (k : ∀ c, (c ∈ O ∨ (∃ o, b.B c = some o)) → ∀ o, H c = some o → H' c = some o) : REnv g b H' O σ env where
  len := R.len
  pro := fun c o h => k c (.inr ⟨o, h⟩) o (R.pro c o h)
  out := R.out
  hd := fun c hc => (R.hd c hc).keep (k c (.inl hc))
  fr := fun j e' h => let ⟨v, h1, h2⟩ := R.fr j e' h; ⟨v, h1, h2.le e⟩
  ow := fun j e' h => let ⟨c, h1, h2, h3, h4, h5⟩ := R.ow j e' h; ⟨c, h1, h2, h3, h4, h5.le e (k c (.inl h2))⟩
  sep := R.sep
  io := R.io
theorem REnv.ext (R : REnv g b H O σ env) (e : Ext H H') : REnv g b H' O σ env := R.more (hide_ext e).le fun c _ o h => e c o h
/-- fewer are hidden -/
theorem REnv.less (R : REnv g b H O σ env) (s : ∀ c, c ∈ O' → c ∈ O) (h1 : ∀ c, c ∈ b.O → c ∈ O') (h2 : ∀ (j : Nat) (e : D) (c : Addr), env[j]? = some (Sl.ow e) → σ[j]? = some (some (V.ref c)) → c ∈ O') : REnv g b H O' σ env where
  len := R.len
  pro := R.pro
  out := h1
  hd := fun c hc => R.hd c (s c hc)
  fr := fun j e' h => let ⟨v, q1, q2⟩ := R.fr j e' h; ⟨v, q1, q2.le (hide_less s).le⟩
  ow := fun j e' h => let ⟨c, q1, q2, q3, q4, q5⟩ := R.ow j e' h; ⟨c, q1, h2 j e' c h q1, q3, q4, q5.le (hide_less s).le fun _ z => z⟩
  sep := R.sep
  io := R.io
theorem set_get {α : Type} {l : List α} {i j : Nat} {x y : α} (h : (l.set i x)[j]? = some y) : (j = i ∧ y = x ∧ i < l.length) ∨ (j ≠ i ∧ l[j]? = some y) := by
  by_cases e : j = i
  · subst e
    by_cases q : j < l.length
    · rw [List.getElem?_set_self q] at h; cases h; exact .inl ⟨rfl, rfl, q⟩
    · rw [List.getElem?_eq_none (by simpa using q)] at h; cases h
  · rw [List.getElem?_set_ne (Ne.symm e)] at h; exact .inr ⟨e, h⟩
theorem set_self {α : Type} {l : List α} {i : Nat} {x : α} (h : i < l.length) : (l.set i x)[i]? = some x := List.getElem?_set_self h
/-- a name is given data -/
theorem REnv.setFr (R : REnv g b H O σ env) (r : Rep g (hide H O) d v) : REnv g b H O (σ.set i (some v)) (env.set i (.fr d)) where
  len := by rw [List.length_set, List.length_set]; exact R.len
  pro := R.pro
  out := R.out
  hd := R.hd
  fr := fun j e h => by
    rcases set_get h with ⟨rfl, q, z⟩ | ⟨n, q⟩
    · cases q; exact ⟨v, set_self (by rw [← R.len]; exact z), r⟩
    · rw [List.getElem?_set_ne (Ne.symm n)]; exact R.fr j e q
  ow := fun j e h => by
    rcases set_get h with ⟨rfl, q, z⟩ | ⟨n, q⟩
    · cases q
    · rw [List.getElem?_set_ne (Ne.symm n)]; exact R.ow j e q
  sep := fun j k e f c h1 h2 h3 h4 => by
    rcases set_get h1 with ⟨rfl, q, z⟩ | ⟨n1, q1⟩
    · cases q
    · rcases set_get h2 with ⟨rfl, q, z⟩ | ⟨n2, q2⟩
      · cases q
      · rw [List.getElem?_set_ne (Ne.symm n1)] at h3
        rw [List.getElem?_set_ne (Ne.symm n2)] at h4
        exact R.sep j k e f c q1 q2 h3 h4
  io := fun c d hI h => by
    rcases set_get h with ⟨_, q, _⟩ | ⟨n, q⟩
    · cases q
    · rw [List.getElem?_set_ne (Ne.symm n)]; exact R.io c d hI q
/-- a new object of one's own -/
structure New (g : G) (b : Bas) (H : Hp) (O : List Addr) (σ : L2.St) (env : DEnv) (d : D) (a : Addr) : Prop where
  hid : a ∈ O
  nob : a ∉ b.O
  frs : b.B a = none
  own : OwnAt g H O d a
  sep : ∀ (j : Nat) (e : D), env[j]? = some (Sl.ow e) → σ[j]? ≠ some (some (V.ref a))
theorem REnv.setOw (R : REnv g b H O σ env) (n : New g b H O σ env d a) (i0 : i ≠ 0) : REnv g b H O (σ.set i (some (.ref a))) (env.set i (.ow d)) where
  len := by rw [List.length_set, List.length_set]; exact R.len
  pro := R.pro
  out := R.out
  hd := R.hd
  fr := fun j e h => by
    rcases set_get h with ⟨rfl, q, z⟩ | ⟨n, q⟩
    · cases q
    · rw [List.getElem?_set_ne (Ne.symm n)]; exact R.fr j e q
  ow := fun j e h => by
    rcases set_get h with ⟨rfl, q, z⟩ | ⟨n', q⟩
    · cases q; exact ⟨a, set_self (by rw [← R.len]; exact z), n.hid, n.nob, n.frs, n.own⟩
    · rw [List.getElem?_set_ne (Ne.symm n')]; exact R.ow j e q
  sep := fun j k e f c h1 h2 h3 h4 => by
    rcases set_get h1 with ⟨rfl, q, z⟩ | ⟨n1, q1⟩
    · rcases set_get h2 with ⟨rfl, q', z'⟩ | ⟨n2, q2⟩
      · rfl
      · rw [set_self (by rw [← R.len]; exact z)] at h3
        cases h3
        rw [List.getElem?_set_ne (Ne.symm n2)] at h4
        exact absurd h4 (n.sep k f q2)
    · rw [List.getElem?_set_ne (Ne.symm n1)] at h3
      rcases set_get h2 with ⟨rfl, q, z⟩ | ⟨n2, q2⟩
      · rw [set_self (by rw [← R.len]; exact z)] at h4
        cases h4
        exact absurd h3 (n.sep j e q1)
      · rw [List.getElem?_set_ne (Ne.symm n2)] at h4
        exact R.sep j k e f c q1 q2 h3 h4
  io := fun c e hI h => by
    rcases set_get h with ⟨q, _, _⟩ | ⟨n', q⟩
    · exact absurd q.symm i0
    · rw [List.getElem?_set_ne (Ne.symm n')]; exact R.io c e hI q
/-- a name is forgotten -/
theorem REnv.setNo (R : REnv g b H O σ env) : REnv g b H O σ (env.set i .no) where
  len := by rw [List.length_set]; exact R.len
  pro := R.pro
  out := R.out
  hd := R.hd
  fr := fun j e h => by
    rcases set_get h with ⟨rfl, q, z⟩ | ⟨n, q⟩
    · cases q
    · exact R.fr j e q
  ow := fun j e h => by
    rcases set_get h with ⟨rfl, q, z⟩ | ⟨n, q⟩
    · cases q
    · exact R.ow j e q
  sep := fun j k e f c h1 h2 h3 h4 => by
    rcases set_get h1 with ⟨rfl, q, z⟩ | ⟨n1, q1⟩
    · cases q
    · rcases set_get h2 with ⟨rfl, q, z⟩ | ⟨n2, q2⟩
      · cases q
      · exact R.sep j k e f c q1 q2 h3 h4
  io := fun c e hI h => by
    rcases set_get h with ⟨_, q, _⟩ | ⟨n', q⟩
    · cases q
    · exact R.io c e hI q
def dropSl : Sl → Sl
  | .ow _ => .no
  | s => s
def dropOwn (env : DEnv) : DEnv := env.map dropSl
theorem REnv.drop (R : REnv g b H O σ env) : REnv g b H O σ (dropOwn env) where
  len := by unfold dropOwn; rw [List.length_map]; exact R.len
  pro := R.pro
  out := R.out
  hd := R.hd
  fr := fun j e h => by
    unfold dropOwn at h
    rw [List.getElem?_map] at h
    cases z : env[j]? with
    | none => rw [z] at h; cases h
    | some s => rw [z] at h; cases s <;> cases h; exact R.fr j e z
  ow := fun j e h => by
    unfold dropOwn at h
    rw [List.getElem?_map] at h
    cases z : env[j]? with
    | none => rw [z] at h; cases h
    | some s => rw [z] at h; cases s <;> cases h
  sep := fun j k e f c h1 h2 h3 h4 => by
    unfold dropOwn at h1
    rw [List.getElem?_map] at h1
    cases z : env[j]? with
    | none => rw [z] at h1; cases h1
    | some s => rw [z] at h1; cases s <;> cases h1
  io := fun c d hI h => by
    unfold dropOwn at h
    rw [List.getElem?_map] at h
    cases z : env[0]? with
    | none => rw [z] at h; cases h
    | some s => rw [z] at h; cases s <;> cases h
/-- an object of one's own is data from now on -/
theorem REnv.freeze (R : REnv g b H O σ env) (h : env[i]? = some (.ow d)) (hv : σ[i]? = some (some v)) :
    ∃ O', Ext (hide H O) (hide H O') ∧ (∀ c, c ∈ O' → c ∈ O) ∧ REnv g b H O' σ (env.set i (.fr d)) ∧ Rep g (hide H O') d v := by
  obtain ⟨a, h1, h2, h3, h4, h5⟩ := R.ow i d h
  rw [hv] at h1; cases h1
  have sub : ∀ c, c ∈ O.filter (fun c => decide (c ≠ a)) → c ∈ O := fun c hc => (List.mem_filter.mp hc).1
  have nin : a ∉ O.filter (fun c => decide (c ≠ a)) := fun hc => by simpa using (List.mem_filter.mp hc).2
  have kp : ∀ c, c ∈ O → c ≠ a → c ∈ O.filter (fun c => decide (c ≠ a)) := fun c hc n => List.mem_filter.mpr ⟨hc, by simpa using n⟩
  have rp := h5.rep (hide_less sub).le nin
  refine ⟨_, hide_less sub, sub, ?_, rp⟩
  refine ⟨by rw [List.length_set]; exact R.len, R.pro, fun c hc => kp c (R.out c hc) fun e => h3 (e ▸ hc), fun c hc => R.hd c (sub c hc), fun j e q => ?_, fun j e q => ?_, fun j k e f c q1 q2 h3 h4 => ?_, fun c e hI q => ?_⟩
  · rcases set_get q with ⟨rfl, q, z⟩ | ⟨n, q⟩
    · cases q; exact ⟨_, hv, rp⟩
    · obtain ⟨v, z1, z2⟩ := R.fr j e q
      exact ⟨v, z1, z2.le (hide_less sub).le⟩
  · rcases set_get q with ⟨rfl, q, z⟩ | ⟨n, q⟩
    · cases q
    · obtain ⟨c, z1, z2, z3, z4, z5⟩ := R.ow j e q
      exact ⟨c, z1, kp c z2 fun ec => n (R.sep j i e d a q h (by rw [← ec]; exact z1) hv), z3, z4, z5.le (hide_less sub).le fun _ z => z⟩
  · rcases set_get q1 with ⟨rfl, q, z⟩ | ⟨n1, q1⟩
    · cases q
    · rcases set_get q2 with ⟨rfl, q, z⟩ | ⟨n2, q2⟩
      · cases q
      · exact R.sep j k e f c q1 q2 h3 h4
  · rcases set_get q with ⟨_, q, _⟩ | ⟨n1, q1⟩
    · cases q
    · exact R.io c e hI q1
/-- an object of one's own changes -/
theorem REnv.mutate {d' : D} (R : REnv g b H O σ env) (h : env[i]? = some (.ow d)) (hv : σ[i]? = some (some (.ref a))) (k : ∀ c o, c ≠ a → H c = some o → H' c = some o)
    (n : OwnAt g H' O d' a) : REnv g b H' O σ (env.set i (.ow d')) := by
  obtain ⟨a', h1, h2, h3, h4, h5⟩ := R.ow i d h
  rw [hv] at h1; cases h1
  have he : Ext (hide H O) (hide H' O) := hide_same h2 k
  refine ⟨by rw [List.length_set]; exact R.len, fun c o q => k c o (fun e => by rw [e, h4] at q; cases q) (R.pro c o q), R.out, fun c hc => ?_, fun j e q => ?_, fun j e q => ?_, fun j l e f c q1 q2 z1 z2 => ?_, fun c e hI q => ?_⟩
  · by_cases ec : c = a
    · subst ec
      exact n.hid
    · exact (R.hd c hc).keep fun o z => k c o ec z
  · rcases set_get q with ⟨rfl, q, z⟩ | ⟨n, q⟩
    · cases q
    · obtain ⟨v, z1, z2⟩ := R.fr j e q
      exact ⟨v, z1, z2.le he.le⟩
  · rcases set_get q with ⟨rfl, q, z⟩ | ⟨nj, q⟩
    · cases q; exact ⟨a, hv, h2, h3, h4, n⟩
    · obtain ⟨c, z1, z2, z3, z4, z5⟩ := R.ow j e q
      refine ⟨c, z1, z2, z3, z4, z5.le he.le fun o ho => k c o (fun ec => nj (R.sep j i e d a q h (by rw [← ec]; exact z1) hv)) ho⟩
  · rcases set_get q1 with ⟨ej, e1, y1⟩ | ⟨n1, w1⟩
    · rcases set_get q2 with ⟨el, e2, y2⟩ | ⟨n2, w2⟩
      · rw [ej, el]
      · rw [ej] at z1 ⊢
        exact R.sep i l d f c h w2 z1 z2
    · rcases set_get q2 with ⟨el, e2, y2⟩ | ⟨n2, w2⟩
      · rw [el] at z2 ⊢
        exact R.sep j i e d c w1 h z1 z2
      · exact R.sep j l e f c w1 w2 z1 z2
  · rcases set_get q with ⟨q0, _, _⟩ | ⟨n1, q1⟩
    · exact R.io c d hI (by rw [q0]; exact h)
    · exact R.io c e hI q1
/-- a fresh object is laid, hidden -/
theorem REnv.lay {o : HO} (R : REnv g b H O σ env) (hp : H a = none) (ho : Hid (some o)) : REnv g b (upd H a o) (a :: O) σ env := by
  have e : Ext H (upd H a o) := Ext.new hp
  have he : Ext (hide H O) (hide (upd H a o) (a :: O)) := fun c u q => by
    obtain ⟨n, q⟩ := hide_some q
    rw [hide_out (fun z => (List.mem_cons.mp z).elim (fun z => by rw [z, hp] at q; cases q) n)]
    exact e c u q
  refine ⟨R.len, fun c u q => e c u (R.pro c u q), fun c hc => List.mem_cons_of_mem _ (R.out c hc), fun c hc => ?_, fun j f q => ?_, fun j f q => ?_, R.sep, R.io⟩
  · rcases List.mem_cons.mp hc with rfl | hc
    · rw [upd_same]; exact ho
    · exact (R.hd c hc).keep (e c)
  · obtain ⟨v, z1, z2⟩ := R.fr j f q
    exact ⟨v, z1, z2.le he.le⟩
  · obtain ⟨c, z1, z2, z3, z4, z5⟩ := R.ow j f q
    exact ⟨c, z1, List.mem_cons_of_mem _ z2, z3, z4, z5.le he.le fun u hu => e c u hu⟩
theorem lay_le {o : HO} (hp : H a = none) : Ext (hide H O) (hide (upd H a o) (a :: O)) := fun c u q => by
  obtain ⟨n, q⟩ := hide_some q
  rw [hide_out (fun z => (List.mem_cons.mp z).elim (fun z => by rw [z, hp] at q; cases q) n)]
  exact Ext.new hp c u q
theorem REnv.fresh (R : REnv g b H O σ env) (hp : H a = none) : b.B a = none ∧ a ∉ b.O ∧ a ∉ O := by
  refine ⟨?_, fun h => R.occ a (R.out a h) hp, fun h => R.occ a h hp⟩
  cases z : b.B a with
  | none => rfl
  | some o => rw [R.pro a o z] at hp; cases hp
/-- .. and is one's own -/
theorem REnv.layNew {o : HO} (R : REnv g b H O σ env) (hp : H a = none) (n : OwnAt g (upd H a o) (a :: O) d a) : New g b (upd H a o) (a :: O) σ env d a :=
  ⟨List.mem_cons_self, (R.fresh hp).2.1, (R.fresh hp).1, n, fun j e h q => by
    obtain ⟨c, z1, z2, z3, z4, z5⟩ := R.ow j e h
    rw [q] at z1; cases z1
    exact (R.fresh hp).2.2 z2⟩
/-- a new object is data from now on -/
theorem REnv.keep (R : REnv g b H O σ env) (n : New g b H O σ env d a) : ∃ O', Ext (hide H O) (hide H O') ∧ (∀ c, c ∈ O' → c ∈ O) ∧ REnv g b H O' σ env ∧ Rep g (hide H O') d (.ref a) := by
  have sub : ∀ c, c ∈ O.filter (fun c => decide (c ≠ a)) → c ∈ O := fun c hc => (List.mem_filter.mp hc).1
  have nin : a ∉ O.filter (fun c => decide (c ≠ a)) := fun hc => by simpa using (List.mem_filter.mp hc).2
  have kp : ∀ c, c ∈ O → c ≠ a → c ∈ O.filter (fun c => decide (c ≠ a)) := fun c hc n => List.mem_filter.mpr ⟨hc, by simpa using n⟩
  refine ⟨_, hide_less sub, sub, R.less sub (fun c hc => kp c (R.out c hc) fun e => n.nob (e ▸ hc)) (fun j e c h q => ?_), n.own.rep (hide_less sub).le nin⟩
  obtain ⟨c', z1, z2, _⟩ := R.ow j e h
  rw [q] at z1; cases z1
  exact kp c z2 fun e' => n.sep j e h (e' ▸ q)
end
end MM

set_option maxHeartbeats 2000000
namespace MM
open PySem PySem.Spec PyProof.Rows L2

/-! ### results -/
inductive Res (α : Type) where
  | ok (a : α)
  | err (c : Nat) (f : Option (Str × D)) (e : DEnv)
  | stuck
def Res.bind {α β : Type} (r : Res α) (k : α → Res β) : Res β := match r with
  | .ok a => k a
  | .err c f e => .err c f e
  | .stuck => .stuck
@[simp] theorem Res.bind_ok {α β : Type} (a : α) (k : α → Res β) : (Res.ok a).bind k = k a := rfl
@[simp] theorem Res.bind_err {α β : Type} (c f e) (k : α → Res β) : (Res.err c f e).bind k = .err c f e := rfl
@[simp] theorem Res.bind_stuck {α β : Type} (k : α → Res β) : (Res.stuck).bind k = .stuck := rfl
/-- a step that is not told: the mirror is stuck -/
def ofO {α : Type} : Option α → Res α
  | some a => .ok a
  | none => .stuck
@[simp] theorem ofO_some {α : Type} (a : α) : ofO (some a) = .ok a := rfl
@[simp] theorem ofO_none {α : Type} : ofO (none : Option α) = .stuck := rfl
/-- a value at hand: data; a new object; the object of a name's own -/
inductive P where
  | d (d : D)
  | n (d : D)
  | s (i : Nat)
def P.fz : P → P
  | .n x => .d x
  | .d x => .d x
  | .s x => .s x
def P.frz : P → DEnv → Option (D × DEnv)
  | .d x, e => some (x, e)
  | .n x, e => some (x, e)
  | .s k, e => match e[k]? with
    | some (.ow x) => some (x, e.set k (.fr x))
    | some (.fr x) => some (x, e)
    | _ => none
/-- what it holds now -/
def P.vw : P → DEnv → Option D
  | .d x, _ => some x
  | .n x, _ => some x
  | .s k, e => match e[k]? with
    | some (.ow x) => some x
    | some (.fr x) => some x
    | _ => none
def RP (g : G) (b : Bas) (H : Hp) (O : List Addr) (σ : L2.St) (env : DEnv) : P → V → Prop
  | .d d, v => Rep g (hide H O) d v
  | .n d, v => ∃ a, v = .ref a ∧ New g b H O σ env d a
  | .s i, v => σ[i]? = some (some v)
/-- not a new object -/
def P.old : P → Prop
  | .n _ => False
  | _ => True
/-- arguments at hand: none a new object -/
inductive RPs (g : G) (b : Bas) (H : Hp) (O : List Addr) (σ : L2.St) (env : DEnv) : List P → List V → Prop
  | nil : RPs g b H O σ env [] []
  | cons {p v ps vs} : p.old → RP g b H O σ env p v → RPs g b H O σ env ps vs → RPs g b H O σ env (p :: ps) (v :: vs)
theorem P.fz_old : ∀ (p : P), p.fz.old
  | .d _ => trivial
  | .n _ => trivial
  | .s _ => trivial
theorem P.fz_vw : ∀ (p : P) (e : DEnv), p.fz.vw e = p.vw e
  | .d _, _ => rfl
  | .n _, _ => rfl
  | .s _, _ => rfl
/-- what may be read of it -/
def View (g : G) (H : Hp) (O : List Addr) (d : D) (v : V) : Prop := Rep g (hide H O) d v ∨ ∃ a, v = .ref a ∧ OwnAt g H O d a

section
variable {g : G} {b : Bas} {H H' H1 : Hp} {O O' O1 : List Addr} {σ : L2.St} {env env' : DEnv} {p q : P} {v : V} {d : D}
theorem RP.move (o : p.old) (e : Le (hide H O) (hide H1 O1)) (r : RP g b H O σ env p v) : RP g b H1 O1 σ env' p v := by
  cases p with
  | d d => exact Rep.le e r
  | n d => exact o.elim
  | s i => exact r
theorem fz_ok (R : REnv g b H O σ env) (r : RP g b H O σ env p v) : ∃ O', Ext (hide H O) (hide H O') ∧ REnv g b H O' σ env ∧ RP g b H O' σ env p.fz v := by
  cases p with
  | d d => exact ⟨O, Ext.refl _, R, r⟩
  | n d =>
    obtain ⟨a, rfl, n⟩ := r
    obtain ⟨O', h1, _, h2, h3⟩ := R.keep n
    exact ⟨O', h1, h2, h3⟩
  | s i => exact ⟨O, Ext.refl _, R, r⟩
theorem frz_ok (R : REnv g b H O σ env) (r : RP g b H O σ env p v) (h : p.frz env = some (d, env')) : ∃ O', Ext (hide H O) (hide H O') ∧ REnv g b H O' σ env' ∧ Rep g (hide H O') d v := by
  cases p with
  | d d => cases h; exact ⟨O, Ext.refl _, R, r⟩
  | n d =>
    cases h
    obtain ⟨a, rfl, n⟩ := r
    obtain ⟨O', h1, _, h2, h3⟩ := R.keep n
    exact ⟨O', h1, h2, h3⟩
  | s i =>
    simp only [P.frz] at h
    split at h
    · rename_i d' e'
      cases h
      obtain ⟨O', h1, h2, h3, h4⟩ := R.freeze e' r
      exact ⟨O', h1, h3, h4⟩
    · rename_i d' e'
      cases h
      obtain ⟨v', h1, h2⟩ := R.fr i _ e'
      have r' : σ[i]? = some (some v) := r
      rw [r'] at h1; cases h1
      exact ⟨O, Ext.refl _, R, h2⟩
    · cases h
theorem vw_ok (R : REnv g b H O σ env) (r : RP g b H O σ env p v) (h : p.vw env = some d) : View g H O d v := by
  cases p with
  | d d => cases h; exact .inl r
  | n d => cases h; obtain ⟨a, rfl, n⟩ := r; exact .inr ⟨a, rfl, n.own⟩
  | s i =>
    simp only [P.vw] at h
    have r' : σ[i]? = some (some v) := r
    split at h
    · rename_i d' e'
      cases h
      obtain ⟨a, h1, _, _, _, h5⟩ := R.ow i _ e'
      rw [r'] at h1; cases h1
      exact .inr ⟨a, rfl, h5⟩
    · rename_i d' e'
      cases h
      obtain ⟨v', h1, h2⟩ := R.fr i _ e'
      rw [r'] at h1; cases h1
      exact .inl h2
    · cases h
theorem vw_s {i : Nat} (R : REnv g b H O σ env) (h : env[i]? = some (.ow d)) : ∃ a, σ[i]? = some (some (.ref a)) ∧ OwnAt g H O d a := by
  obtain ⟨a, h1, _, _, _, h5⟩ := R.ow i d h
  exact ⟨a, h1, h5⟩
theorem rep_out (r : Rep g (hide H O) d v) : Rep g H d v := r.le hide_sub.le
theorem View.int {i : Int} (h : View g H O (.int i) v) : v = .int i := by
  rcases h with h | ⟨a, _, h⟩
  · cases h; rfl
  · exact h.elim
theorem View.bl {i : Bool} (h : View g H O (.bl i) v) : v = .bl i := by
  rcases h with h | ⟨a, _, h⟩
  · cases h; rfl
  · exact h.elim
theorem View.str {i : Str} (h : View g H O (.str i) v) : v = .str i := by
  rcases h with h | ⟨a, _, h⟩
  · cases h; rfl
  · exact h.elim
theorem View.non (h : View g H O .non v) : v = .non := by
  rcases h with h | ⟨a, _, h⟩
  · cases h; rfl
  · exact h.elim
theorem View.tup {l : List D} (h : View g H O (.tup l) v) : ∃ a xs, v = .ref a ∧ SqT g.K H a xs ∧ Reps g (hide H O) l xs := by
  rcases h with h | ⟨a, _, h⟩
  · cases h with
    | tup h r => exact ⟨_, _, rfl, .inl (.inl (hide_sub _ _ h)), r⟩
    | ktup h => exact ⟨_, _, rfl, h H, Reps.strs _⟩
  · exact h.elim
/-- a tuple that has an int is no tuple of the module's -/
theorem View.tupI {l : List D} {i : Int} (h : View g H O (.tup (.int i :: l)) v) : ∃ a xs, v = .ref a ∧ H a = some (.tup xs) ∧ Reps g (hide H O) (.int i :: l) xs := by
  rcases h with h | ⟨a, _, h⟩
  · generalize he : D.tup (.int i :: l) = t at h
    cases h with
    | tup h r => cases he; exact ⟨_, _, rfl, hide_sub _ _ h, r⟩
    | ktup h =>
      rename_i l' a
      cases l' with
      | nil => simp at he
      | cons _ _ => simp at he
    | _ => cases he
  · exact h.elim
theorem View.lst {l : List D} (h : View g H O (.lst l) v) : ∃ a xs, v = .ref a ∧ H a = some (.lst xs) ∧ Reps g (hide H O) l xs := by
  rcases h with h | ⟨a, rfl, xs, h, r⟩
  · cases h with
    | lst h r => exact ⟨_, _, rfl, hide_sub _ _ h, r⟩
  · exact ⟨a, xs, rfl, h, r⟩
theorem rd_out {a : Addr} {u : HO} (h : Rd (hide H O) a u) : Rd H a u := h.elim (fun h => .inl (hide_sub _ _ h)) fun ⟨o, h⟩ => .inr ⟨o, hide_sub _ _ h⟩
theorem View.dK {l : List (Key × D)} (h : View g H O (.dK l) v) : ∃ a kvs, v = .ref a ∧ Rd H a (.dK kvs) ∧ kvs.map (·.1) = l.map (·.1) ∧ Reps g (hide H O) (l.map (·.2)) (kvs.map (·.2)) := by
  rcases h with h | ⟨a, rfl, xs, h, m, r⟩
  · cases h with
    | dK h m r => exact ⟨_, _, rfl, rd_out h, m, r⟩
  · exact ⟨a, xs, rfl, .inl h, m, r⟩
theorem View.dT {l : List (List Key × D)} (h : View g H O (.dT l) v) : ∃ a kvs, v = .ref a ∧ Rd H a (.dT kvs) ∧ kvs.map (·.1) = l.map (·.1) ∧ Reps g (hide H O) (l.map (·.2)) (kvs.map (·.2)) := by
  rcases h with h | ⟨a, rfl, xs, h, m, r⟩
  · cases h with
    | dT h m r => exact ⟨_, _, rfl, rd_out h, m, r⟩
  · exact ⟨a, xs, rfl, .inl h, m, r⟩
theorem View.obj {c : Nat} {fs : List (Str × D)} (h : View g H O (.obj c fs) v) : ∃ a dx gs, v = .ref a ∧ H a = some (.ins (g.C c) dx gs) ∧ gs.map (·.1) = fs.map (·.1) ∧ Reps g (hide H O) (fs.map (·.2)) (gs.map (·.2)) := by
  rcases h with h | ⟨a, rfl, dx, xs, h, m, r⟩
  · cases h with
    | obj h m r => exact ⟨_, _, _, rfl, hide_sub _ _ h, m, r⟩
  · exact ⟨a, dx, xs, rfl, h, m, r⟩
theorem View.scr {l : List Int} (h : View g H O (.scr l) v) : ∃ a, v = .ref a ∧ SqL g.K H a (l.map V.int) := by
  rcases h with h | ⟨a, _, h⟩
  · cases h with
    | scr h => exact ⟨_, rfl, sqL_le hide_sub.le h⟩
  · exact h.elim
theorem View.more (e : Le (hide H O) (hide H1 O1)) (k : Ext H H1) (h : View g H O d v) : View g H1 O1 d v :=
  h.elim (fun h => .inl (h.le e)) fun ⟨a, ea, h⟩ => .inr ⟨a, ea, h.le e fun o => k a o⟩
end

/-! ### readings of mirrors -/
def ExcAt (g : G) (c : Nat) (f : Option (Str × D)) (cls : Value) (dd : Option Addr) (H : Hp) : Prop := cls = .ref (g.X c) ∧ match f with
  | none => dd = none
  | some (n, d) => ∃ a v, dd = some a ∧ H a = some (.xd [(n, v)]) ∧ Rep g (fun _ => none) d v
abbrev EDen := DEnv → Res (P × DEnv)
abbrev TDen := DEnv → Res (Bool × DEnv)
abbrev ADen := DEnv → Res (List P × DEnv)
inductive Fl where
  | nx | rt (p : P) | bk | ct
abbrev SDen := DEnv → Res (Fl × DEnv)
abbrev BDen := P → DEnv → Res DEnv

section
variable (g : G) (W : WX) (b : Bas) (σ : L2.St) (H : Hp) (O : List Addr)
def PostX (σ : L2.St) (c : Nat) (f : Option (Str × D)) (e : DEnv) : Prop := ∀ cls dd H' O', Le (hide H O) (hide H' O') → REnv g b H' O' σ (dropOwn e) → ExcAt g c f cls dd H' → W cls dd σ H'
def PostE (r : Res (P × DEnv)) (Q : VK) : Prop := match r with
  | .ok (p, e) => ∀ v H' O', Le (hide H O) (hide H' O') → REnv g b H' O' σ e → RP g b H' O' σ e p v → Q v H'
  | .err c f e => PostX g W b H O σ c f e
  | .stuck => False
def PostT (r : Res (Bool × DEnv)) (Q : Bool → Hp → Prop) : Prop := match r with
  | .ok (k, e) => ∀ H' O', Le (hide H O) (hide H' O') → REnv g b H' O' σ e → Q k H'
  | .err c f e => PostX g W b H O σ c f e
  | .stuck => False
def PostA (r : Res (List P × DEnv)) (Q : List V → Hp → Prop) : Prop := match r with
  | .ok (ps, e) => ∀ vs H' O', Le (hide H O) (hide H' O') → REnv g b H' O' σ e → RPs g b H' O' σ e ps vs → Q vs H'
  | .err c f e => PostX g W b H O σ c f e
  | .stuck => False
def PostS (r : Res (Fl × DEnv)) (D : Ends) : Prop := match r with
  | .ok (.nx, e) => ∀ σ' H' O', Le (hide H O) (hide H' O') → REnv g b H' O' σ' e → D.nx σ' H'
  | .ok (.bk, e) => ∀ σ' H' O', Le (hide H O) (hide H' O') → REnv g b H' O' σ' e → D.bk σ' H'
  | .ok (.ct, e) => ∀ σ' H' O', Le (hide H O) (hide H' O') → REnv g b H' O' σ' e → D.ct σ' H'
  | .ok (.rt p, e) => ∀ v σ' H' O', Le (hide H O) (hide H' O') → REnv g b H' O' σ' e → RP g b H' O' σ' e p v → D.rt v H'
  | .err c f e => ∀ σ', PostX g W b H O σ' c f e
  | .stuck => False
def PostB (r : Res DEnv) (Q : L2.St → Hp → Prop) : Prop := match r with
  | .ok e => ∀ σ' H' O', Le (hide H O) (hide H' O') → REnv g b H' O' σ' e → Q σ' H'
  | .err _ _ _ => False
  | .stuck => False
end
def rE (g : G) (W : WX) (m : EDen) : TE := fun σ H Q => ∃ b O env, REnv g b H O σ env ∧ PostE g W b σ H O (m env) Q
def rT (g : G) (W : WX) (m : TDen) : TT := fun σ H Q => ∃ b O env, REnv g b H O σ env ∧ PostT g W b σ H O (m env) Q
def rA (g : G) (W : WX) (m : ADen) : TA := fun σ H Q => ∃ b O env, REnv g b H O σ env ∧ PostA g W b σ H O (m env) Q
def rS (g : G) (W : WX) (m : SDen) : TS := fun D σ H => ∃ b O env, REnv g b H O σ env ∧ PostS g W b H O (m env) D
def rG (g : G) (m : BDen) : TG := fun v σ H Q => ∃ b O env p, REnv g b H O σ env ∧ RP g b H O σ env p v ∧ PostB g b H O (m p env) Q

/-! ### weaker readings -/
section
variable {X : Cx}
theorem pe_weak {e : Expr} {t t' : TE} (h : PE X e t) (w : ∀ σ H Q, t' σ H Q → t σ H Q) : PE X e t' := ⟨fun pins s σ H Q I q => h.run pins s σ H Q I (w σ H Q q)⟩
theorem pt_weak {e : Expr} {t t' : TT} (h : PT X e t) (w : ∀ σ H Q, t' σ H Q → t σ H Q) : PT X e t' := ⟨fun pins s σ H Q I q => h.run pins s σ H Q I (w σ H Q q)⟩
theorem pw_weak {e : Expr} {t t' : TT} (h : PW X e t) (w : ∀ σ H Q, t' σ H Q → t σ H Q) : PW X e t' := ⟨fun wh pins s σ H Q I q => h.run wh pins s σ H Q I (w σ H Q q)⟩
theorem pa_weak {e : List Expr} {t t' : TA} (h : PA X e t) (w : ∀ σ H Q, t' σ H Q → t σ H Q) : PA X e t' := ⟨fun pos pins s σ H Q I q => h.run pos pins s σ H Q I (w σ H Q q)⟩
theorem ps_weak {e : Stmt} {t t' : TS} (h : PS X e t) (w : ∀ D σ H, t' D σ H → t D σ H) : PS X e t' := ⟨fun pins s σ H D I q => h.run pins s σ H D I (w D σ H q)⟩
theorem pss_weak {e : List Stmt} {t t' : TS} (h : PSs X e t) (w : ∀ D σ H, t' D σ H → t D σ H) : PSs X e t' := ⟨fun pins s σ H D I q => h.run pins s σ H D I (w D σ H q)⟩
theorem pg_weak {e : Expr} {t t' : TG} (h : PG X e t) (w : ∀ v σ H Q, t' v σ H Q → t v σ H Q) : PG X e t' := ⟨fun pins s σ H v u Q I r q => h.run pins s σ H v u Q I r (w v σ H Q q)⟩
theorem pi_weak {tg e : Expr} {t t' : TI} (h : PI X tg e t) (w : ∀ σ H R, t' σ H R → t σ H R) : PI X tg e t' := ⟨fun pins s σ H R I q => h.run pins s σ H R I (w σ H R q)⟩
end

/-! ### one after the other -/
section
variable {g : G} {W : WX} {b : Bas} {σ : L2.St} {H H1 : Hp} {O O1 : List Addr} {α : Type}
theorem PostE.le (e : Le (hide H O) (hide H1 O1)) : ∀ {r : Res (P × DEnv)} {Q : VK}, PostE g W b σ H O r Q → PostE g W b σ H1 O1 r Q
  | .ok (p, _), Q, h => fun v H' O' l => h v H' O' (e.trans l)
  | .err _ _ _, _, h => fun cls dd H' O' l => h cls dd H' O' (e.trans l)
  | .stuck, _, h => h
theorem PostT.le (e : Le (hide H O) (hide H1 O1)) : ∀ {r : Res (Bool × DEnv)} {Q : Bool → Hp → Prop}, PostT g W b σ H O r Q → PostT g W b σ H1 O1 r Q
  | .ok (p, _), Q, h => fun H' O' l => h H' O' (e.trans l)
  | .err _ _ _, _, h => fun cls dd H' O' l => h cls dd H' O' (e.trans l)
  | .stuck, _, h => h
theorem PostA.le (e : Le (hide H O) (hide H1 O1)) : ∀ {r : Res (List P × DEnv)} {Q : List V → Hp → Prop}, PostA g W b σ H O r Q → PostA g W b σ H1 O1 r Q
  | .ok (p, _), Q, h => fun v H' O' l => h v H' O' (e.trans l)
  | .err _ _ _, _, h => fun cls dd H' O' l => h cls dd H' O' (e.trans l)
  | .stuck, _, h => h
theorem PostS.le (e : Le (hide H O) (hide H1 O1)) : ∀ {r : Res (Fl × DEnv)} {D : Ends}, PostS g W b H O r D → PostS g W b H1 O1 r D
  | .ok (.nx, _), _, h => fun v H' O' l => h v H' O' (e.trans l)
  | .ok (.bk, _), _, h => fun v H' O' l => h v H' O' (e.trans l)
  | .ok (.ct, _), _, h => fun v H' O' l => h v H' O' (e.trans l)
  | .ok (.rt _, _), _, h => fun v s H' O' l => h v s H' O' (e.trans l)
  | .err _ _ _, _, h => fun σ' cls dd H' O' l => h σ' cls dd H' O' (e.trans l)
  | .stuck, _, h => h
/-- what behind an expression is still to be shown: KE of what goes on -/
structure Mid (g : G) (W : WX) (b : Bas) (σ : L2.St) (H0 : Hp) (O0 : List Addr) (p : P) (e : DEnv) (v : V) (H : Hp) (O : List Addr) : Prop where
  le : Le (hide H0 O0) (hide H O)
  env : REnv g b H O σ e
  rep : RP g b H O σ e p v
/-- an expression, then the rest: the rest is shown from any end of the expression -/
theorem rE.bind {m : EDen} {k : P × DEnv → Res α} {F : Hp → List Addr → Res α → Prop}
    (hF : ∀ c f e, F H O (.err c f e) → PostX g W b H O σ c f e) (hS : F H O .stuck → False) (hL : ∀ H1 O1 r, Le (hide H O) (hide H1 O1) → F H O r → F H1 O1 r)
    {env : DEnv} (R : REnv g b H O σ env) (h : F H O ((m env).bind k)) : rE g W m σ H fun v H1 => ∃ O1 p e, Mid g W b σ H O p e v H1 O1 ∧ F H1 O1 (k (p, e)) := by
  refine ⟨b, O, env, R, ?_⟩
  cases z : m env with
  | ok a =>
    obtain ⟨p, e⟩ := a
    rw [z] at h
    exact fun v H' O' l R' rp => ⟨O', p, e, ⟨l, R', rp⟩, hL _ _ _ l h⟩
  | err c f e => rw [z] at h; exact hF c f e h
  | stuck => rw [z] at h; exact hS h
theorem rE.bindE {m : EDen} {k : P × DEnv → Res (P × DEnv)} {Q : VK} {env : DEnv} (R : REnv g b H O σ env) (h : PostE g W b σ H O ((m env).bind k) Q) :
    rE g W m σ H fun v H1 => ∃ O1 p e, Mid g W b σ H O p e v H1 O1 ∧ PostE g W b σ H1 O1 (k (p, e)) Q :=
  rE.bind (F := fun H O r => PostE g W b σ H O r Q) (fun _ _ _ z => z) (fun z => z) (fun _ _ _ l z => z.le l) R h
theorem rE.bindT {m : EDen} {k : P × DEnv → Res (Bool × DEnv)} {Q : Bool → Hp → Prop} {env : DEnv} (R : REnv g b H O σ env) (h : PostT g W b σ H O ((m env).bind k) Q) :
    rE g W m σ H fun v H1 => ∃ O1 p e, Mid g W b σ H O p e v H1 O1 ∧ PostT g W b σ H1 O1 (k (p, e)) Q :=
  rE.bind (F := fun H O r => PostT g W b σ H O r Q) (fun _ _ _ z => z) (fun z => z) (fun _ _ _ l z => z.le l) R h
theorem rE.bindA {m : EDen} {k : P × DEnv → Res (List P × DEnv)} {Q : List V → Hp → Prop} {env : DEnv} (R : REnv g b H O σ env) (h : PostA g W b σ H O ((m env).bind k) Q) :
    rE g W m σ H fun v H1 => ∃ O1 p e, Mid g W b σ H O p e v H1 O1 ∧ PostA g W b σ H1 O1 (k (p, e)) Q :=
  rE.bind (F := fun H O r => PostA g W b σ H O r Q) (fun _ _ _ z => z) (fun z => z) (fun _ _ _ l z => z.le l) R h
theorem rE.bindS {m : EDen} {k : P × DEnv → Res (Fl × DEnv)} {D : Ends} {env : DEnv} (R : REnv g b H O σ env) (h : PostS g W b H O ((m env).bind k) D) :
    rE g W m σ H fun v H1 => ∃ O1 p e, Mid g W b σ H O p e v H1 O1 ∧ PostS g W b H1 O1 (k (p, e)) D :=
  rE.bind (F := fun H O r => PostS g W b H O r D) (fun _ _ _ z => z σ) (fun z => z) (fun _ _ _ l z => z.le l) R h
theorem rT.bind {m : TDen} {k : Bool × DEnv → Res α} {F : Hp → List Addr → Res α → Prop}
    (hF : ∀ c f e, F H O (.err c f e) → PostX g W b H O σ c f e) (hS : F H O .stuck → False) (hL : ∀ H1 O1 r, Le (hide H O) (hide H1 O1) → F H O r → F H1 O1 r)
    {env : DEnv} (R : REnv g b H O σ env) (h : F H O ((m env).bind k)) : rT g W m σ H fun c H1 => ∃ O1 e, Le (hide H O) (hide H1 O1) ∧ REnv g b H1 O1 σ e ∧ F H1 O1 (k (c, e)) := by
  refine ⟨b, O, env, R, ?_⟩
  cases z : m env with
  | ok a =>
    obtain ⟨p, e⟩ := a
    rw [z] at h
    exact fun H' O' l R' => ⟨O', e, l, R', hL _ _ _ l h⟩
  | err c f e => rw [z] at h; exact hF c f e h
  | stuck => rw [z] at h; exact hS h
theorem rA.bind {m : ADen} {k : List P × DEnv → Res α} {F : Hp → List Addr → Res α → Prop}
    (hF : ∀ c f e, F H O (.err c f e) → PostX g W b H O σ c f e) (hS : F H O .stuck → False) (hL : ∀ H1 O1 r, Le (hide H O) (hide H1 O1) → F H O r → F H1 O1 r)
    {env : DEnv} (R : REnv g b H O σ env) (h : F H O ((m env).bind k)) : rA g W m σ H fun vs H1 => ∃ O1 ps e, Le (hide H O) (hide H1 O1) ∧ REnv g b H1 O1 σ e ∧ RPs g b H1 O1 σ e ps vs ∧ F H1 O1 (k (ps, e)) := by
  refine ⟨b, O, env, R, ?_⟩
  cases z : m env with
  | ok a =>
    obtain ⟨p, e⟩ := a
    rw [z] at h
    exact fun v H' O' l R' rp => ⟨O', p, e, l, R', rp, hL _ _ _ l h⟩
  | err c f e => rw [z] at h; exact hF c f e h
  | stuck => rw [z] at h; exact hS h
end

/-! ### operators of one, of two places -/
def bin2 (ma mb : EDen) (f : P → P → DEnv → Res (P × DEnv)) : EDen := fun env => (ma env).bind fun a => (mb a.2).bind fun c => f a.1.fz c.1 c.2
def un1 (ma : EDen) (f : P → DEnv → Res (P × DEnv)) : EDen := fun env => (ma env).bind fun a => f a.1 a.2
def Op2 (g : G) (r : R2) (f : P → P → DEnv → Res (P × DEnv)) : Prop := ∀ W b H O σ e p q x y Q, REnv g b H O σ e → RP g b H O σ e p x → RP g b H O σ e q y → PostE g W b σ H O (f p q e) Q → r x y H Q
def Op1 (g : G) (r : V → Hp → VK → Prop) (f : P → DEnv → Res (P × DEnv)) : Prop := ∀ W b H O σ e p x Q, REnv g b H O σ e → RP g b H O σ e p x → PostE g W b σ H O (f p e) Q → r x H Q
section
variable {g : G} {W : WX} {ma mb : EDen}
theorem sim2 {r : R2} {f : P → P → DEnv → Res (P × DEnv)} (hr : Op2 g r f) {σ : L2.St} {H : Hp} {Q : VK} (h : rE g W (bin2 ma mb f) σ H Q) : tOp r (rE g W ma) (rE g W mb) σ H Q := by
  obtain ⟨b, O, env, R, h⟩ := h
  obtain ⟨b', O', env', R', h'⟩ := rE.bindE (m := ma) R h
  refine ⟨b', O', env', R', ?_⟩
  revert h'
  cases ma env' with
  | err c f e => exact fun z => z
  | stuck => exact fun z => z
  | ok a =>
    intro h' v H1 O1 l1 R1 rp1
    obtain ⟨O2, p, e, M, h2⟩ := h' v H1 O1 l1 R1 rp1
    obtain ⟨O3, l3, R3, rp3⟩ := fz_ok M.env M.rep
    obtain ⟨b', O', env', R', h'⟩ := rE.bindE (m := mb) R3 (h2.le l3.le)
    refine ⟨b', O', env', R', ?_⟩
    revert h'
    cases mb env' with
    | err c f e => exact fun z => z
    | stuck => exact fun z => z
    | ok a =>
      intro h' v' H4 O4 l4 R4 rp4
      obtain ⟨O5, q, e5, M5, h5⟩ := h' v' H4 O4 l4 R4 rp4
      exact hr W b H4 O5 σ e5 p.fz q v v' Q M5.env (rp3.move p.fz_old M5.le) M5.rep h5
theorem sim1 {r : V → Hp → VK → Prop} {f : P → DEnv → Res (P × DEnv)} (hr : Op1 g r f) {σ : L2.St} {H : Hp} {Q : VK} (h : rE g W (un1 ma f) σ H Q) : tUn r (rE g W ma) σ H Q := by
  obtain ⟨b, O, env, R, h⟩ := h
  obtain ⟨b', O', env', R', h'⟩ := rE.bindE (m := ma) R h
  refine ⟨b', O', env', R', ?_⟩
  revert h'
  cases ma env' with
  | err c f e => exact fun z => z
  | stuck => exact fun z => z
  | ok a =>
    intro h' v H1 O1 l1 R1 rp1
    obtain ⟨O2, p, e, M, h2⟩ := h' v H1 O1 l1 R1 rp1
    exact hr W b H1 O2 σ e p v Q M.env M.rep h2
end
end MM

set_option maxHeartbeats 2000000
namespace MM
open PySem PySem.Spec PyProof.Rows L2

/-! ### names, constants -/
def eVar (i : Nat) : EDen := fun e => match e[i]? with
  | some (.fr d) => .ok (.d d, e)
  | some (.ow _) => .ok (.s i, e)
  | _ => .stuck
def eC (d : D) : EDen := fun e => .ok (.d d, e)
section
variable {g : G} {W : WX} {X : Cx} {pos : Pos}
theorem rE_var {i : Nat} {σ : L2.St} {H : Hp} {Q : VK} (h : rE g W (eVar i) σ H Q) : tVar i σ H Q := by
  obtain ⟨b, O, env, R, h⟩ := h
  unfold eVar at h
  split at h
  · rename_i d e
    obtain ⟨v, h1, h2⟩ := R.fr i d e
    exact ⟨v, h1, h v H O (Le.refl _) R h2⟩
  · rename_i d e
    obtain ⟨a, h1, h2, _⟩ := R.ow i d e
    exact ⟨_, h1, h _ H O (Le.refl _) R h1⟩
  · exact h.elim
theorem x_var (i : Nat) {x : Str} (hN : X.N[i]? = some x := by rfl) (hv : Vis X.env.scope x := by first | exact Or.inl rfl | exact Or.inr (Or.inl rfl) | exact Or.inr (Or.inr rfl)) (hd : (x == ("__debug__" : Str)) = false := by decide)
    (hcd : (x == ("__classdict__" : Str)) = false := by decide) : PE X (.Name x pos) (rE g W (eVar i)) := pe_weak (pe_var hN hv hd hcd) fun _ _ _ h => rE_var h
theorem none_le {H : Hp} : Le (fun _ => none) H := by
  refine ⟨fun a u _ z => ?_, fun a u _ z => by cases z⟩
  rcases z with z | ⟨o, z⟩
  · cases z
  · cases z
theorem rE_c {d : D} {v : V} (r : Rep g (fun _ => none) d v) {σ : L2.St} {H : Hp} {Q : VK} (h : rE g W (eC d) σ H Q) : tC v σ H Q := by
  obtain ⟨b, O, env, R, h⟩ := h
  exact h v H O (Le.refl _) R (r.le none_le)
theorem x_int {i : Int} {j} : PE X (.Constant (.int i) j pos) (rE g W (eC (.int i))) := pe_weak pe_int fun _ _ _ h => rE_c .int h
theorem x_bl {i : Bool} {j} : PE X (.Constant (.bool i) j pos) (rE g W (eC (.bl i))) := pe_weak pe_bl fun _ _ _ h => rE_c .bl h
theorem x_non {j} : PE X (.Constant .none j pos) (rE g W (eC .non)) := pe_weak pe_non fun _ _ _ h => rE_c .non h
theorem x_str {i : Str} {j} : PE X (.Constant (.str i) j pos) (rE g W (eC (.str i))) := pe_weak pe_str fun _ _ _ h => rE_c .str h
/-- a name that the module's top has bound -/
theorem x_glob {x : Str} {d : D} {v : V} {u : Value} (hg : Gl X x) (hm : X.mg x = some u) (rv : RelV v u) (r : Rep g (fun _ => none) d v) (hd : (x == ("__debug__" : Str)) = false := by decide) : PE X (.Name x pos) (rE g W (eC d)) :=
  pe_weak (pe_glob hg hm rv hd) fun _ _ _ h => rE_c r h
end

/-! ### operators by views -/
def f1 (k : D → Option D) (p : P) (e : DEnv) : Res (P × DEnv) := (ofO (p.vw e)).bind fun x => (ofO (k x)).bind fun z => .ok (.d z, e)
def n1 (k : D → Option D) (p : P) (e : DEnv) : Res (P × DEnv) := (ofO (p.vw e)).bind fun x => (ofO (k x)).bind fun z => .ok (.n z, e)
def f2 (k : D → D → Option D) (p q : P) (e : DEnv) : Res (P × DEnv) := (ofO (p.vw e)).bind fun x => (ofO (q.vw e)).bind fun y => (ofO (k x y)).bind fun z => .ok (.d z, e)
def n2 (k : D → D → Option D) (p q : P) (e : DEnv) : Res (P × DEnv) := (ofO (p.vw e)).bind fun x => (ofO (q.vw e)).bind fun y => (ofO (k x y)).bind fun z => .ok (.n z, e)
section
variable {g : G} {W : WX} {b : Bas} {σ : L2.St} {H : Hp} {O : List Addr} {e : DEnv} {z : D} {Q : VK}
/-- an end that is data, the heap grown -/
theorem endD (R : REnv g b H O σ e) (h : PostE g W b σ H O (.ok (.d z, e)) Q) : ∀ v H', Ext H H' → Rep g (hide H' O) z v → Q v H' := fun v H' x r => h v H' O (hide_ext x).le (R.ext x) r
/-- an end that is a new object -/
theorem endN (R : REnv g b H O σ e) (h : PostE g W b σ H O (.ok (.n z, e)) Q) : ∀ a o, H a = none → OwnAt g (upd H a o) (a :: O) z a → Q (.ref a) (upd H a o) := fun a o n w =>
  h _ _ (a :: O) (lay_le n).le (R.lay n (by have := w.hid; rw [upd_same] at this; exact this)) ⟨a, rfl, R.layNew n w⟩
/-- .. data from now on -/
theorem endN' (R : REnv g b H O σ e) (h : PostE g W b σ H O (.ok (.d z, e)) Q) : ∀ a o, H a = none → OwnAt g (upd H a o) (a :: O) z a → Q (.ref a) (upd H a o) := fun a o n w =>
  h _ _ O (hide_ext (Ext.new n)).le (R.ext (Ext.new n)) (w.rep (hide_less fun c hc => List.mem_cons_of_mem _ hc).le fun hc => R.occ a hc n)
theorem f1_op {r : V → Hp → VK → Prop} {k : D → Option D}
    (h : ∀ H O d z x Q, (∀ a, a ∈ O → H a ≠ none) → View g H O d x → k d = some z → (∀ v H', Ext H H' → Rep g (hide H' O) z v → Q v H') → r x H Q) : Op1 g r (f1 k) := fun W b H O σ e p x Q R rp q => by
  unfold f1 at q
  cases hx : p.vw e with
  | none => rw [hx] at q; exact q.elim
  | some d =>
    rw [hx] at q
    cases hz : k d with
    | none => simp only [ofO_some, Res.bind_ok, hz, ofO_none, Res.bind_stuck] at q; exact q.elim
    | some z =>
      simp only [ofO_some, Res.bind_ok, hz] at q
      exact h H O d z x Q R.occ (vw_ok R rp hx) hz (endD R q)
theorem f2_op {r : R2} {k : D → D → Option D}
    (h : ∀ H O d f z x y Q, (∀ a, a ∈ O → H a ≠ none) → View g H O d x → View g H O f y → k d f = some z → (∀ v H', Ext H H' → Rep g (hide H' O) z v → Q v H') → r x y H Q) : Op2 g r (f2 k) := fun W b H O σ e p p' x y Q R rp rp' q => by
  unfold f2 at q
  cases hx : p.vw e with
  | none => rw [hx] at q; exact q.elim
  | some d =>
    rw [hx] at q
    cases hy : p'.vw e with
    | none => simp only [ofO_some, Res.bind_ok, hy, ofO_none, Res.bind_stuck] at q; exact q.elim
    | some f =>
      simp only [ofO_some, Res.bind_ok, hy] at q
      cases hz : k d f with
      | none => simp only [hz, ofO_none, Res.bind_stuck] at q; exact q.elim
      | some z =>
        simp only [ofO_some, Res.bind_ok, hz] at q
        exact h H O d f z x y Q R.occ (vw_ok R rp hx) (vw_ok R rp' hy) hz (endD R q)
theorem n1_op {r : V → Hp → VK → Prop} {k : D → Option D}
    (h : ∀ H O d z x Q, (∀ a, a ∈ O → H a ≠ none) → View g H O d x → k d = some z → (∀ a o, H a = none → OwnAt g (upd H a o) (a :: O) z a → Q (.ref a) (upd H a o)) → r x H Q) : Op1 g r (n1 k) := fun W b H O σ e p x Q R rp q => by
  unfold n1 at q
  cases hx : p.vw e with
  | none => rw [hx] at q; exact q.elim
  | some d =>
    rw [hx] at q
    cases hz : k d with
    | none => simp only [ofO_some, Res.bind_ok, hz, ofO_none, Res.bind_stuck] at q; exact q.elim
    | some z =>
      simp only [ofO_some, Res.bind_ok, hz] at q
      exact h H O d z x Q R.occ (vw_ok R rp hx) hz (endN R q)
theorem n2_op {r : R2} {k : D → D → Option D}
    (h : ∀ H O d f z x y Q, (∀ a, a ∈ O → H a ≠ none) → View g H O d x → View g H O f y → k d f = some z → (∀ a o, H a = none → OwnAt g (upd H a o) (a :: O) z a → Q (.ref a) (upd H a o)) → r x y H Q) : Op2 g r (n2 k) := fun W b H O σ e p p' x y Q R rp rp' q => by
  unfold n2 at q
  cases hx : p.vw e with
  | none => rw [hx] at q; exact q.elim
  | some d =>
    rw [hx] at q
    cases hy : p'.vw e with
    | none => simp only [ofO_some, Res.bind_ok, hy, ofO_none, Res.bind_stuck] at q; exact q.elim
    | some f =>
      simp only [ofO_some, Res.bind_ok, hy] at q
      cases hz : k d f with
      | none => simp only [hz, ofO_none, Res.bind_stuck] at q; exact q.elim
      | some z =>
        simp only [ofO_some, Res.bind_ok, hz] at q
        exact h H O d f z x y Q R.occ (vw_ok R rp hx) (vw_ok R rp' hy) hz (endN R q)
end

/-! ### whole numbers -/
def kI (f : Int → Int → Int) : D → D → Option D
  | .int i, .int j => some (.int (f i j))
  | _, _ => none
/-- room for a product -/
def mulOk (i j : Int) : Bool := decide (Builtin.Int.intBits i + Builtin.Int.intBits j ≤ 134217728)
def kMul : D → D → Option D
  | .int i, .int j => if mulOk i j then some (.int (i * j)) else none
  | _, _ => none
def divOk (j : Int) : Bool := decide (0 < j) && decide (j.natAbs.log2 < 9000)
def kDiv : D → D → Option D
  | .int i, .int j => if divOk j then some (.int (i / j)) else none
  | _, _ => none
def kMod : D → D → Option D
  | .int i, .int j => if 0 < j then some (.int (i % j)) else none
  | _, _ => none
/-- .. by a divisor of any sign -/
def kModN : D → D → Option D
  | .int i, .int j => if j = 0 then none else some (.int (i.fmod j))
  | _, _ => none
def kPow : D → D → Option D
  | .int i, .int j => if 0 ≤ j ∧ j ≤ 1000 ∧ i.natAbs < 1000 then some (.int (i ^ j.toNat)) else none
  | _, _ => none
def kNeg : D → Option D
  | .int i => some (.int (-i))
  | _ => none
def kB (f : Int → Int → Bool) : D → D → Option D
  | .int i, .int j => some (.bl (f i j))
  | _, _ => none
section
variable {g : G} {W : WX} {X : Cx} {pos : Pos} {a c : Expr} {ma mc : EDen}
theorem kI_op {f : Int → Int → Int} : Op2 g (rI0 fun i j => .int (f i j)) (f2 (kI f)) := f2_op fun H O d e z x y Q _ hx hy hz q => by
  cases d <;> cases e <;> first | (simp [kI] at hz; done) | skip
  rename_i i j
  cases hz
  exact ⟨i, j, hx.int, hy.int, q _ _ (Ext.refl _) .int⟩
theorem kB_op {f : Int → Int → Bool} : Op2 g (rI0 fun i j => .bl (f i j)) (f2 (kB f)) := f2_op fun H O d e z x y Q _ hx hy hz q => by
  cases d <;> cases e <;> first | (simp [kB] at hz; done) | skip
  rename_i i j
  cases hz
  exact ⟨i, j, hx.int, hy.int, q _ _ (Ext.refl _) .bl⟩
theorem kMul_op : Op2 g (rI CMulX fun i j => .int (i * j)) (f2 kMul) := f2_op fun H O d e z x y Q _ hx hy hz q => by
  cases d <;> cases e <;> first | (simp [kMul] at hz; done) | skip
  rename_i i j
  simp only [kMul] at hz
  split at hz
  · rename_i h
    cases hz
    exact ⟨i, j, hx.int, hy.int, (by have := of_decide_eq_true (p := Builtin.Int.intBits i + Builtin.Int.intBits j ≤ 134217728) h; unfold CMulX; omega), q _ _ (Ext.refl _) .int⟩
  · cases hz
theorem kDiv_op : Op2 g (rI CDivW fun i j => .int (i / j)) (f2 kDiv) := f2_op fun H O d e z x y Q _ hx hy hz q => by
  cases d <;> cases e <;> first | (simp [kDiv] at hz; done) | skip
  rename_i i j
  simp only [kDiv] at hz
  split at hz
  · rename_i h
    cases hz
    unfold divOk at h
    rw [Bool.and_eq_true] at h
    exact ⟨i, j, hx.int, hy.int, ⟨of_decide_eq_true h.1, of_decide_eq_true h.2⟩, q _ _ (Ext.refl _) .int⟩
  · cases hz
theorem kMod_op : Op2 g (rI (fun _ j => 0 < j) fun i j => .int (i % j)) (f2 kMod) := f2_op fun H O d e z x y Q _ hx hy hz q => by
  cases d <;> cases e <;> first | (simp [kMod] at hz; done) | skip
  rename_i i j
  simp only [kMod] at hz
  split at hz
  · rename_i h
    cases hz
    exact ⟨i, j, hx.int, hy.int, h, q _ _ (Ext.refl _) .int⟩
  · cases hz
theorem kModN_op : Op2 g (rI (fun _ j => j ≠ 0) fun i j => .int (i.fmod j)) (f2 kModN) := f2_op fun H O d e z x y Q _ hx hy hz q => by
  cases d <;> cases e <;> first | (simp [kModN] at hz; done) | skip
  rename_i i j
  simp only [kModN] at hz
  split at hz
  · cases hz
  · rename_i h
    cases hz
    exact ⟨i, j, hx.int, hy.int, h, q _ _ (Ext.refl _) .int⟩
theorem kPow_op : Op2 g (rI CPow fun i j => .int (i ^ j.toNat)) (f2 kPow) := f2_op fun H O d e z x y Q _ hx hy hz q => by
  cases d <;> cases e <;> first | (simp [kPow] at hz; done) | skip
  rename_i i j
  simp only [kPow] at hz
  split at hz
  · rename_i h
    cases hz
    exact ⟨i, j, hx.int, hy.int, ⟨h.1, by omega, Nat.lt_of_lt_of_le h.2.2 (by decide)⟩, q _ _ (Ext.refl _) .int⟩
  · cases hz
theorem kNeg_op : Op1 g (rU fun i => .int (-i)) (f1 kNeg) := f1_op fun H O d z x Q _ hx hz q => by
  cases d <;> first | (simp [kNeg] at hz; done) | skip
  rename_i i
  cases hz
  exact ⟨i, hx.int, q _ _ (Ext.refl _) .int⟩
def eAdd (ma mc : EDen) : EDen := bin2 ma mc (f2 (kI fun i j => i + j))
def eSub (ma mc : EDen) : EDen := bin2 ma mc (f2 (kI fun i j => i - j))
def eMul (ma mc : EDen) : EDen := bin2 ma mc (f2 kMul)
def eDiv (ma mc : EDen) : EDen := bin2 ma mc (f2 kDiv)
def eMod (ma mc : EDen) : EDen := bin2 ma mc (f2 kMod)
def eModN (ma mc : EDen) : EDen := bin2 ma mc (f2 kModN)
def ePow (ma mc : EDen) : EDen := bin2 ma mc (f2 kPow)
def eNeg (ma : EDen) : EDen := un1 ma (f1 kNeg)
theorem x_bin {op : Operator} {r : R2} {f : P → P → DEnv → Res (P × DEnv)} (ho : OpR X (binaryOp op) r) (hr : Op2 g r f) (ha : PE X a (rE g W ma)) (hc : PE X c (rE g W mc)) : PE X (.BinOp a op c pos) (rE g W (bin2 ma mc f)) :=
  pe_weak (pe_op ho ha hc) fun _ _ _ h => sim2 hr h
theorem x_add (ha : PE X a (rE g W ma)) (hc : PE X c (rE g W mc)) : PE X (.BinOp a .Add c pos) (rE g W (eAdd ma mc)) := x_bin op_add kI_op ha hc
theorem x_sub (ha : PE X a (rE g W ma)) (hc : PE X c (rE g W mc)) : PE X (.BinOp a .Sub c pos) (rE g W (eSub ma mc)) := x_bin op_sub kI_op ha hc
theorem x_mul (ha : PE X a (rE g W ma)) (hc : PE X c (rE g W mc)) : PE X (.BinOp a .Mult c pos) (rE g W (eMul ma mc)) := x_bin op_mulX kMul_op ha hc
theorem x_div (ha : PE X a (rE g W ma)) (hc : PE X c (rE g W mc)) : PE X (.BinOp a .FloorDiv c pos) (rE g W (eDiv ma mc)) := x_bin op_fdivW kDiv_op ha hc
theorem x_mod (ha : PE X a (rE g W ma)) (hc : PE X c (rE g W mc)) : PE X (.BinOp a .Mod c pos) (rE g W (eMod ma mc)) := x_bin op_mod kMod_op ha hc
theorem x_modN (ha : PE X a (rE g W ma)) (hc : PE X c (rE g W mc)) : PE X (.BinOp a .Mod c pos) (rE g W (eModN ma mc)) := x_bin op_modN kModN_op ha hc
theorem x_pow (ha : PE X a (rE g W ma)) (hc : PE X c (rE g W mc)) : PE X (.BinOp a .Pow c pos) (rE g W (ePow ma mc)) := x_bin op_pow kPow_op ha hc
theorem x_un {op : UnaryOp} {r : V → Hp → VK → Prop} {f : P → DEnv → Res (P × DEnv)} (ho : UnR X (unaryOp op) r) (hr : Op1 g r f) (ha : PE X a (rE g W ma)) : PE X (.UnaryOp op a pos) (rE g W (un1 ma f)) :=
  pe_weak (pe_un ho ha) fun _ _ _ h => sim1 hr h
theorem x_neg (ha : PE X a (rE g W ma)) : PE X (.UnaryOp .USub a pos) (rE g W (eNeg ma)) := x_un un_neg kNeg_op ha
end

/-! ### comparisons, as values and as tests -/
/-- a value that is a bool, as a test -/
def tst (m : EDen) : TDen := fun env => (m env).bind fun a => match a.1 with
  | .d (.bl k) => .ok (k, a.2)
  | _ => .stuck
theorem rT_tst {g : G} {W : WX} {m : EDen} {σ : L2.St} {H : Hp} {Q : Bool → Hp → Prop} (h : rT g W (tst m) σ H Q) : rE g W m σ H fun x H' => ∃ k, x = .bl k ∧ Q k H' := by
  obtain ⟨b, O, env, R, h⟩ := h
  obtain ⟨b', O', env', R', h'⟩ := rE.bindT (m := m) R h
  refine ⟨b', O', env', R', ?_⟩
  revert h'
  cases m env' with
  | err c f e => exact fun z => z
  | stuck => exact fun z => z
  | ok a =>
    intro h' v H1 O1 l1 R1 rp1
    obtain ⟨O2, p, e, M, h2⟩ := h' v H1 O1 l1 R1 rp1
    cases p with
    | d x =>
      cases x with
      | bl k =>
        have rp := M.rep
        cases (show Rep g (hide H1 O2) (.bl k) v from rp)
        exact ⟨k, rfl, h2 H1 O2 (Le.refl _) M.env⟩
      | _ => exact h2.elim
    | n x => exact h2.elim
    | s i => exact h2.elim
section
variable {g : G} {W : WX} {X : Cx} {pos : Pos} {a c : Expr} {ma mc : EDen}
theorem x_cmp {op : CmpOp} {r : R2} {f : P → P → DEnv → Res (P × DEnv)} (ho : OpR X (compareOp op) r) (hr : Op2 g r f) (ha : PE X a (rE g W ma)) (hc : PE X c (rE g W mc)) (hm : behindInMarks op c = false) : PE X (.Compare a [op] [c] pos) (rE g W (bin2 ma mc f)) :=
  pe_weak (pe_cmpR ho ha hc hm) fun _ _ _ h => sim2 hr h
theorem t_cmp {op : CmpOp} {r : R2} {f : P → P → DEnv → Res (P × DEnv)} (ho : OpR X (compareOp op) r) (hr : Op2 g r f) (ha : PE X a (rE g W ma)) (hc : PE X c (rE g W mc)) (hm : behindInMarks op c = false) : PT X (.Compare a [op] [c] pos) (rT g W (tst (bin2 ma mc f))) :=
  pt_weak (pt_cmpR ho ha hc hm) fun _ _ _ h => sim2 hr (rT_tst h)
def eLt (ma mc : EDen) : EDen := bin2 ma mc (f2 (kB fun i j => decide (i < j)))
def eLe (ma mc : EDen) : EDen := bin2 ma mc (f2 (kB fun i j => decide (i ≤ j)))
def eGt (ma mc : EDen) : EDen := bin2 ma mc (f2 (kB fun i j => decide (j < i)))
def eGe (ma mc : EDen) : EDen := bin2 ma mc (f2 (kB fun i j => decide (j ≤ i)))
theorem x_lt (ha : PE X a (rE g W ma)) (hc : PE X c (rE g W mc)) : PE X (.Compare a [.Lt] [c] pos) (rE g W (eLt ma mc)) := x_cmp op_lt kB_op ha hc (nomark _)
theorem x_le (ha : PE X a (rE g W ma)) (hc : PE X c (rE g W mc)) : PE X (.Compare a [.LtE] [c] pos) (rE g W (eLe ma mc)) := x_cmp op_le kB_op ha hc (nomark _)
theorem x_gt (ha : PE X a (rE g W ma)) (hc : PE X c (rE g W mc)) : PE X (.Compare a [.Gt] [c] pos) (rE g W (eGt ma mc)) := x_cmp op_gt kB_op ha hc (nomark _)
theorem x_ge (ha : PE X a (rE g W ma)) (hc : PE X c (rE g W mc)) : PE X (.Compare a [.GtE] [c] pos) (rE g W (eGe ma mc)) := x_cmp op_ge kB_op ha hc (nomark _)
theorem t_lt (ha : PE X a (rE g W ma)) (hc : PE X c (rE g W mc)) : PT X (.Compare a [.Lt] [c] pos) (rT g W (tst (eLt ma mc))) := t_cmp op_lt kB_op ha hc (nomark _)
theorem t_le (ha : PE X a (rE g W ma)) (hc : PE X c (rE g W mc)) : PT X (.Compare a [.LtE] [c] pos) (rT g W (tst (eLe ma mc))) := t_cmp op_le kB_op ha hc (nomark _)
theorem t_gt (ha : PE X a (rE g W ma)) (hc : PE X c (rE g W mc)) : PT X (.Compare a [.Gt] [c] pos) (rT g W (tst (eGt ma mc))) := t_cmp op_gt kB_op ha hc (nomark _)
theorem t_ge (ha : PE X a (rE g W ma)) (hc : PE X c (rE g W mc)) : PT X (.Compare a [.GtE] [c] pos) (rT g W (tst (eGe ma mc))) := t_cmp op_ge kB_op ha hc (nomark _)
/-! == of scalars -/
def scV : D → Option V
  | .non => some .non
  | .bl b => some (.bl b)
  | .int i => some (.int i)
  | .str s => some (.str s)
  | _ => none
theorem View.sc {H : Hp} {O : List Addr} {d : D} {v w : V} (h : View g H O d v) (e : scV d = some w) : v = w := by
  cases d <;> simp only [scV] at e <;> cases e
  · exact h.non
  · exact h.bl
  · exact h.int
  · exact h.str
def kEq (d e : D) : Option D := match scV d, scV e with
  | some v, some w => if scal v w then some (.bl (decide (v = w))) else none
  | _, _ => none
def kNe (d e : D) : Option D := match scV d, scV e with
  | some v, some w => if scal v w then some (.bl (!decide (v = w))) else none
  | _, _ => none
theorem kEq_op : Op2 g rEq (f2 kEq) := f2_op fun H O d e z x y Q _ hx hy hz q => by
  unfold kEq at hz
  split at hz
  · rename_i v w h1 h2
    split at hz
    · rename_i hs
      cases hz
      rw [hx.sc h1, hy.sc h2]
      exact ⟨hs, q _ _ (Ext.refl _) .bl⟩
    · cases hz
  · cases hz
theorem kNe_op : Op2 g rNe (f2 kNe) := f2_op fun H O d e z x y Q _ hx hy hz q => by
  unfold kNe at hz
  split at hz
  · rename_i v w h1 h2
    split at hz
    · rename_i hs
      cases hz
      rw [hx.sc h1, hy.sc h2]
      exact ⟨hs, q _ _ (Ext.refl _) .bl⟩
    · cases hz
  · cases hz
def eEq (ma mc : EDen) : EDen := bin2 ma mc (f2 kEq)
def eNe (ma mc : EDen) : EDen := bin2 ma mc (f2 kNe)
theorem x_eq (ha : PE X a (rE g W ma)) (hc : PE X c (rE g W mc)) : PE X (.Compare a [.Eq] [c] pos) (rE g W (eEq ma mc)) := x_cmp op_eq kEq_op ha hc (nomark _)
theorem x_ne (ha : PE X a (rE g W ma)) (hc : PE X c (rE g W mc)) : PE X (.Compare a [.NotEq] [c] pos) (rE g W (eNe ma mc)) := x_cmp op_ne kNe_op ha hc (nomark _)
theorem t_eq (ha : PE X a (rE g W ma)) (hc : PE X c (rE g W mc)) : PT X (.Compare a [.Eq] [c] pos) (rT g W (tst (eEq ma mc))) := t_cmp op_eq kEq_op ha hc (nomark _)
theorem t_ne (ha : PE X a (rE g W ma)) (hc : PE X c (rE g W mc)) : PT X (.Compare a [.NotEq] [c] pos) (rT g W (tst (eNe ma mc))) := t_cmp op_ne kNe_op ha hc (nomark _)
/-! is None -/
def isNon : D → Bool
  | .non => true
  | _ => false
theorem View.isNon {H : Hp} {O : List Addr} {d : D} {v : V} (h : View g H O d v) : decide (v = .non) = isNon d := by
  rcases h with h | ⟨a, rfl, h⟩
  · cases h <;> rfl
  · cases d <;> first | rfl | exact h.elim
def kIs (d e : D) : Option D := match e with
  | .non => some (.bl (isNon d))
  | _ => none
def kIsNot (d e : D) : Option D := match e with
  | .non => some (.bl (!isNon d))
  | _ => none
theorem kIs_op : Op2 g (fun x y H Q => y = .non ∧ Q (.bl (decide (x = .non))) H) (f2 kIs) := f2_op fun H O d e z x y Q _ hx hy hz q => by
  cases e <;> first | (simp [kIs] at hz; done) | skip
  cases hz
  exact ⟨hy.non, by rw [hx.isNon]; exact q _ _ (Ext.refl _) .bl⟩
theorem kIsNot_op : Op2 g (fun x y H Q => y = .non ∧ Q (.bl (!decide (x = .non))) H) (f2 kIsNot) := f2_op fun H O d e z x y Q _ hx hy hz q => by
  cases e <;> first | (simp [kIsNot] at hz; done) | skip
  cases hz
  exact ⟨hy.non, by rw [hx.isNon]; exact q _ _ (Ext.refl _) .bl⟩
def eIs (ma mc : EDen) : EDen := bin2 ma mc (f2 kIs)
def eIsNot (ma mc : EDen) : EDen := bin2 ma mc (f2 kIsNot)
theorem x_is (ha : PE X a (rE g W ma)) (hc : PE X c (rE g W mc)) : PE X (.Compare a [.Is] [c] pos) (rE g W (eIs ma mc)) := x_cmp op_isN kIs_op ha hc (nomark _)
theorem x_isNot (ha : PE X a (rE g W ma)) (hc : PE X c (rE g W mc)) : PE X (.Compare a [.IsNot] [c] pos) (rE g W (eIsNot ma mc)) := x_cmp op_notN kIsNot_op ha hc (nomark _)
theorem t_is (ha : PE X a (rE g W ma)) (hc : PE X c (rE g W mc)) : PT X (.Compare a [.Is] [c] pos) (rT g W (tst (eIs ma mc))) := t_cmp op_isN kIs_op ha hc (nomark _)
theorem t_isNot (ha : PE X a (rE g W ma)) (hc : PE X c (rE g W mc)) : PT X (.Compare a [.IsNot] [c] pos) (rT g W (tst (eIsNot ma mc))) := t_cmp op_notN kIsNot_op ha hc (nomark _)
end
end MM

set_option maxHeartbeats 2000000
namespace MM
open PySem PySem.Spec PyProof.Rows L2

section
variable {g : G} {W : WX} {b : Bas} {σ : L2.St} {H : Hp} {O : List Addr}
theorem PostE.mono {r : Res (P × DEnv)} {Q Q' : VK} (h : PostE g W b σ H O r Q) (k : ∀ v H', Q v H' → Q' v H') : PostE g W b σ H O r Q' := by
  cases r with
  | ok a => exact fun v H' O' l R rp => k v H' (h v H' O' l R rp)
  | err c f e => exact h
  | stuck => exact h
theorem PostT.mono {r : Res (Bool × DEnv)} {Q Q' : Bool → Hp → Prop} (h : PostT g W b σ H O r Q) (k : ∀ v H', Q v H' → Q' v H') : PostT g W b σ H O r Q' := by
  cases r with
  | ok a => exact fun H' O' l R => k _ H' (h H' O' l R)
  | err c f e => exact h
  | stuck => exact h
theorem PostA.mono {r : Res (List P × DEnv)} {Q Q' : List V → Hp → Prop} (h : PostA g W b σ H O r Q) (k : ∀ v H', Q v H' → Q' v H') : PostA g W b σ H O r Q' := by
  cases r with
  | ok a => exact fun v H' O' l R rp => k v H' (h v H' O' l R rp)
  | err c f e => exact h
  | stuck => exact h
theorem rE.mono {m : EDen} {Q Q' : VK} (h : rE g W m σ H Q) (k : ∀ v H', Q v H' → Q' v H') : rE g W m σ H Q' :=
  let ⟨b, O, env, R, h⟩ := h
  ⟨b, O, env, R, h.mono k⟩
theorem rT.mono {m : TDen} {Q Q' : Bool → Hp → Prop} (h : rT g W m σ H Q) (k : ∀ v H', Q v H' → Q' v H') : rT g W m σ H Q' :=
  let ⟨b, O, env, R, h⟩ := h
  ⟨b, O, env, R, h.mono k⟩
theorem rA.mono {m : ADen} {Q Q' : List V → Hp → Prop} (h : rA g W m σ H Q) (k : ∀ v H', Q v H' → Q' v H') : rA g W m σ H Q' :=
  let ⟨b, O, env, R, h⟩ := h
  ⟨b, O, env, R, h.mono k⟩
theorem rT.bindT {m : TDen} {k : Bool × DEnv → Res (Bool × DEnv)} {Q : Bool → Hp → Prop} {env : DEnv} (R : REnv g b H O σ env) (h : PostT g W b σ H O ((m env).bind k) Q) :
    rT g W m σ H fun c H1 => ∃ O1 e, Le (hide H O) (hide H1 O1) ∧ REnv g b H1 O1 σ e ∧ PostT g W b σ H1 O1 (k (c, e)) Q :=
  rT.bind (F := fun H O r => PostT g W b σ H O r Q) (fun _ _ _ z => z) (fun z => z) (fun _ _ _ l z => z.le l) R h
theorem rT.bindE {m : TDen} {k : Bool × DEnv → Res (P × DEnv)} {Q : VK} {env : DEnv} (R : REnv g b H O σ env) (h : PostE g W b σ H O ((m env).bind k) Q) :
    rT g W m σ H fun c H1 => ∃ O1 e, Le (hide H O) (hide H1 O1) ∧ REnv g b H1 O1 σ e ∧ PostE g W b σ H1 O1 (k (c, e)) Q :=
  rT.bind (F := fun H O r => PostE g W b σ H O r Q) (fun _ _ _ z => z) (fun z => z) (fun _ _ _ l z => z.le l) R h
theorem rT.bindS {m : TDen} {k : Bool × DEnv → Res (Fl × DEnv)} {D : Ends} {env : DEnv} (R : REnv g b H O σ env) (h : PostS g W b H O ((m env).bind k) D) :
    rT g W m σ H fun c H1 => ∃ O1 e, Le (hide H O) (hide H1 O1) ∧ REnv g b H1 O1 σ e ∧ PostS g W b H1 O1 (k (c, e)) D :=
  rT.bind (F := fun H O r => PostS g W b H O r D) (fun _ _ _ z => z σ) (fun z => z) (fun _ _ _ l z => z.le l) R h
theorem rA.bindE {m : ADen} {k : List P × DEnv → Res (P × DEnv)} {Q : VK} {env : DEnv} (R : REnv g b H O σ env) (h : PostE g W b σ H O ((m env).bind k) Q) :
    rA g W m σ H fun vs H1 => ∃ O1 ps e, Le (hide H O) (hide H1 O1) ∧ REnv g b H1 O1 σ e ∧ RPs g b H1 O1 σ e ps vs ∧ PostE g W b σ H1 O1 (k (ps, e)) Q :=
  rA.bind (F := fun H O r => PostE g W b σ H O r Q) (fun _ _ _ z => z) (fun z => z) (fun _ _ _ l z => z.le l) R h
end

/-! ### and, or, not; one of two -/
def tAn (t u : TDen) : TDen := fun e => (t e).bind fun a => if a.1 then u a.2 else .ok (false, a.2)
def tO (t u : TDen) : TDen := fun e => (t e).bind fun a => if a.1 then .ok (true, a.2) else u a.2
def tNo (t : TDen) : TDen := fun e => (t e).bind fun a => .ok (!a.1, a.2)
def eAn (m n : EDen) : EDen := fun e => (m e).bind fun a => match a.1 with
  | .d (.bl true) => n a.2
  | .d (.bl false) => .ok (.d (.bl false), a.2)
  | _ => .stuck
def eO (m n : EDen) : EDen := fun e => (m e).bind fun a => match a.1 with
  | .d (.bl false) => n a.2
  | .d (.bl true) => .ok (.d (.bl true), a.2)
  | _ => .stuck
def eNo (m : EDen) : EDen := fun e => (m e).bind fun a => match a.1 with
  | .d (.bl k) => .ok (.d (.bl (!k)), a.2)
  | _ => .stuck
def eIf (t : TDen) (m n : EDen) : EDen := fun e => (t e).bind fun a => if a.1 then m a.2 else n a.2
section
variable {g : G} {W : WX} {X : Cx} {pos : Pos} {a c : Expr} {r : List Expr} {t u : TDen} {m n : EDen}
theorem t_and1 (ha : PT X a (rT g W t)) : PW X (.BoolOp .And [a] pos) (rT g W t) := pw_and1 ha
theorem t_or1 (ha : PT X a (rT g W t)) : PW X (.BoolOp .Or [a] pos) (rT g W t) := pw_or1 ha
theorem t_and (ha : PT X a (rT g W t)) (hb : PW X (.BoolOp .And (c :: r) pos) (rT g W u)) : PW X (.BoolOp .And (a :: c :: r) pos) (rT g W (tAn t u)) :=
  pw_weak (pw_and ha hb) fun σ H Q ⟨b, O, env, R, h⟩ => (rT.bindT (m := t) R h).mono fun k H1 ⟨O1, e, l, R1, h1⟩ => by
    cases k with
    | true => exact iteT ⟨b, O1, e, R1, h1⟩
    | false => exact iteF (h1 H1 O1 (Le.refl _) R1)
theorem t_or (ha : PT X a (rT g W t)) (hb : PW X (.BoolOp .Or (c :: r) pos) (rT g W u)) : PW X (.BoolOp .Or (a :: c :: r) pos) (rT g W (tO t u)) :=
  pw_weak (pw_or ha hb) fun σ H Q ⟨b, O, env, R, h⟩ => (rT.bindT (m := t) R h).mono fun k H1 ⟨O1, e, l, R1, h1⟩ => by
    cases k with
    | true => exact iteT (h1 H1 O1 (Le.refl _) R1)
    | false => exact iteF ⟨b, O1, e, R1, h1⟩
theorem t_not (ha : PT X a (rT g W t)) : PT X (.UnaryOp .Not a pos) (rT g W (tNo t)) :=
  pt_weak (pt_not ha) fun σ H Q ⟨b, O, env, R, h⟩ => (rT.bindT (m := t) R h).mono fun k H1 ⟨O1, e, l, R1, h1⟩ => h1 H1 O1 (Le.refl _) R1
/-- an expression that gives a bool -/
theorem t_val (ha : PE X a (rE g W m)) (he : ∀ whole, isTrue a X.env whole = (do let v ← whole; standAt a.pos; holding [v] (truthy v)) := by intro _; rfl) : PT X a (rT g W (tst m)) :=
  pt_weak (pt_val ha he) fun σ H Q h => rT_tst h
theorem bl_of {H : Hp} {O : List Addr} {b : Bas} {σ : L2.St} {e : DEnv} {k : Bool} {v : V} (r : RP g b H O σ e (.d (.bl k)) v) : v = .bl k := by
  cases (show Rep g (hide H O) (.bl k) v from r)
  rfl
theorem x_one {op} (h : PE X a (rE g W m)) : PE X (.BoolOp op [a] pos) (rE g W m) := pe_one h
theorem x_and (ha : PE X a (rE g W m)) (hb : PE X (.BoolOp .And (c :: r) pos) (rE g W n)) : PE X (.BoolOp .And (a :: c :: r) pos) (rE g W (eAn m n)) :=
  pe_weak (pe_and ha hb) fun σ H Q ⟨b, O, env, R, h⟩ => (rE.bindE (m := m) R h).mono fun v H1 ⟨O1, p, e, M, h1⟩ => by
    match p, h1, M.rep with
    | .d (.bl true), h1, rp => exact ⟨true, bl_of rp, iteT ⟨b, O1, e, M.env, h1⟩⟩
    | .d (.bl false), h1, rp => exact ⟨false, bl_of rp, iteF (h1 _ H1 O1 (Le.refl _) M.env .bl)⟩
    | .d .non, h1, _ | .d (.int _), h1, _ | .d (.str _), h1, _ | .d (.tup _), h1, _ | .d (.lst _), h1, _ | .d (.dK _), h1, _ | .d (.dT _), h1, _ | .d (.obj _ _), h1, _ | .d (.fn _), h1, _ | .d (.scr _), h1, _ | .n _, h1, _ | .s _, h1, _ => exact h1.elim
theorem x_or (ha : PE X a (rE g W m)) (hb : PE X (.BoolOp .Or (c :: r) pos) (rE g W n)) : PE X (.BoolOp .Or (a :: c :: r) pos) (rE g W (eO m n)) :=
  pe_weak (pe_or ha hb) fun σ H Q ⟨b, O, env, R, h⟩ => (rE.bindE (m := m) R h).mono fun v H1 ⟨O1, p, e, M, h1⟩ => by
    match p, h1, M.rep with
    | .d (.bl false), h1, rp => exact ⟨false, bl_of rp, iteF ⟨b, O1, e, M.env, h1⟩⟩
    | .d (.bl true), h1, rp => exact ⟨true, bl_of rp, iteT (h1 _ H1 O1 (Le.refl _) M.env .bl)⟩
    | .d .non, h1, _ | .d (.int _), h1, _ | .d (.str _), h1, _ | .d (.tup _), h1, _ | .d (.lst _), h1, _ | .d (.dK _), h1, _ | .d (.dT _), h1, _ | .d (.obj _ _), h1, _ | .d (.fn _), h1, _ | .d (.scr _), h1, _ | .n _, h1, _ | .s _, h1, _ => exact h1.elim
theorem x_not (ha : PE X a (rE g W m)) : PE X (.UnaryOp .Not a pos) (rE g W (eNo m)) :=
  pe_weak (pe_not ha) fun σ H Q ⟨b, O, env, R, h⟩ => (rE.bindE (m := m) R h).mono fun v H1 ⟨O1, p, e, M, h1⟩ => by
    match p, h1, M.rep with
    | .d (.bl k), h1, rp => exact ⟨k, bl_of rp, h1 _ H1 O1 (Le.refl _) M.env .bl⟩
    | .d .non, h1, _ | .d (.int _), h1, _ | .d (.str _), h1, _ | .d (.tup _), h1, _ | .d (.lst _), h1, _ | .d (.dK _), h1, _ | .d (.dT _), h1, _ | .d (.obj _ _), h1, _ | .d (.fn _), h1, _ | .d (.scr _), h1, _ | .n _, h1, _ | .s _, h1, _ => exact h1.elim
theorem x_if {q : Expr} (hc : PT X q (rT g W t)) (ha : PE X a (rE g W m)) (hb : PE X c (rE g W n)) : PE X (.IfExp q a c pos) (rE g W (eIf t m n)) :=
  pe_weak (pe_ifExp hc ha hb) fun σ H Q ⟨b, O, env, R, h⟩ => (rT.bindE (m := t) R h).mono fun k H1 ⟨O1, e, l, R1, h1⟩ => by
    cases k with
    | true => exact iteT ⟨b, O1, e, R1, h1⟩
    | false => exact iteF ⟨b, O1, e, R1, h1⟩
end
/-! ### truth -/
def kTru : D → Option Bool
  | .non => some false
  | .bl b => some b
  | .int i => some (i != 0)
  | .str s => if s.length ≤ 16777216 then some ((s.length : Int) != 0) else none
  | .tup l => some (!l.isEmpty)
  | .lst l => some (!l.isEmpty)
  | _ => none
def tTr (m : EDen) : TDen := fun e => (m e).bind fun a => (ofO (a.1.vw a.2)).bind fun d => (ofO (kTru d)).bind fun k => .ok (k, a.2)
theorem isEmpty_reps {g : G} {H : Hp} : ∀ {l : List D} {xs : List V}, Reps g H l xs → (!xs.isEmpty) = !l.isEmpty
  | _, _, .nil => rfl
  | _, _, .cons _ _ => rfl
theorem View.tru {g : G} {H : Hp} {O : List Addr} {d : D} {v : V} {k : Bool} (h : View g H O d v) (e : kTru d = some k) : TruV g.K v H k := by
  cases d <;> simp only [kTru] at e <;> try cases e
  · rw [h.non]; rfl
  · rw [h.bl]; rfl
  · rw [h.int]; rfl
  · rw [h.str]
    split at e
    · rename_i z; cases e
      exact ⟨by rw [sizeLine_eq]; exact z, rfl⟩
    · cases e
  · obtain ⟨a, xs, rfl, h1, r⟩ := h.tup
    exact .inr (.inl ⟨xs, h1, (isEmpty_reps r).symm⟩)
  · obtain ⟨a, xs, rfl, h1, r⟩ := h.lst
    exact .inl ⟨xs, SqL.of h1, (isEmpty_reps r).symm⟩
theorem rT_tr {g : G} {W : WX} {m : EDen} {σ : L2.St} {H : Hp} {Q : Bool → Hp → Prop} (h : rT g W (tTr m) σ H Q) : rE g W m σ H fun x H' => ∃ k, TruV g.K x H' k ∧ Q k H' := by
  obtain ⟨b, O, env, R, h⟩ := h
  refine (rE.bindT (m := m) R h).mono fun v H1 ⟨O1, p, e, M, h1⟩ => ?_
  revert h1
  cases hx : p.vw e with
  | none => exact fun h1 => h1.elim
  | some d =>
    cases hk : kTru d with
    | none => simp only [ofO_some, Res.bind_ok, hk, ofO_none, Res.bind_stuck]; exact fun h1 => h1.elim
    | some k =>
      simp only [ofO_some, Res.bind_ok, hk]
      exact fun h1 => ⟨k, (vw_ok M.env M.rep hx).tru hk, h1 H1 O1 (Le.refl _) M.env⟩
section
variable {g : G} {W : WX} {X : Cx} {pos : Pos} {a c : Expr} {r : List Expr} {m n : EDen}
theorem t_tru (hK : X.K = g.K) (ha : PE X a (rE g W m)) (he : ∀ whole, isTrue a X.env whole = (do let v ← whole; standAt a.pos; holding [v] (truthy v)) := by intro _; rfl) : PT X a (rT g W (tTr m)) :=
  pt_weak (pt_truth ha he) fun σ H Q h => (rT_tr h).mono fun v H1 ⟨k, z, q⟩ => ⟨k, by rw [hK]; exact z, q⟩
/-- x or y, by truth -/
def eOT (m n : EDen) : EDen := fun e => (m e).bind fun a => (ofO (a.1.vw a.2)).bind fun d => (ofO (kTru d)).bind fun k => if k then .ok (a.1, a.2) else n a.2
theorem x_orT (hK : X.K = g.K) (ha : PE X a (rE g W m)) (hb : PE X (.BoolOp .Or (c :: r) pos) (rE g W n)) : PE X (.BoolOp .Or (a :: c :: r) pos) (rE g W (eOT m n)) :=
  pe_weak (pe_orT ha hb) fun σ H Q ⟨b, O, env, R, h⟩ => (rE.bindE (m := m) R h).mono fun v H1 ⟨O1, p, e, M, h1⟩ => by
    revert h1
    cases hx : p.vw e with
    | none => simp only [hx]; exact fun h1 => h1.elim
    | some d =>
      cases hk : kTru d with
      | none => simp only [hx, ofO_some, Res.bind_ok, hk, ofO_none, Res.bind_stuck]; exact fun h1 => h1.elim
      | some k =>
        simp only [hx, ofO_some, Res.bind_ok, hk]
        intro h1
        refine ⟨k, by rw [hK]; exact (vw_ok M.env M.rep hx).tru hk, ?_⟩
        cases k with
        | true => exact iteT (h1 v H1 O1 (Le.refl _) M.env M.rep)
        | false => exact iteF ⟨b, O1, e, M.env, h1⟩
end

/-! ### statements -/
abbrev BDn := P → DEnv → Option DEnv
def asg (i : Nat) : BDn := fun p e => match p with
  | .d x => some (e.set i (.fr x))
  | .n x => some (e.set i (if i = 0 then .fr x else .ow x))
  | .s k => (P.frz (.s k) e).bind fun z => some (z.2.set i (.fr z.1))
def sNx : SDen := fun e => .ok (.nx, e)
def sSeq (m n : SDen) : SDen := fun e => (m e).bind fun a => match a.1 with
  | .nx => n a.2
  | f => .ok (f, a.2)
def sAsg (m : EDen) (bd : BDn) : SDen := fun e => (m e).bind fun a => (ofO (bd a.1 a.2)).bind fun e' => .ok (.nx, e')
def sDrop (m : EDen) : SDen := fun e => (m e).bind fun a => .ok (.nx, a.2)
def sRet (m : EDen) : SDen := fun e => (m e).bind fun a => .ok (.rt a.1, a.2)
def sRetN : SDen := fun e => .ok (.rt (.d .non), e)
def sIf (t : TDen) (m n : SDen) : SDen := fun e => (t e).bind fun a => if a.1 then m a.2 else n a.2
def Bd (g : G) (t : TG) (bd : BDn) : Prop := ∀ b H O σ e p v Q, REnv g b H O σ e → RP g b H O σ e p v → (∃ e', bd p e = some e' ∧ ∀ σ' H' O', Le (hide H O) (hide H' O') → REnv g b H' O' σ' e' → Q σ' H') → t v σ H Q
theorem asg_ok {g : G} {i : Nat} : Bd g (gName i) (asg i) := fun b H O σ e p v Q R rp ⟨e', h, q⟩ => by
  cases p with
  | d x => cases h; exact q _ H O (Le.refl _) (R.setFr rp)
  | n x =>
    cases h
    obtain ⟨a, rfl, n⟩ := rp
    by_cases i0 : i = 0
    · rw [if_pos i0] at q
      obtain ⟨O', x1, _, R1, r1⟩ := R.keep n
      exact q _ H O' x1.le (R1.setFr r1)
    · rw [if_neg i0] at q
      exact q _ H O (Le.refl _) (R.setOw n i0)
  | s k =>
    simp only [asg] at h
    cases hz : P.frz (.s k) e with
    | none => rw [hz] at h; cases h
    | some z =>
      rw [hz] at h
      obtain ⟨d, e1⟩ := z
      cases h
      obtain ⟨O', x, R', r⟩ := frz_ok R rp hz
      exact q _ H O' x.le (R'.setFr r)
section
variable {g : G} {W : WX} {X : Cx} {pos : Pos} {st : Stmt} {rest : List Stmt} {e : Expr} {m n : SDen} {me : EDen} {t : TDen}
theorem ss_nil : PSs X [] (rS g W sNx) := pss_weak pss_nil fun D σ H ⟨b, O, env, R, h⟩ => h σ H O (Le.refl _) R
theorem rS_seq {D : Ends} {σ : L2.St} {H : Hp} (h : rS g W (sSeq m n) D σ H) : tSeq (rS g W m) (rS g W n) D σ H := by
  obtain ⟨b, O, env, R, h⟩ := h
  refine ⟨b, O, env, R, ?_⟩
  unfold sSeq at h
  revert h
  cases m env with
  | err c f e => exact fun z => z
  | stuck => exact fun z => z
  | ok a =>
    obtain ⟨f, e⟩ := a
    cases f with
    | nx => exact fun h σ' H' O' l R' => ⟨b, O', e, R', h.le l⟩
    | rt p => exact fun h => h
    | bk => exact fun h => h
    | ct => exact fun h => h
theorem ss_cons (h1 : PS X st (rS g W m)) (h2 : PSs X rest (rS g W n)) : PSs X (st :: rest) (rS g W (sSeq m n)) := pss_weak (pss_cons h1 h2) fun _ _ _ h => rS_seq h
theorem ss_one (h1 : PS X st (rS g W m)) : PSs X [st] (rS g W m) := pss_one h1
theorem s_pass : PS X (.Pass pos) (rS g W sNx) := ps_weak ps_pass fun D σ H ⟨b, O, env, R, h⟩ => h σ H O (Le.refl _) R
theorem rS_asg {tg : TG} {bd : BDn} (hb : Bd g tg bd) {D : Ends} {σ : L2.St} {H : Hp} (h : rS g W (sAsg me bd) D σ H) : tAsg (rE g W me) tg D σ H := by
  obtain ⟨b, O, env, R, h⟩ := h
  refine (rE.bindS (m := me) R h).mono fun v H1 ⟨O1, p, e, M, h1⟩ => ?_
  revert h1
  cases hz : bd p e with
  | none => exact fun h1 => h1.elim
  | some e' => exact fun h1 => hb b H1 O1 σ e p v D.nx M.env M.rep ⟨e', hz, h1⟩
theorem s_set (i : Nat) {x : Str} {pos' : Pos} (hN : X.N.Nodup) (he : PE X e (rE g W me)) (hi : X.N[i]? = some x := by rfl) (hx : Loc X.env.scope x := by first | exact Or.inl rfl | exact Or.inr rfl) (hs : swapsWith e (some (.Name x pos')) pos.line X.env = pure false := by rfl) (hf : X.fn x = true ∨ X.env.scope.names.lookup x = some .local := by first | exact .inl rfl | exact .inr rfl | assumption) :
    PS X (.Assign [.Name x pos'] e pos) (rS g W (sAsg me (asg i))) := ps_weak (ps_set hN hi hx he hs hf) fun _ _ _ h => rS_asg asg_ok h
theorem s_asg {tg : Expr} {gt : TG} {bd : BDn} (hb : Bd g gt bd) (he : PE X e (rE g W me)) (hg : PG X tg gt) (hs : swapsWithSole [tg] e pos.line X.env = pure false := by rfl) (hw : swappedStores [tg] e X.env = pure none := by rfl)
    (h1 : (assignEach [tg] X.env).map (·.2) = [assign tg X.env] := by rfl) : PS X (.Assign [tg] e pos) (rS g W (sAsg me bd)) := ps_weak (ps_asg he hg hs hw h1) fun _ _ _ h => rS_asg hb h
theorem s_expr (he : PE X e (rE g W me)) (hs : swapsWith e none pos.line X.env = pure false := by rfl) : PS X (.Expr e pos) (rS g W (sDrop me)) :=
  ps_weak (ps_expr he hs) fun D σ H ⟨b, O, env, R, h⟩ => (rE.bindS (m := me) R h).mono fun v H1 ⟨O1, p, e, M, h1⟩ => h1 σ H1 O1 (Le.refl _) M.env
theorem s_ret (he : PE X e (rE g W me)) : PS X (.Return (some e) pos) (rS g W (sRet me)) :=
  ps_weak (ps_ret he) fun D σ H ⟨b, O, env, R, h⟩ => (rE.bindS (m := me) R h).mono fun v H1 ⟨O1, p, e, M, h1⟩ => h1 v σ H1 O1 (Le.refl _) M.env M.rep
theorem s_retN : PS X (.Return none pos) (rS g W sRetN) := ps_weak ps_retN fun D σ H ⟨b, O, env, R, h⟩ => h .non σ H O (Le.refl _) R .non
theorem s_if {c : Expr} {p q : List Stmt} (hc : PT X c (rT g W t)) (ha : PSs X p (rS g W m)) (hb : PSs X q (rS g W n)) : PS X (.If c p q pos) (rS g W (sIf t m n)) :=
  ps_weak (ps_if hc ha hb) fun D σ H ⟨b, O, env, R, h⟩ => (rT.bindS (m := t) R h).mono fun k H1 ⟨O1, e, l, R1, h1⟩ => by
    cases k with
    | true => exact iteT ⟨b, O1, e, R1, h1⟩
    | false => exact iteF ⟨b, O1, e, R1, h1⟩
end

/-! ### a tuple, a list taken apart -/
def bEach : List BDn → List D → DEnv → Option DEnv
  | [], [], e => some e
  | bd :: bs, d :: ds, e => (bd (.d d) e).bind fun e' => bEach bs ds e'
  | _, _, _ => none
def bTup (bs : List BDn) : BDn := fun p e => match p.vw e with
  | some (.tup ds) => bEach bs ds e
  | _ => none
def bLst (bs : List BDn) : BDn := fun p e => match p.vw e with
  | some (.lst ds) => bEach bs ds e
  | _ => none
inductive Bds (g : G) : TGs → List BDn → Prop
  | nil : Bds g gNil []
  | cons {t u bd bs} : Bd g t bd → Bds g u bs → Bds g (gCons t u) (bd :: bs)
theorem bEach_ok {g : G} {b : Bas} : ∀ {bs : List BDn} {u : TGs} {ds : List D} {xs : List V} {H : Hp} {O : List Addr} {σ : L2.St} {e e' : DEnv} {Q : L2.St → Hp → Prop}, Bds g u bs → REnv g b H O σ e → Reps g (hide H O) ds xs → bEach bs ds e = some e' →
    (∀ σ' H' O', Le (hide H O) (hide H' O') → REnv g b H' O' σ' e' → Q σ' H') → u xs σ H Q
  | [], _, [], _, H, O, σ, e, _, Q, .nil, R, .nil, h, q => by cases h; exact ⟨rfl, q σ H O (Le.refl _) R⟩
  | [], _, _ :: _, _, _, _, _, _, _, _, .nil, _, _, h, _ => by cases h
  | _ :: _, _, [], _, _, _, _, _, _, _, .cons _ _, _, _, h, _ => by cases h
  | bd :: bs, _, d :: ds, _, H, O, σ, e, e', Q, .cons h1 h2, R, .cons r rs, h, q => by
    simp only [bEach] at h
    cases hz : bd (.d d) e with
    | none => rw [hz] at h; cases h
    | some e1 =>
      rw [hz] at h
      exact ⟨_, _, rfl, h1 b H O σ e (.d d) _ _ R r ⟨e1, hz, fun σ' H' O' l R' => bEach_ok h2 R' (rs.le l) h fun σ2 H2 O2 l2 R2 => q σ2 H2 O2 (l.trans l2) R2⟩⟩
theorem Bds.len {g : G} : ∀ {u : TGs} {bs : List BDn} {ds : List D} {e e' : DEnv}, Bds g u bs → bEach bs ds e = some e' → ds.length = bs.length
  | _, [], [], _, _, _, _ => rfl
  | _, [], _ :: _, _, _, _, h => by cases h
  | _, _ :: _, [], _, _, _, h => by cases h
  | _, bd :: bs, d :: ds, e, e', .cons _ h2, h => by
    simp only [bEach] at h
    cases hz : bd (.d d) e with
    | none => rw [hz] at h; cases h
    | some e1 => rw [hz] at h; simp [Bds.len h2 h]
theorem tup_bd {g : G} {u : TGs} {bs : List BDn} (h : Bds g u bs) : Bd g (gTup g.K bs.length u) (bTup bs) := fun b H O σ e p v Q R rp ⟨e', hz, q⟩ => by
  unfold bTup at hz
  split at hz
  · rename_i ds hv
    obtain ⟨a, xs, rfl, hs, r⟩ := (vw_ok R rp hv).tup
    exact ⟨a, xs, rfl, hs, r.len.symm.trans (h.len hz), bEach_ok h R r hz q⟩
  · cases hz
theorem lst_bd {g : G} {u : TGs} {bs : List BDn} (h : Bds g u bs) : Bd g (gLst g.K bs.length u) (bLst bs) := fun b H O σ e p v Q R rp ⟨e', hz, q⟩ => by
  unfold bLst at hz
  split at hz
  · rename_i ds hv
    obtain ⟨a, xs, rfl, hs, r⟩ := (vw_ok R rp hv).lst
    exact ⟨a, xs, rfl, SqL.of hs, r.len.symm.trans (h.len hz), bEach_ok h R r hz q⟩
  · cases hz

/-! ### loops -/
abbrev IDen := DEnv → Res (List D × DEnv)
/-- the iterator J yields the data ds -/
def Yld (g : G) (J : It) (ds : List D) (Hh : Hp) : Prop := ∀ H2 O2, Le Hh (hide H2 O2) → (∀ a, a ∈ O2 → Hid (H2 a)) → ∀ i : Nat,
  (∀ d, ds[i]? = some d → J.go i H2 ∧ ∀ x H3, J.yld i H2 x H3 → Ext H2 H3 ∧ Rep g (hide H3 O2) d x) ∧ (ds[i]? = none → J.stop i H2)
/-- .. in heaps over the ground B -/
def YldB (g : G) (B : Hp) (J : It) (ds : List D) (Hh : Hp) : Prop := ∀ H2 O2, Le Hh (hide H2 O2) → (∀ a, a ∈ O2 → Hid (H2 a)) → Ext B H2 → ∀ i : Nat,
  (∀ d, ds[i]? = some d → J.go i H2 ∧ ∀ x H3, J.yld i H2 x H3 → Ext H2 H3 ∧ Rep g (hide H3 O2) d x) ∧ (ds[i]? = none → J.stop i H2)
theorem Yld.b {g : G} {B : Hp} {J : It} {ds : List D} {Hh : Hp} (h : Yld g J ds Hh) : YldB g B J ds Hh := fun H2 O2 l hd _ i => h H2 O2 l hd i
def PostI (g : G) (W : WX) (b : Bas) (σ : L2.St) (H : Hp) (O : List Addr) (r : Res (List D × DEnv)) (R : It → Hp → Prop) : Prop := match r with
  | .ok (ds, e) => ∀ J H' O', Le (hide H O) (hide H' O') → REnv g b H' O' σ e → Yld g J ds (hide H' O') → R J H'
  | .err c f e => PostX g W b H O σ c f e
  | .stuck => False
def rI (g : G) (W : WX) (m : IDen) : TI := fun σ H R => ∃ b O env, REnv g b H O σ env ∧ PostI g W b σ H O (m env) R
def forD (bd : BDn) (body : SDen) : List D → DEnv → Res (Fl × DEnv)
  | [], e => .ok (.nx, e)
  | d :: ds, e => (ofO (bd (.d d) e)).bind fun e1 => (body e1).bind fun a => match a.1 with
    | .nx => forD bd body ds a.2
    | .ct => forD bd body ds a.2
    | .bk => .ok (.nx, a.2)
    | .rt p => .ok (.rt p, a.2)
def sFor (m : IDen) (bd : BDn) (body : SDen) : SDen := fun e => (m e).bind fun a => forD bd body a.1 a.2
def whileD (t : TDen) (body : SDen) : Nat → DEnv → Res (Fl × DEnv)
  | 0, _ => .stuck
  | n + 1, e => (t e).bind fun a => if a.1 then (body a.2).bind fun c => match c.1 with
      | .nx => whileD t body n c.2
      | .ct => whileD t body n c.2
      | .bk => .ok (.nx, c.2)
      | .rt p => .ok (.rt p, c.2)
    else .ok (.nx, a.2)
def sWhile (n : Nat) (t : TDen) (body : SDen) : SDen := fun e => whileD t body n e
section
variable {g : G} {W : WX} {X : Cx} {pos : Pos}
theorem for_core {bd : BDn} {gt : TG} {body : SDen} {b : Bas} {D : Ends} {J : It} {ds : List MM.D} {H1 : Hp} {O1 : List Addr} {σ : L2.St} {e : DEnv} (hb : Bd g gt bd) (R1 : REnv g b H1 O1 σ e) (Y : YldB g b.B J ds (hide H1 O1)) (h : PostS g W b H1 O1 (forD bd body ds e) D) :
    tFor (fun _ H R => R J H) gt (rS g W body) D σ H1 := by
  refine ⟨fun i k σ' H' => k = ds.length - i ∧ i ≤ ds.length ∧ ∃ O' e', Le (hide H1 O1) (hide H' O') ∧ REnv g b H' O' σ' e' ∧ PostS g W b H' O' (forD bd body (ds.drop i) e') D,
    ⟨ds.length, rfl, Nat.zero_le _, O1, e, Le.refl _, R1, h⟩, ?_⟩
  rintro i k σ2 H2 ⟨rfl, hi, O2, e2, l2, R2, h2⟩
  obtain ⟨y1, y2⟩ := Y H2 O2 l2 R2.hd R2.pro i
  cases hd : ds[i]? with
  | none =>
    have hge : ds.length ≤ i := List.getElem?_eq_none_iff.mp hd
    rw [List.drop_of_length_le hge] at h2
    exact .inl ⟨y2 hd, h2 σ2 H2 O2 (Le.refl _) R2⟩
  | some d =>
    obtain ⟨hlt, hget⟩ := List.getElem?_eq_some_iff.mp hd
    obtain ⟨go, yl⟩ := y1 d hd
    have hdr : ds.drop i = d :: ds.drop (i + 1) := by rw [List.drop_eq_getElem_cons hlt, hget]
    rw [hdr] at h2
    refine .inr ⟨go, fun σ' H' => ∃ O' e', Le (hide H1 O1) (hide H' O') ∧ REnv g b H' O' σ' e' ∧ PostS g W b H' O' (forD bd body (ds.drop (i + 1)) e') D,
      fun σ' H' ⟨O', e', z1, z2, z3⟩ => ⟨ds.length - (i + 1), by omega, rfl, hlt, O', e', z1, z2, z3⟩, fun x H3 hy => ?_⟩
    obtain ⟨ex, rp⟩ := yl x H3 hy
    have R3 := R2.ext ex
    simp only [forD] at h2
    cases hz : bd (.d d) e2 with
    | none => rw [hz] at h2; exact h2.elim
    | some e3 =>
      simp only [hz, ofO_some, Res.bind_ok] at h2
      refine hb b H3 O2 σ2 e2 (.d d) x _ R3 rp ⟨e3, hz, fun σ4 H4 O4 l4 R4 => ⟨b, O4, e3, R4, ?_⟩⟩
      have lt : Le (hide H2 O2) (hide H4 O4) := (hide_ext ex).le.trans l4
      have h5 := h2.le lt
      revert h5
      cases body e3 with
      | err c f e => exact fun z => z
      | stuck => exact fun z => z
      | ok a =>
        obtain ⟨f, e5⟩ := a
        cases f with
        | nx => exact fun h5 σ' H' O' l R' => ⟨O', e5, (l2.trans lt).trans l, R', h5.le l⟩
        | ct => exact fun h5 σ' H' O' l R' => ⟨O', e5, (l2.trans lt).trans l, R', h5.le l⟩
        | bk => exact fun h5 => h5
        | rt p => exact fun h5 => h5
theorem rS_for {m : IDen} {bd : BDn} {gt : TG} {body : SDen} (hb : Bd g gt bd) {D : Ends} {σ : L2.St} {H : Hp} (h : rS g W (sFor m bd body) D σ H) : tFor (rI g W m) gt (rS g W body) D σ H := by
  obtain ⟨b, O, env, R, h⟩ := h
  refine ⟨b, O, env, R, ?_⟩
  unfold sFor at h
  revert h
  cases m env with
  | err c f e => exact fun z => z σ
  | stuck => exact fun z => z
  | ok a =>
    obtain ⟨ds, e⟩ := a
    exact fun h J H1 O1 l1 R1 Y => for_core hb R1 Y.b (h.le l1)
theorem s_for {tg iter : Expr} {body : List Stmt} {m : IDen} {bd : BDn} {gt : TG} {mb : SDen} (hp : PassesOwn (model X.prog X.w) X.A X.env X.xe) (hc : X.calm = true) (hb : Bd g gt bd) (hi : PI X tg iter (rI g W m)) (hg : PG X tg gt) (hbo : PSs X body (rS g W mb))
    (hs : ∀ x, foldedSetIterable iter X.env x = pure x := by intro _; rfl) : PS X (.For tg iter body [] pos) (rS g W (sFor m bd mb)) := ps_weak (ps_for hp hc hi hg hbo hs) fun _ _ _ h => rS_for hb h
theorem rS_while {n : Nat} {t : TDen} {body : SDen} {D : Ends} {σ : L2.St} {H : Hp} (h : rS g W (sWhile n t body) D σ H) : tWhile (rT g W t) (rS g W body) D σ H := by
  obtain ⟨b, O, env, R, h⟩ := h
  refine ⟨fun k σ' H' => ∃ O' e', REnv g b H' O' σ' e' ∧ PostS g W b H' O' (whileD t body k e') D, ⟨n, O, env, R, h⟩, ?_⟩
  rintro k σ2 H2 ⟨O2, e2, R2, h2⟩
  cases k with
  | zero => exact h2.elim
  | succ k =>
    refine (rT.bindS (m := t) R2 h2).mono fun c H3 ⟨O3, e3, l3, R3, h3⟩ => ?_
    cases c with
    | false => exact iteF (h3 σ2 H3 O3 (Le.refl _) R3)
    | true =>
      refine iteT ⟨fun σ' H' => ∃ O' e', REnv g b H' O' σ' e' ∧ PostS g W b H' O' (whileD t body k e') D, fun σ' H' z => ⟨k, Nat.lt_succ_self k, z⟩, b, O3, e3, R3, ?_⟩
      have h4 : PostS g W b H3 O3 ((body e3).bind fun c => match c.1 with
        | .nx => whileD t body k c.2
        | .ct => whileD t body k c.2
        | .bk => .ok (.nx, c.2)
        | .rt p => .ok (.rt p, c.2)) D := h3
      revert h4
      cases body e3 with
      | err c f e => exact fun z => z
      | stuck => exact fun z => z
      | ok a =>
        obtain ⟨f, e5⟩ := a
        cases f with
        | nx => exact fun h5 σ' H' O' l R' => ⟨O', e5, R', h5.le l⟩
        | ct => exact fun h5 σ' H' O' l R' => ⟨O', e5, R', h5.le l⟩
        | bk => exact fun h5 => h5
        | rt p => exact fun h5 => h5
theorem s_while {c : Expr} {body : List Stmt} {n : Nat} {t : TDen} {mb : SDen} (hp : PassesOwn (model X.prog X.w) X.A X.env X.xe) (hc : PT X c (rT g W t)) (hb : PSs X body (rS g W mb)) : PS X (.While c body [] pos) (rS g W (sWhile n t mb)) :=
  ps_weak (ps_while hp hc hb) fun _ _ _ h => rS_while h
end
end MM

set_option maxHeartbeats 2000000
namespace MM
open PySem PySem.Spec PyProof.Rows L2

/-! ### argument lists -/
def aNil : ADen := fun e => .ok ([], e)
def aCons (m : EDen) (ms : ADen) : ADen := fun e => (m e).bind fun a => (ms a.2).bind fun c => .ok (a.1.fz :: c.1, c.2)
section
variable {g : G} {W : WX} {X : Cx} {b : Bas} {H H1 : Hp} {O O1 : List Addr} {σ : L2.St} {e e' : DEnv}
theorem RPs.move (l : Le (hide H O) (hide H1 O1)) : ∀ {ps : List P} {vs : List V}, RPs g b H O σ e ps vs → RPs g b H1 O1 σ e' ps vs
  | _, _, .nil => .nil
  | _, _, .cons o r rs => .cons o (r.move o l) (rs.move l)
theorem a_nil : PA X [] (rA g W aNil) := pa_weak pa_nil fun σ H Q ⟨b, O, env, R, h⟩ => h [] H O (Le.refl _) R .nil
theorem a_cons {x : Expr} {es : List Expr} {m : EDen} {ms : ADen} (ha : PE X x (rE g W m)) (hr : PA X es (rA g W ms)) (hs : starEach (x :: es) X.env = (false, eval x X.env) :: starEach es X.env := by rfl) : PA X (x :: es) (rA g W (aCons m ms)) :=
  pa_weak (pa_cons ha hr hs) fun σ H Q ⟨b, O, env, R, h⟩ => (rE.bindA (m := m) R h).mono fun v H1 ⟨O1, p, e, M, h1⟩ => by
    obtain ⟨O2, x2, R2, r2⟩ := fz_ok M.env M.rep
    refine (rA.bind (m := ms) (F := fun H O r => PostA g W b σ H O r Q) (fun _ _ _ z => z) (fun z => z) (fun _ _ _ l z => z.le l) R2 (h1.le x2.le)).mono fun vs H3 ⟨O3, ps, e3, l3, R3, rs, h3⟩ => ?_
    exact h3 _ H3 O3 (Le.refl _) R3 (.cons p.fz_old (r2.move p.fz_old l3) rs)
end
def frzs : List P → DEnv → Option (List D × DEnv)
  | [], e => some ([], e)
  | p :: ps, e => (p.frz e).bind fun z => (frzs ps z.2).bind fun w => some (z.1 :: w.1, w.2)
def vws : List P → DEnv → Option (List D)
  | [], _ => some []
  | p :: ps, e => (p.vw e).bind fun d => (vws ps e).bind fun ds => some (d :: ds)
inductive Views (g : G) (H : Hp) (O : List Addr) : List D → List V → Prop
  | nil : Views g H O [] []
  | cons {d v ds vs} : View g H O d v → Views g H O ds vs → Views g H O (d :: ds) (v :: vs)
section
variable {g : G} {b : Bas} {H : Hp} {O : List Addr} {σ : L2.St} {e e' : DEnv}
theorem frz_old {p : P} {d : D} (h : p.frz e = some (d, e')) : True := trivial
theorem frzs_ok : ∀ {ps : List P} {vs : List V} {H : Hp} {O : List Addr} {e e' : DEnv} {ds : List D}, REnv g b H O σ e → RPs g b H O σ e ps vs → frzs ps e = some (ds, e') →
    ∃ O', Ext (hide H O) (hide H O') ∧ REnv g b H O' σ e' ∧ Reps g (hide H O') ds vs
  | [], _, H, O, e, _, _, R, .nil, h => by cases h; exact ⟨O, Ext.refl _, R, .nil⟩
  | p :: ps, _, H, O, e, e', ds, R, .cons o r rs, h => by
    simp only [frzs] at h
    cases hz : p.frz e with
    | none => rw [hz] at h; cases h
    | some z =>
      obtain ⟨d, e1⟩ := z
      rw [hz] at h
      simp only [Option.bind_some] at h
      cases hw : frzs ps e1 with
      | none => rw [hw] at h; cases h
      | some w =>
        obtain ⟨ds', e2⟩ := w
        rw [hw] at h
        cases h
        obtain ⟨O1, x1, R1, r1⟩ := frz_ok R r hz
        obtain ⟨O2, x2, R2, r2⟩ := frzs_ok R1 (rs.move x1.le) hw
        exact ⟨O2, x1.trans x2, R2, .cons (r1.le x2.le) r2⟩
theorem vws_ok : ∀ {ps : List P} {vs : List V} {ds : List D}, REnv g b H O σ e → RPs g b H O σ e ps vs → vws ps e = some ds → Views g H O ds vs
  | [], _, _, R, .nil, h => by cases h; exact .nil
  | p :: ps, _, ds, R, .cons _ r rs, h => by
    simp only [vws] at h
    cases hz : p.vw e with
    | none => rw [hz] at h; cases h
    | some d =>
      rw [hz] at h
      simp only [Option.bind_some] at h
      cases hw : vws ps e with
      | none => rw [hw] at h; cases h
      | some ds' =>
        rw [hw] at h
        cases h
        exact .cons (vw_ok R r hz) (vws_ok R rs hw)
end
/-! ### what a def promises: its mirror -/
/-- all but the object at a -/
def ExtB (a : Addr) (H H' : Hp) : Prop := ∀ c o, c ≠ a → H c = some o → H' c = some o
def spV (g : G) (mf : List D → Res (P × D)) : Sp := fun vs H Q E => ∃ ds O, (∀ a, a ∈ O → Hid (H a)) ∧ Reps g (hide H O) ds vs ∧ match mf ds with
  | .ok (.d d, _) => ∀ v H', Ext H H' → Rep g (hide H' O) d v → Q v H'
  | .ok (.n d, _) => ∀ a H', Ext H H' → H a = none → OwnAt g H' (a :: O) d a → Q (.ref a) H'
  | .ok (.s _, _) => False
  | .err c f _ => ∀ cls dd H', Ext H H' → ExcAt g c f cls dd H' → E cls dd H'
  | .stuck => False
/-- .. the first argument an object of the caller's own, that may change -/
def spI (g : G) (mf : List D → Res (P × D)) : Sp := fun vs H Q E => ∃ a vs' d0 ds O, vs = .ref a :: vs' ∧ (∀ c, c ∈ O → Hid (H c)) ∧ a ∈ O ∧ OwnAt g H O d0 a ∧ Reps g (hide H O) ds vs' ∧ match mf (d0 :: ds) with
  | .ok (.d d, d1) => ∀ v H', ExtB a H H' → OwnAt g H' O d1 a → Rep g (hide H' O) d v → Q v H'
  | .ok (.n d, d1) => ∀ c H', ExtB a H H' → H c = none → OwnAt g H' (c :: O) d1 a → OwnAt g H' (c :: O) d c → Q (.ref c) H'
  | .ok (.s _, _) => False
  | .err c f _ => ∀ cls dd H', ExtB a H H' → ExcAt g c f cls dd H' → E cls dd H'
  | .stuck => False
/-- .. at some bound of the loops' turns, n arguments -/
def spF (g : G) (n : Nat) (mf : Nat → List D → Res (P × D)) : Sp := fun vs H Q E => vs.length = n ∧ ∃ N, spV g (mf N) vs H Q E
def spJ (g : G) (n : Nat) (mf : Nat → List D → Res (P × D)) : Sp := fun vs H Q E => vs.length = n ∧ ∃ N, spI g (mf N) vs H Q E

section
variable {g : G} {W : WX} {b : Bas} {H H' : Hp} {O : List Addr} {σ : L2.St} {e : DEnv} {ds : List D} {vs : List V} {Q : VK} {a : Addr} {i : Nat}
/-- a call's end, at the caller's -/
def outV (r : Res (P × D)) (e : DEnv) : Res (P × DEnv) := match r with
  | .ok (.d d, _) => .ok (.d d, e)
  | .ok (.n d, _) => .ok (.n d, e)
  | .ok (.s _, _) => .stuck
  | .err c f _ => .err c f e
  | .stuck => .stuck
def outI (i : Nat) (r : Res (P × D)) (e : DEnv) : Res (P × DEnv) := match r with
  | .ok (.d d, d1) => .ok (.d d, e.set i (.ow d1))
  | .ok (.n d, d1) => .ok (.n d, e.set i (.ow d1))
  | .ok (.s _, _) => .stuck
  | .err c f _ => .err c f e
  | .stuck => .stuck
theorem got_le (x : Ext H H') (n : H a = none) : Ext (hide H O) (hide H' (a :: O)) := fun c u q => by
  obtain ⟨nc, q⟩ := hide_some q
  rw [hide_out (fun z => (List.mem_cons.mp z).elim (fun z => by rw [z, n] at q; cases q) nc)]
  exact x c u q
theorem got_leB {a c : Addr} (ha : a ∈ O) (x : ExtB a H H') (n : H c = none) : Ext (hide H O) (hide H' (c :: O)) := fun k u q => by
  obtain ⟨nc, q⟩ := hide_some q
  rw [hide_out (fun z => (List.mem_cons.mp z).elim (fun z => by rw [z, n] at q; cases q) nc)]
  exact x k u (fun z => nc (z ▸ ha)) q
theorem REnv.gotV {d : D} (R : REnv g b H O σ e) (x : Ext H H') (n : H a = none) (w : OwnAt g H' (a :: O) d a) : REnv g b H' (a :: O) σ e ∧ New g b H' (a :: O) σ e d a := by
  have nO : a ∉ O := fun z => R.occ a z n
  have he := got_le (O := O) x n
  refine ⟨⟨R.len, fun c o q => x c o (R.pro c o q), fun c hc => List.mem_cons_of_mem _ (R.out c hc), fun c hc => ?_, fun j f q => ?_, fun j f q => ?_, R.sep, R.io⟩, List.mem_cons_self, (R.fresh n).2.1, (R.fresh n).1, w, fun j f q z => ?_⟩
  · rcases List.mem_cons.mp hc with rfl | hc
    · exact w.hid
    · exact (R.hd c hc).keep (x c)
  · obtain ⟨v, z1, z2⟩ := R.fr j f q
    exact ⟨v, z1, z2.le he.le⟩
  · obtain ⟨c, z1, z2, z3, z4, z5⟩ := R.ow j f q
    exact ⟨c, z1, List.mem_cons_of_mem _ z2, z3, z4, z5.le he.le fun o ho => x c o ho⟩
  · obtain ⟨c, z1, z2, _⟩ := R.ow j f q
    rw [z] at z1; cases z1
    exact nO z2
/-- a callee with the caller's data -/
theorem sp_of_post {mf : List D → Res (P × D)} (R : REnv g b H O σ e) (r : Reps g (hide H O) ds vs) (h : PostE g W b σ H O (outV (mf ds) e) Q) : spV g mf vs H Q (WE W σ) := by
  refine ⟨ds, O, R.hd, r, ?_⟩
  revert h
  cases mf ds with
  | stuck => exact fun h => h
  | err c f e' => exact fun h cls dd H' x q => h cls dd H' O (hide_ext x).le (R.ext x).drop q
  | ok a =>
    obtain ⟨p, d1⟩ := a
    cases p with
    | d d => exact fun h v H' x q => h v H' O (hide_ext x).le (R.ext x) q
    | n d => exact fun h a H' x n w => h (.ref a) H' (a :: O) (got_le x n).le (R.gotV x n w).1 ⟨a, rfl, (R.gotV x n w).2⟩
    | s i => exact fun h => h
theorem spI_of_post {mf : List D → Res (P × D)} {d0 : D} (R : REnv g b H O σ e) (he : e[i]? = some (.ow d0)) (hv : σ[i]? = some (some (.ref a))) (r : Reps g (hide H O) ds vs) (h : PostE g W b σ H O (outI i (mf (d0 :: ds)) e) Q) : spI g mf (.ref a :: vs) H Q (WE W σ) := by
  obtain ⟨a', h1, h2, h3, h4, h5⟩ := R.ow i d0 he
  rw [hv] at h1; cases h1
  refine ⟨a, vs, d0, ds, O, rfl, R.hd, h2, h5, r, ?_⟩
  revert h
  cases mf (d0 :: ds) with
  | stuck => exact fun h => h
  | err c f e' =>
    intro h cls dd H' x q
    have sub : ∀ c, c ∈ O.filter (fun c => decide (c ≠ a)) → c ∈ O := fun c hc => (List.mem_filter.mp hc).1
    have ne : ∀ c, c ∈ O.filter (fun c => decide (c ≠ a)) → c ≠ a := fun c hc => by simpa using (List.mem_filter.mp hc).2
    have kp : ∀ c, c ∈ O → c ≠ a → c ∈ O.filter (fun c => decide (c ≠ a)) := fun c hc n => List.mem_filter.mpr ⟨hc, by simpa using n⟩
    have le : Ext (hide H O) (hide H' (O.filter (fun c => decide (c ≠ a)))) := fun c o z => by
      obtain ⟨nc, z⟩ := hide_some z
      rw [hide_out fun y => nc (sub c y)]
      exact x c o (fun y => nc (y ▸ h2)) z
    refine h cls dd H' (O.filter (fun c => decide (c ≠ a))) le.le ⟨R.drop.len, fun c o z => x c o (fun y => by rw [y, h4] at z; cases z) (R.pro c o z), fun c hc => kp c (R.out c hc) fun y => h3 (y ▸ hc), fun c hc => ?_, fun j f z => ?_, fun j f z => ?_, R.drop.sep, R.drop.io⟩ q
    · exact (R.hd c (sub c hc)).keep fun o z => x c o (ne c hc) z
    · obtain ⟨v, z1, z2⟩ := R.drop.fr j f z
      exact ⟨v, z1, z2.le le.le⟩
    · unfold dropOwn at z
      rw [List.getElem?_map] at z
      cases y : e[j]? with
      | none => rw [y] at z; cases z
      | some s => rw [y] at z; cases s <;> cases z
  | ok p =>
    obtain ⟨p, d1⟩ := p
    cases p with
    | d d =>
      intro h v H' x w q
      exact h v H' O (hide_same h2 x).le (R.mutate he hv x w) q
    | n d =>
      intro h c H' x n w wc
      have nO : c ∉ O := fun z => R.occ c z n
      have lc := got_leB (c := c) h2 x n
      have nca : c ≠ a := fun z => nO (z ▸ h2)
      have set_no : ∀ {j f}, (e.set i (.ow d1))[j]? = some (Sl.ow f) → j ≠ i → ∃ k, σ[j]? = some (some (.ref k)) ∧ k ∈ O ∧ k ∉ b.O ∧ b.B k = none ∧ OwnAt g H O f k ∧ k ≠ a := fun {j f} z nj => by
        rcases set_get z with ⟨y, _, _⟩ | ⟨_, z⟩
        · exact absurd y nj
        · obtain ⟨k, y1, y2, y3, y4, y5⟩ := R.ow j f z
          exact ⟨k, y1, y2, y3, y4, y5, fun q => nj (R.sep j i f d0 a z he (by rw [← q]; exact y1) hv)⟩
      have R' : REnv g b H' (c :: O) σ (e.set i (.ow d1)) := by
        refine ⟨by rw [List.length_set]; exact R.len, fun k o z => x k o (fun y => by rw [y, h4] at z; cases z) (R.pro k o z), fun k hk => List.mem_cons_of_mem _ (R.out k hk), fun k hk => ?_, fun j f z => ?_, fun j f z => ?_, fun j l f1 f2 k q1 q2 y1 y2 => ?_, fun k f hI z => ?_⟩
        · rcases List.mem_cons.mp hk with rfl | hk
          · exact wc.hid
          · by_cases ka : k = a
            · subst ka
              exact w.hid
            · exact (R.hd k hk).keep fun o z => x k o ka z
        · rcases set_get z with ⟨_, y, _⟩ | ⟨_, z⟩
          · cases y
          · obtain ⟨v, z1, z2⟩ := R.fr j f z
            exact ⟨v, z1, z2.le lc.le⟩
        · by_cases ji : j = i
          · subst ji
            rcases set_get z with ⟨_, y, _⟩ | ⟨y, _⟩
            · cases y; exact ⟨a, hv, List.mem_cons_of_mem _ h2, h3, h4, w⟩
            · exact absurd rfl y
          · obtain ⟨k, y1, y2, y3, y4, y5, y6⟩ := set_no z ji
            exact ⟨k, y1, List.mem_cons_of_mem _ y2, y3, y4, y5.le lc.le fun o ho => x k o y6 ho⟩
        · by_cases ji : j = i
          · by_cases li : l = i
            · rw [ji, li]
            · obtain ⟨k', z1, _, _, _, _, z6⟩ := set_no q2 li
              rw [ji, hv] at y1; cases y1
              rw [y2] at z1; cases z1
              exact absurd rfl z6
          · by_cases li : l = i
            · obtain ⟨k', z1, _, _, _, _, z6⟩ := set_no q1 ji
              rw [li, hv] at y2; cases y2
              rw [y1] at z1; cases z1
              exact absurd rfl z6
            · rcases set_get q1 with ⟨y, _, _⟩ | ⟨_, q1⟩
              · exact absurd y ji
              · rcases set_get q2 with ⟨y, _, _⟩ | ⟨_, q2⟩
                · exact absurd y li
                · exact R.sep j l f1 f2 k q1 q2 y1 y2
        · rcases set_get z with ⟨q0, _, _⟩ | ⟨_, z⟩
          · exact R.io k d0 hI (by rw [q0]; exact he)
          · exact R.io k f hI z
      refine h (.ref c) H' (c :: O) lc.le R' ⟨c, rfl, List.mem_cons_self, (R.fresh n).2.1, (R.fresh n).1, wc, fun j f z y => ?_⟩
      by_cases ji : j = i
      · rw [ji, hv] at y; cases y; exact nca rfl
      · obtain ⟨k, z1, z2, _⟩ := set_no z ji
        rw [y] at z1; cases z1
        exact nO z2
    | s i => exact fun h => h
end

/-! ### a def keeps its mirror's promise -/
def ends (nl : Nat) (e : DEnv) : P → Res (P × D)
  | .d d => .ok (.d d, .non)
  | .n d => .ok (.n d, .non)
  | .s i => match e[i]? with
    | some (.ow d) => .ok (.n d, .non)
    | some (.fr d) => .ok (.d d, .non)
    | _ => .stuck
/-- a body run on its arguments; nl names -/
def runV (nl : Nat) (m : SDen) (ds : List D) : Res (P × D) := match m (ds.map .fr ++ List.replicate (nl - ds.length) .no) with
  | .ok (.nx, _) => .ok (.d .non, .non)
  | .ok (.rt p, e) => ends nl e p
  | .ok (_, _) => .stuck
  | .err c f _ => .err c f []
  | .stuck => .stuck
def endsI (e : DEnv) (p : P) : Res (P × D) := match (e[0]? : Option Sl) with
  | some (Sl.ow d1) => match p with
    | .d d => .ok (.d d, d1)
    | .n d => .ok (.n d, d1)
    | .s i => if i = 0 then .stuck else match e[i]? with
      | some (.ow d) => .ok (.n d, d1)
      | some (.fr d) => .ok (.d d, d1)
      | _ => .stuck
  | _ => .stuck
def runI (nl : Nat) (m : SDen) : List D → Res (P × D)
  | [] => .stuck
  | d0 :: ds => match m (.ow d0 :: (ds.map .fr ++ List.replicate (nl - (ds.length + 1)) .no)) with
    | .ok (.nx, e) => endsI e (.d .non)
    | .ok (.rt p, e) => endsI e p
    | .ok (_, _) => .stuck
    | .err c f _ => .err c f []
    | .stuck => .stuck
section
variable {g : G} {b : Bas} {H : Hp} {O : List Addr} {σ : L2.St}
theorem rep_get {α : Type} {n i : Nat} {x y : α} (h : (List.replicate n x)[i]? = some y) : y = x := by
  rw [List.getElem?_replicate] at h
  split at h <;> cases h
  rfl
theorem env_start {N : List Str} {ds : List D} {vs : List V} (occ : ∀ a, a ∈ O → Hid (H a)) (r : Reps g (hide H O) ds vs) : REnv g ⟨H, O, none⟩ H O (L2.start N vs) (ds.map .fr ++ List.replicate (N.length - ds.length) .no) := by
  have hl := r.len
  have key : ∀ {i : Nat} {s : Sl}, (ds.map Sl.fr ++ List.replicate (N.length - ds.length) Sl.no)[i]? = some s → s = .no ∨ ∃ d, s = .fr d ∧ ds[i]? = some d := fun {i s} h => by
    by_cases hi : i < ds.length
    · rw [List.getElem?_append_left (by simpa using hi), List.getElem?_map] at h
      cases z : ds[i]? with
      | none => rw [z] at h; cases h
      | some d => rw [z] at h; cases h; exact .inr ⟨d, rfl, rfl⟩
    · rw [List.getElem?_append_right (by simpa using hi)] at h
      exact .inl (rep_get h)
  refine ⟨?_, Ext.refl _, fun _ h => h, occ, fun i d h => ?_, fun i d h => ?_, fun i j d e a h => ?_, fun a d hI => (by cases hI)⟩
  · unfold L2.start; simp [hl]
  · rcases key h with z | ⟨d', z, q⟩
    · cases z
    · cases z
      obtain ⟨v, h1, h2⟩ := r.get q
      refine ⟨v, ?_, h2⟩
      unfold L2.start
      rw [List.getElem?_append_left (by simpa using (List.getElem?_eq_some_iff.mp h1).1), List.getElem?_map, h1]
      rfl
  · rcases key h with z | ⟨d', z, q⟩ <;> cases z
  · rcases key h with z | ⟨d', z, q⟩ <;> cases z
theorem body_val {N : List Str} {m : SDen} {vs : List V} {Q : VK} {E : XK} (h : spV g (runV N.length m) vs H Q E) :
    rS g (fun cls dd _ H' => E cls dd H') m { nx := fun _ H' => Q .non H', rt := Q } (L2.start N vs) H := by
  obtain ⟨ds, O, occ, r, h⟩ := h
  refine ⟨⟨H, O, none⟩, O, _, env_start occ r, ?_⟩
  unfold runV at h
  revert h
  cases m (ds.map Sl.fr ++ List.replicate (N.length - ds.length) Sl.no) with
  | stuck => exact fun h => h
  | err c f e => exact fun h σ' cls dd H' O' _ R q => h cls dd H' R.pro q
  | ok a =>
    obtain ⟨f, e⟩ := a
    have sub : ∀ {H' : Hp} {O' : List Addr} {σ' : L2.St} {e : DEnv}, REnv g ⟨H, O, none⟩ H' O' σ' e → Ext (hide H' O') (hide H' O) := fun R => hide_less R.out
    have frsh : ∀ {H' : Hp} {O' : List Addr} {σ' : L2.St} {e : DEnv} {a : Addr} {d : D}, REnv g ⟨H, O, none⟩ H' O' σ' e → a ∈ O' → OwnAt g H' O' d a → OwnAt g H' (a :: O) d a := fun R ha w =>
      w.le (hide_less fun c hc => (List.mem_cons.mp hc).elim (fun z => z ▸ ha) (R.out c)).le fun _ z => z
    cases f with
    | nx => exact fun h σ' H' O' l R => h .non H' R.pro .non
    | bk => exact fun h => h.elim
    | ct => exact fun h => h.elim
    | rt p =>
      cases p with
      | d d => exact fun h v σ' H' O' l R q => h v H' R.pro (Rep.le (sub R).le q)
      | n d =>
        intro h v σ' H' O' l R q
        obtain ⟨a, rfl, n⟩ := q
        exact h a H' R.pro n.frs (frsh R n.hid n.own)
      | s i =>
        intro h v σ' H' O' l R q
        simp only [ends] at h
        split at h
        · rename_i hm
          split at hm
          · cases hm
          · rename_i d' he
            cases hm
            obtain ⟨v', z1, z2⟩ := R.fr i _ he
            have q' : σ'[i]? = some (some v) := q
            rw [q'] at z1; cases z1
            exact h v H' R.pro (z2.le (sub R).le)
          · cases hm
        · rename_i hm
          split at hm
          · rename_i d' he
            cases hm
            obtain ⟨a, z1, z2, z3, z4, z5⟩ := R.ow i _ he
            have q' : σ'[i]? = some (some v) := q
            rw [q'] at z1; cases z1
            exact h a H' R.pro z4 (frsh R z2 z5)
          · cases hm
          · cases hm
        · exact h.elim
        · rename_i hm
          split at hm <;> cases hm
        · exact h.elim
theorem env_startI {N : List Str} {a : Addr} {d0 : D} {ds : List D} {vs : List V} (occ : ∀ a, a ∈ O → Hid (H a)) (ha : a ∈ O) (w : OwnAt g H O d0 a) (r : Reps g (hide H O) ds vs) :
    REnv g ⟨fun c => if c = a then none else H c, O.filter fun c => decide (c ≠ a), some a⟩ H O (L2.start N (.ref a :: vs)) (.ow d0 :: (ds.map .fr ++ List.replicate (N.length - (ds.length + 1)) .no)) := by
  have hl := r.len
  have key : ∀ {i : Nat} {s : Sl}, (ds.map Sl.fr ++ List.replicate (N.length - (ds.length + 1)) Sl.no)[i]? = some s → s = .no ∨ ∃ d, s = .fr d ∧ ds[i]? = some d := fun {i s} h => by
    by_cases hi : i < ds.length
    · rw [List.getElem?_append_left (by simpa using hi), List.getElem?_map] at h
      cases z : ds[i]? with
      | none => rw [z] at h; cases h
      | some d => rw [z] at h; cases h; exact .inr ⟨d, rfl, rfl⟩
    · rw [List.getElem?_append_right (by simpa using hi)] at h
      exact .inl (rep_get h)
  have st0 : (L2.start N (V.ref a :: vs))[0]? = some (some (.ref a)) := rfl
  refine ⟨?_, fun c o q => ?_, fun c h => (List.mem_filter.mp h).1, occ, fun i d h => ?_, fun i d h => ?_, fun i j d e c h1 h2 _ _ => ?_, fun c d hI _ => (by cases hI; exact st0)⟩
  · unfold L2.start; simp [hl]
  · have q : (if c = a then none else H c) = some o := q
    by_cases z : c = a
    · rw [if_pos z] at q; cases q
    · rw [if_neg z] at q; exact q
  · cases i with
    | zero => cases h
    | succ i =>
      rcases key (by simpa using h) with z | ⟨d', z, q⟩
      · cases z
      · cases z
        obtain ⟨v, h1, h2⟩ := r.get q
        refine ⟨v, ?_, h2⟩
        unfold L2.start
        rw [List.getElem?_append_left (by simpa using (List.getElem?_eq_some_iff.mp h1).1), List.getElem?_map]
        show Option.map some vs[i]? = _
        rw [h1]
        rfl
  · cases i with
    | zero => cases h; exact ⟨a, st0, ha, fun z => by simpa using (List.mem_filter.mp z).2, if_pos rfl, w⟩
    | succ i => rcases key (by simpa using h) with z | ⟨d', z, q⟩ <;> cases z
  · cases i with
    | zero =>
      cases j with
      | zero => rfl
      | succ j => rcases key (by simpa using h2) with z | ⟨d', z, q⟩ <;> cases z
    | succ i => rcases key (by simpa using h1) with z | ⟨d', z, q⟩ <;> cases z
end
end MM

set_option maxHeartbeats 2000000
namespace MM
open PySem PySem.Spec PyProof.Rows L2

section
variable {g : G} {b : Bas} {H : Hp} {O : List Addr} {σ : L2.St}
theorem body_io {N : List Str} {m : SDen} {vs : List V} {Q : VK} {E : XK} (h : spI g (runI N.length m) vs H Q E) :
    rS g (fun cls dd _ H' => E cls dd H') m { nx := fun _ H' => Q .non H', rt := Q } (L2.start N vs) H := by
  obtain ⟨a, vs', d0, ds, O, rfl, occ, ha, w, r, h⟩ := h
  have R0 := env_startI (N := N) occ ha w r
  refine ⟨_, O, _, R0, ?_⟩
  generalize hb : (⟨fun c => if c = a then none else H c, O.filter fun c => decide (c ≠ a), some a⟩ : Bas) = b at R0 ⊢
  have pro : ∀ {H' : Hp} {O' : List Addr} {σ' : L2.St} {e : DEnv}, REnv g b H' O' σ' e → ExtB a H H' := fun R c o n q => R.pro c o (by rw [← hb]; show (if c = a then none else H c) = some o; rw [if_neg n]; exact q)
  have out : ∀ {H' : Hp} {O' : List Addr} {σ' : L2.St} {e : DEnv} {c}, REnv g b H' O' σ' e → c ∈ O → c ≠ a → c ∈ O' := fun R hc n => R.out _ (by rw [← hb]; exact List.mem_filter.mpr ⟨hc, by simpa using n⟩)
  have fin : ∀ {e : DEnv} {p : P}, (match endsI e p with
      | .ok (.d d, d1) => ∀ v H', ExtB a H H' → OwnAt g H' O d1 a → Rep g (hide H' O) d v → Q v H'
      | .ok (.n d, d1) => ∀ c H', ExtB a H H' → H c = none → OwnAt g H' (c :: O) d1 a → OwnAt g H' (c :: O) d c → Q (.ref c) H'
      | .ok (.s _, _) => False
      | .err c f _ => ∀ cls dd H', ExtB a H H' → ExcAt g c f cls dd H' → E cls dd H'
      | .stuck => False) → ∀ v σ' H' O', REnv g b H' O' σ' e → RP g b H' O' σ' e p v → Q v H' := by
    intro e p h v σ' H' O' R rp
    unfold endsI at h
    split at h
    · rename_i hm
      cases he0 : e[0]? with
      | none => rw [he0] at hm; cases hm
      | some s =>
        rw [he0] at hm
        cases s with
        | no => cases hm
        | fr d => cases hm
        | ow d1' =>
          have s0 := R.io a _ (by rw [← hb]) he0
          obtain ⟨a', z1, z2, z3, z4, z5⟩ := R.ow 0 _ he0
          rw [s0] at z1; cases z1
          have sub : ∀ c, c ∈ O → c ∈ O' := fun c hc => by
            by_cases z : c = a
            · rw [z]; exact z2
            · exact out R hc z
          cases p with
          | d d =>
            cases hm
            exact h v H' (pro R) (z5.le (hide_less sub).le fun _ z => z) (Rep.le (hide_less sub).le rp)
          | n d => cases hm
          | s i =>
            simp only at hm
            split at hm
            · cases hm
            · split at hm
              · cases hm
              · rename_i d' he
                cases hm
                obtain ⟨v', y1, y2⟩ := R.fr i _ he
                have q' : σ'[i]? = some (some v) := rp
                rw [q'] at y1; cases y1
                exact h v H' (pro R) (z5.le (hide_less sub).le fun _ z => z) (y2.le (hide_less sub).le)
              · cases hm
    · rename_i hm
      cases he0 : e[0]? with
      | none => rw [he0] at hm; cases hm
      | some s =>
        rw [he0] at hm
        cases s with
        | no => cases hm
        | fr d => cases hm
        | ow d1' =>
          have s0 := R.io a _ (by rw [← hb]) he0
          obtain ⟨a', z1, z2, z3, z4, z5⟩ := R.ow 0 _ he0
          rw [s0] at z1; cases z1
          have sub : ∀ {k}, k ∈ O' → ∀ c, c ∈ k :: O → c ∈ O' := fun hk c hc => by
            rcases List.mem_cons.mp hc with rfl | hc
            · exact hk
            · by_cases z : c = a
              · rw [z]; exact z2
              · exact out R hc z
          have nn : ∀ {k}, b.B k = none → k ≠ a → H k = none := fun {k} q n => by
            rw [← hb] at q
            have q : (if k = a then none else H k) = none := q
            rw [if_neg n] at q; exact q
          cases p with
          | d d => cases hm
          | n d =>
            cases hm
            obtain ⟨c, rfl, n⟩ := rp
            have nca : c ≠ a := fun z => n.sep 0 _ he0 (by rw [s0, z])
            exact h c H' (pro R) (nn n.frs nca) (z5.le (hide_less (sub n.hid)).le fun _ z => z) (n.own.le (hide_less (sub n.hid)).le fun _ z => z)
          | s i =>
            simp only at hm
            split at hm
            · cases hm
            · rename_i i0
              split at hm
              · rename_i d' he
                cases hm
                obtain ⟨c, y1, y2, y3, y4, y5⟩ := R.ow i _ he
                have q' : σ'[i]? = some (some v) := rp
                rw [q'] at y1; cases y1
                have nca : c ≠ a := fun z => i0 (R.sep i 0 _ _ c he he0 q' (by rw [s0, z]))
                exact h c H' (pro R) (nn y4 nca) (z5.le (hide_less (sub y2)).le fun _ z => z) (y5.le (hide_less (sub y2)).le fun _ z => z)
              · cases hm
              · cases hm
    · exact h.elim
    · rename_i hm
      split at hm
      · split at hm
        · cases hm
        · cases hm
        · split at hm
          · cases hm
          · split at hm <;> cases hm
      · cases hm
    · exact h.elim
  simp only [runI] at h
  revert h
  cases m (Sl.ow d0 :: (ds.map Sl.fr ++ List.replicate (N.length - (ds.length + 1)) Sl.no)) with
  | stuck => exact fun h => h
  | err c f e => exact fun h σ' cls dd H' O' _ R q => h cls dd H' (pro R) q
  | ok p =>
    obtain ⟨f, e⟩ := p
    cases f with
    | nx => exact fun h σ' H' O' l R => fin h .non σ' H' O' R .non
    | bk => exact fun h => h.elim
    | ct => exact fun h => h.elim
    | rt p => exact fun h v σ' H' O' l R rp => fin h v σ' H' O' R rp
end
end MM

set_option maxHeartbeats 2000000
namespace MM
open PySem PySem.Spec PyProof.Rows L2

/-! ### defs -/
/-- what a def's body wishes of an error -/
abbrev WD (E : XK) : WX := fun cls dd _ H' => E cls dd H'
/-- nothing may be raised -/
abbrev W0 : WX := fun _ _ _ _ => False
abbrev Lets (X : Cx) (W : WX) : Prop := Takes X W
theorem lets0 {X : Cx} : Lets X W0 := fun _ _ h => by
  obtain ⟨_, _, _, _, _, _, _, _, _, _, _, _, _, _, _, _, z⟩ := h
  exact z.elim
section
variable {g : G} {P : Program} {w : World} {K : PySem.W.Frag} {mg : Str → Option Value} {base : Heap}
theorem def_val {x qual : Str} {st : Stmt} {f : Addr} {fd : FuncData} {N ps : List Str} {k : Nat} (F : Fun K x qual st f fd) (S : FnScope N ps (defScope st)) (m : Nat → SDen)
    (hb : ∀ (n : Nat) (cdv : Value) (A : Around) (outer : List Env) (s : Shared) (H : Hp) (E : XK), Room k (A.deeper (envOfC qual (defScope st) s.heap.objs.size f cdv)) → PSs (cxOf (L2.CX P w) P w K mg base N qual (defScope st) f cdv A outer s H E) (defBody st) (rS g (WD E) (m n))) :
    FnOk P w K mg base (L2.CX P w) (k + 1) f fd ps (spF g ps.length fun n => runV N.length (m n)) :=
  F.okX S (fun vs H Q E h => h.1) fun cdv A outer s H vs Q E hr h => let ⟨_, n, h⟩ := h; ⟨_, hb n cdv A outer s H E hr, body_val h⟩
theorem def_io {x qual : Str} {st : Stmt} {f : Addr} {fd : FuncData} {N ps : List Str} {k : Nat} (F : Fun K x qual st f fd) (S : FnScope N ps (defScope st)) (m : Nat → SDen)
    (hb : ∀ (n : Nat) (cdv : Value) (A : Around) (outer : List Env) (s : Shared) (H : Hp) (E : XK), Room k (A.deeper (envOfC qual (defScope st) s.heap.objs.size f cdv)) → PSs (cxOf (L2.CX P w) P w K mg base N qual (defScope st) f cdv A outer s H E) (defBody st) (rS g (WD E) (m n))) :
    FnOk P w K mg base (L2.CX P w) (k + 1) f fd ps (spJ g ps.length fun n => runI N.length (m n)) :=
  F.okX S (fun vs H Q E h => h.1) fun cdv A outer s H vs Q E hr h => let ⟨_, n, h⟩ := h; ⟨_, hb n cdv A outer s H E hr, body_io h⟩
end

/-! ### what a caller has of a callee -/
section
variable (P : Program) (w : World) (K : PySem.W.Frag) (mg : Str → Option Value) (base : Heap)
/-- a def of the module under the name x, of n parameters, at level k -/
def CalF (x : Str) (n k : Nat) (sp : Sp) : Prop := ∃ f fd ps, ps.length = n ∧ FnOk P w K mg base (L2.CX P w) k f fd ps sp ∧ mg x = some (.ref f) ∧ PySem.W.keepIn K (.ref f) = true ∧ Binds K fd ps []
/-- a method of the class at C -/
def CalM (C : Addr) (m : Str) (n k : Nat) (sp : Sp) : Prop := Cls K C ∧ ∃ f fd ps, ps.length = n ∧ FnOk P w K mg base (L2.CX P w) k f fd ps sp ∧ Meth K C m f ∧ Binds K fd ps []
/-- a class, under the name x -/
def CalC (C : Addr) (x : Str) (n k : Nat) (sp : Sp) : Prop := mg x = some (.ref C) ∧ ∃ f fd ps, ps.length = n ∧ FnOk P w K mg base (L2.CX P w) k f fd ps sp ∧ Mk K C f ∧ Binds K fd ps []
end
section
variable {X : Cx} {k : Nat} {f C : Addr} {fd : FuncData} {ps : List Str} {sp : Sp} {E : L2.St → XK} {x m : Str} {p pos apos : Pos} {e o : Expr} {es : List Expr} {ta : TE} {t : TA}
/-- o.m(e, ..), what is raised wished for at the caller's slots -/
def tMethS (C : Addr) (m : Str) (sp : Sp) (E : L2.St → XK) (ta : TE) (t : TA) : TE := fun σ H Q => ta σ H fun x H1 => ∃ a dx fs, x = .ref a ∧ H1 a = some (.ins C dx fs) ∧ fs.lookup m = none ∧ t σ H1 fun vs H2 => sp (x :: vs) H2 Q (E σ)
theorem pe_methSS {pl : Sem Bool} (he : PE X o ta) (c : Cls X.K C) (hm : Meth X.K C m f) (F : FnOk X.prog X.w X.K X.mg X.base (L2.CX X.prog X.w) k f fd ps sp) (hr : Room k X.A) (hb : Binds X.K fd ps []) (hx : ∀ σ, PassesAt (L2.CX X.prog X.w) X σ (E σ)) (ha : PA X (e :: es) t)
    (hst : starEach (e :: es) X.env = (false, eval e X.env) :: starEach es X.env) (hpl : (backTo pos (starEach es X.env)).any (·.1) = false)
    (ht : eval (.Call (.Attribute o m apos) (e :: es) [] pos) X.env = (do
      let ov ← eval o X.env
      standAt apos.atName
      let (f, first) ← holding [ov] (getMethod ov m pl)
      callWith pos f first (backTo pos (starEach (e :: es) X.env)) (backToKw pos (keywordEach [] X.env)))) :
    PE X (.Call (.Attribute o m apos) (e :: es) [] pos) (tMethS C m sp E ta t) := by
  refine ⟨fun pins s σ H Q I h => PySem.W.methodCall_KW (pl := pl) (thn (he.run pins s σ H _ I h) fun u s1 ⟨x, H1, I1, rx, a, dx, fs, ex, ea, l, q⟩ => ?_) ht⟩
  subst ex
  cases (show u = Value.ref a from rx)
  refine getmeth_ok I1 ea c hm l (PySem.W.callWith_K (first := [.ref a]) (h₀ := X.base) I.ok.mod.kin hm.kp (thn (ha.run pos pins s1 σ H1 _ I1 q) fun us s2 ⟨vs, H2, I2, r, q2⟩ => ⟨I2.kIn, ?_⟩) hst hpl)
  exact run_fnS (us := .ref a :: us) (vs := .ref a :: vs) F hr hb (hx σ) I2 (.cons rfl r) q2
theorem pe_methSS0 {pl : Sem Bool} (he : PE X o ta) (c : Cls X.K C) (hm : Meth X.K C m f) (F : FnOk X.prog X.w X.K X.mg X.base (L2.CX X.prog X.w) k f fd ps sp) (hr : Room k X.A) (hb : Binds X.K fd ps []) (hx : ∀ σ, PassesAt (L2.CX X.prog X.w) X σ (E σ))
    (ht : eval (.Call (.Attribute o m apos) [] [] pos) X.env = (do
      let ov ← eval o X.env
      standAt apos.atName
      let (f, first) ← holding [ov] (getMethod ov m pl)
      callWith pos f first (backTo pos (starEach [] X.env)) (backToKw pos (keywordEach [] X.env)))) :
    PE X (.Call (.Attribute o m apos) [] [] pos) (tMethS C m sp E ta tNil) := by
  refine ⟨fun pins s σ H Q I h => PySem.W.methodCall_KW (pl := pl) (thn (he.run pins s σ H _ I h) fun u s1 ⟨x, H1, I1, rx, a, dx, fs, ex, ea, l, q⟩ => ?_) ht⟩
  subst ex
  cases (show u = Value.ref a from rx)
  exact getmeth_ok I1 ea c hm l (PySem.W.callWith_K0 (first := [.ref a]) I1.kIn hm.kp (run_fnS (us := [.ref a]) (vs := [.ref a]) F hr hb (hx σ) I1 (.cons rfl .nil) q))
def tMakeS (C : Addr) (sp : Sp) (E : L2.St → XK) (t : TA) : TE := fun σ H Q => t σ H fun vs H1 => ∀ x dx, H1 x = none → H1 dx = none → dx ≠ x → sp (.ref x :: vs) (upd (upd H1 dx (.own x)) x (.ins C dx [])) (fun v H2 => v = .non ∧ Q (.ref x) H2) (E σ)
theorem run_makeS {pins : List (Addr × Obj)} {σ : L2.St} {H : Hp} {s : Shared} {Q : VK} {us : List Value} {vs : List V} (M : Mk X.K C f) (F : FnOk X.prog X.w X.K X.mg X.base (L2.CX X.prog X.w) k f fd ps sp) (hr : Room (k + 1) X.A) (hb : Binds X.K fd ps [])
    (hx : PassesAt (L2.CX X.prog X.w) X σ (E σ)) (I : Inv X pins σ H s) (r : Vals vs us)
    (h : ∀ x dx, H x = none → H dx = none → dx ≠ x → sp (.ref x :: vs) (upd (upd H dx (.own x)) x (.ins C dx [])) (fun v H2 => v = .non ∧ Q (.ref x) H2) (E σ)) :
    wpAny (model X.prog X.w) X.A (call (.ref C) us) (EP X pins σ Q) X.xe s := by
  have nx := I.hok.fresh (Nat.le_succ s.heap.objs.size)
  have nd := I.hok.fresh (Nat.le_refl s.heap.objs.size)
  have ne : s.heap.objs.size ≠ s.heap.objs.size + 1 := Nat.ne_of_lt (Nat.lt_succ_self _)
  have hq := h _ _ nx nd ne
  have J := Inv.made (C := C) I
  have r2 : Vals (V.ref (s.heap.objs.size + 1) :: vs) (Value.ref (s.heap.objs.size + 1) :: us) := .cons rfl r
  have hl : (Value.ref (s.heap.objs.size + 1) :: us).length = ps.length := r2.length.symm.trans (F.len _ _ _ _ hq)
  have bd := hb { s with heap := (s.heap.push PySem.W.emptyDict).push (PySem.W.instObj C s.heap.objs.size) } (Value.ref (s.heap.objs.size + 1) :: us) J.kIn (by rw [List.append_nil]; exact hl)
  rw [List.append_nil] at bd
  refine wpAny_call (make_map (f := f) I.kIn M.makes M.init (beq_iff_eq.mp M.fn) (codeAny_mono (F.run _ X.stack _ _ _ _ _ _ (E σ) (hr.make C us []) (J.env0.make C us []) bd r2 hq) fun z s' hz => ?_))
  match z, hz with
  | .error e, hz => exact hx pins _ _ e s' J hz
  | .ok (.ret u), hz =>
    obtain ⟨v, H', J3, rv, ev, q3⟩ := J.after hz
    subst ev
    exact ⟨rv, ⟨V.ref _, H', J3, rfl, q3⟩⟩
  | .ok .next, hz => exact hz.elim
  | .ok .brk, hz => exact hz.elim
  | .ok .cont, hz => exact hz.elim
theorem pe_makeS (M : Mk X.K C f) (F : FnOk X.prog X.w X.K X.mg X.base (L2.CX X.prog X.w) k f fd ps sp) (hr : Room (k + 1) X.A) (hg : Gl X x) (hm : X.mg x = some (.ref C)) (hb : Binds X.K fd ps []) (hx : ∀ σ, PassesAt (L2.CX X.prog X.w) X σ (E σ))
    (ha : PA X (e :: es) t) (hdb : (x == ("__debug__" : Str)) = false := by decide) (he : starEach (e :: es) X.env = (false, eval e X.env) :: starEach es X.env := by rfl) (hpl : (backTo pos (starEach es X.env)).any (·.1) = false := by rfl) :
    PE X (.Call (.Name x p) (e :: es) [] pos) (tMakeS C sp E t) :=
  ⟨fun pins s σ H Q I h => wpAny_Call_Name_kw (ld_glob I hg hm (PySem.W.callWith_K (h₀ := X.base) I.ok.mod.kin M.kp (thn (ha.run pos pins s σ H _ I h) fun us s1 ⟨vs, H1, I1, r, q⟩ => ⟨I1.kIn, run_makeS M F hr hb (hx σ) I1 r q⟩) he hpl) hdb)⟩
end

/-! ### calls by mirrors -/
def eCall (n : Nat) (mf : List D → Res (P × D)) (ms : ADen) : EDen := fun e => (ms e).bind fun a => (ofO (frzs a.1 a.2)).bind fun z => if z.1.length = n then outV (mf z.1) z.2 else .stuck
/-- f(x, ..), x a name whose own object may change -/
def eCallI (n i : Nat) (mf : List D → Res (P × D)) (ms : ADen) : EDen := fun e => match (e[i]? : Option Sl) with
  | some (Sl.ow _) => (ms e).bind fun a => (ofO (frzs a.1 a.2)).bind fun z => match (z.2[i]? : Option Sl) with
    | some (Sl.ow d0) => if z.1.length + 1 = n then outI i (mf (d0 :: z.1)) z.2 else .stuck
    | _ => .stuck
  | _ => .stuck
def hasNo (m : Str) (fs : List (Str × D)) : Bool := !(fs.map (·.1)).contains m
def isObj (c : Nat) (m : Str) : D → Bool
  | .obj c' fs => decide (c' = c) && hasNo m fs
  | _ => false
/-- o.m(..), o data of the class c -/
def eMeth (c : Nat) (m : Str) (n : Nat) (mf : List D → Res (P × D)) (mo : EDen) (ms : ADen) : EDen := fun e => (mo e).bind fun o => (ofO (o.1.vw o.2)).bind fun d => if isObj c m d then (ms o.2).bind fun a => (ofO (frzs (o.1.fz :: a.1) a.2)).bind fun z => if z.1.length = n then outV (mf z.1) z.2 else .stuck else .stuck
/-- .. o a name whose own object may change -/
def eMethI (c : Nat) (m : Str) (n i : Nat) (mf : List D → Res (P × D)) (ms : ADen) : EDen := fun e => match (e[i]? : Option Sl) with
  | some (Sl.ow d) => if isObj c m d then (ms e).bind fun a => (ofO (frzs a.1 a.2)).bind fun z => match (z.2[i]? : Option Sl) with
      | some (Sl.ow d0) => if z.1.length + 1 = n then outI i (mf (d0 :: z.1)) z.2 else .stuck
      | _ => .stuck
    else .stuck
  | _ => .stuck
def outK (r : Res (P × D)) (e : DEnv) : Res (P × DEnv) := match r with
  | .ok (.d .non, d1) => .ok (.n d1, e)
  | .err c f _ => .err c f e
  | _ => .stuck
/-- C(..) -/
def eMake (c n : Nat) (mf : List D → Res (P × D)) (ms : ADen) : EDen := fun e => (ms e).bind fun a => (ofO (frzs a.1 a.2)).bind fun z => if z.1.length + 1 = n then outK (mf (.obj c [] :: z.1)) z.2 else .stuck
theorem lookup_no {β : Type} {m : Str} : ∀ {fs : List (Str × β)}, (fs.map (·.1)).contains m = false → fs.lookup m = none
  | [], _ => rfl
  | (k, v) :: r, h => by
    rw [List.map_cons, List.contains_cons, Bool.or_eq_false_iff] at h
    rw [List.lookup_cons, h.1]
    exact lookup_no h.2
theorem isObj_view {g : G} {H : Hp} {O : List Addr} {c : Nat} {m : Str} {d : D} {v : V} (e : isObj c m d = true) (h : View g H O d v) : ∃ a dx gs, v = .ref a ∧ H a = some (.ins (g.C c) dx gs) ∧ gs.lookup m = none := by
  cases d with
  | obj c' fs =>
    simp only [isObj, Bool.and_eq_true, decide_eq_true_eq] at e
    obtain ⟨rfl, e2⟩ := e
    obtain ⟨a, dx, gs, h1, h2, h3, _⟩ := h.obj
    refine ⟨a, dx, gs, h1, h2, lookup_no ?_⟩
    rw [h3]
    simpa [hasNo] using e2
  | _ => cases e
section
variable {g : G} {W : WX} {X : Cx} {k n N c i : Nat} {mf : Nat → List D → Res (P × D)} {x m : Str} {p p0 pos apos : Pos} {e o : Expr} {es : List Expr} {mo : EDen} {ms : ADen}
theorem PostE.ofO {b : Bas} {σ : L2.St} {H : Hp} {O : List Addr} {α : Type} {r : Option α} {k : α → Res (P × DEnv)} {Q : VK} (h : PostE g W b σ H O ((MM.ofO r).bind k) Q) : ∃ a, r = some a ∧ PostE g W b σ H O (k a) Q := by
  cases r with
  | none => exact h.elim
  | some a => exact ⟨a, rfl, h⟩
theorem PostE.iff {b : Bas} {σ : L2.St} {H : Hp} {O : List Addr} {q : Prop} [Decidable q] {r : Res (P × DEnv)} {Q : VK} (h : PostE g W b σ H O (if q then r else .stuck) Q) : q ∧ PostE g W b σ H O r Q := by
  by_cases z : q
  · rw [if_pos z] at h; exact ⟨z, h⟩
  · rw [if_neg z] at h; exact h.elim
/-- what a call asks of its callee, behind the arguments -/
theorem callee_post {b : Bas} {σ : L2.St} {H : Hp} {O : List Addr} {env : DEnv} {vs : List V} {qs : List P} {Q : VK} (R : REnv g b H O σ env) (rs : RPs g b H O σ env qs vs)
    (h : PostE g W b σ H O ((MM.ofO (frzs qs env)).bind fun z => if z.1.length = n then outV (mf N z.1) z.2 else .stuck) Q) : spF g n mf vs H Q (WE W σ) := by
  obtain ⟨⟨ds, e2⟩, hz, h2⟩ := h.ofO
  obtain ⟨O2, x2, R2, r2⟩ := frzs_ok R rs hz
  obtain ⟨hl, h2⟩ := h2.iff
  exact ⟨r2.len.symm.trans hl, N, sp_of_post R2 r2 (h2.le x2.le)⟩
theorem calleeI_post {b : Bas} {σ : L2.St} {H : Hp} {O : List Addr} {env : DEnv} {v : V} {vs : List V} {qs : List P} {Q : VK} (R : REnv g b H O σ env) (hv : σ[i]? = some (some v)) (rs : RPs g b H O σ env qs vs)
    (h : PostE g W b σ H O ((MM.ofO (frzs qs env)).bind fun z => match (z.2[i]? : Option Sl) with
      | some (Sl.ow d0) => if z.1.length + 1 = n then outI i (mf N (d0 :: z.1)) z.2 else .stuck
      | _ => .stuck) Q) : spJ g n mf (v :: vs) H Q (WE W σ) := by
  obtain ⟨⟨ds, e2⟩, hz, h2⟩ := h.ofO
  obtain ⟨O2, x2, R2, r2⟩ := frzs_ok R rs hz
  simp only at h2
  split at h2
  · rename_i d0 he
    obtain ⟨hl, h2⟩ := h2.iff
    obtain ⟨a, q1, _⟩ := R2.ow i d0 he
    rw [hv] at q1; cases q1
    exact ⟨by rw [List.length_cons, ← r2.len]; exact hl, N, spI_of_post R2 he hv r2 (h2.le x2.le)⟩
  · exact h2.elim
theorem x_call (cal : CalF X.prog X.w X.K X.mg X.base x n k (spF g n mf)) (N : Nat) (hr : Room k X.A) (hx : Lets X W) (ha : PA X (e :: es) (rA g W ms)) (hg : Gl X x := by rfl)
    (hdb : (x == ("__debug__" : Str)) = false := by decide) (he : starEach (e :: es) X.env = (false, eval e X.env) :: starEach es X.env := by rfl) (hpl : (backTo pos (starEach es X.env)).any (·.1) = false := by rfl) :
    PE X (.Call (.Name x p) (e :: es) [] pos) (rE g W (eCall n (mf N) ms)) := by
  obtain ⟨f, fd, ps, hn, F, hm, hk, hb⟩ := cal
  refine pe_weak (pe_callS F hr hg hm hk hb (fun σ => passAt hx σ) ha hdb he hpl) fun σ H Q ⟨b, O, env, R, h⟩ => (rA.bindE (m := ms) R h).mono fun vs H1 ⟨O1, qs, e1, l1, R1, rs, h1⟩ => ?_
  exact callee_post R1 rs h1
theorem x_callI (i : Nat) (cal : CalF X.prog X.w X.K X.mg X.base x n k (spJ g n mf)) (N : Nat) (hr : Room k X.A) (hx : Lets X W) {y : Str} {py : Pos} (ha : PA X es (rA g W ms)) (hN : X.N[i]? = some y := by rfl) (hg : Gl X x := by rfl)
    (hv : Vis X.env.scope y := by first | exact Or.inl rfl | exact Or.inr (Or.inl rfl) | exact Or.inr (Or.inr rfl)) (hd : (y == ("__debug__" : Str)) = false := by decide) (hcd : (y == ("__classdict__" : Str)) = false := by decide)
    (hs : starEach (.Name y py :: es) X.env = (false, eval (.Name y py) X.env) :: starEach es X.env := by rfl)
    (hdb : (x == ("__debug__" : Str)) = false := by decide) (hpl : (backTo pos (starEach es X.env)).any (·.1) = false := by rfl) :
    PE X (.Call (.Name x p) (.Name y py :: es) [] pos) (rE g W (eCallI n i (mf N) ms)) := by
  obtain ⟨f, fd, ps, hn, F, hm, hk, hb⟩ := cal
  refine pe_weak (pe_callS F hr hg hm hk hb (fun σ => passAt hx σ) (pa_cons (pe_var (i := i) hN hv hd hcd) ha hs) hdb hs hpl) fun σ H Q ⟨b, O, env, R, h⟩ => ?_
  unfold eCallI at h
  split at h
  · rename_i d0 he
    obtain ⟨a, q1, _⟩ := R.ow i d0 he
    refine ⟨_, q1, (rA.bindE (m := ms) R h).mono fun vs H1 ⟨O1, qs, e1, l1, R1, rs, h1⟩ => ?_⟩
    exact calleeI_post R1 q1 rs h1
  · exact h.elim
theorem x_meth {pl : Sem Bool} (c : Nat) (cal : CalM X.prog X.w X.K X.mg X.base (g.C c) m n k (spF g n mf)) (N : Nat) (hr : Room k X.A) (hx : Lets X W) (ho : PE X o (rE g W mo)) (ha : PA X (e :: es) (rA g W ms))
    (hst : starEach (e :: es) X.env = (false, eval e X.env) :: starEach es X.env := by rfl) (hpl : (backTo pos (starEach es X.env)).any (·.1) = false := by rfl)
    (ht : eval (.Call (.Attribute o m apos) (e :: es) [] pos) X.env = (do
      let ov ← eval o X.env
      standAt apos.atName
      let (f, first) ← holding [ov] (getMethod ov m pl)
      callWith pos f first (backTo pos (starEach (e :: es) X.env)) (backToKw pos (keywordEach [] X.env))) := by rfl) :
    PE X (.Call (.Attribute o m apos) (e :: es) [] pos) (rE g W (eMeth c m n (mf N) mo ms)) := by
  obtain ⟨hc, f, fd, ps, hn, F, hm, hb⟩ := cal
  refine pe_weak (pe_methSS (E := WE W) ho hc hm F hr hb (fun σ => passAt hx σ) ha hst hpl ht) fun σ H Q ⟨b, O, env, R, h⟩ => (rE.bindE (m := mo) R h).mono fun v H1 ⟨O1, q, e1, M, h1⟩ => ?_
  obtain ⟨d, hd, h1⟩ := h1.ofO
  obtain ⟨hi, h1⟩ := h1.iff
  obtain ⟨a, dx, gs, rfl, q1, q2⟩ := isObj_view hi (vw_ok M.env M.rep hd)
  obtain ⟨O2, x2, R2, r2⟩ := fz_ok M.env M.rep
  refine ⟨a, dx, gs, rfl, q1, q2, (rA.bindE (m := ms) R2 (h1.le x2.le)).mono fun vs H3 ⟨O3, qs, e3, l3, R3, rs, h3⟩ => ?_⟩
  exact callee_post R3 (.cons q.fz_old (r2.move q.fz_old l3) rs) h3
theorem x_meth0 {pl : Sem Bool} (c : Nat) (cal : CalM X.prog X.w X.K X.mg X.base (g.C c) m n k (spF g n mf)) (N : Nat) (hr : Room k X.A) (hx : Lets X W) (ho : PE X o (rE g W mo))
    (ht : eval (.Call (.Attribute o m apos) [] [] pos) X.env = (do
      let ov ← eval o X.env
      standAt apos.atName
      let (f, first) ← holding [ov] (getMethod ov m pl)
      callWith pos f first (backTo pos (starEach [] X.env)) (backToKw pos (keywordEach [] X.env))) := by rfl) :
    PE X (.Call (.Attribute o m apos) [] [] pos) (rE g W (eMeth c m n (mf N) mo aNil)) := by
  obtain ⟨hc, f, fd, ps, hn, F, hm, hb⟩ := cal
  refine pe_weak (pe_methSS0 (E := WE W) ho hc hm F hr hb (fun σ => passAt hx σ) ht) fun σ H Q ⟨b, O, env, R, h⟩ => (rE.bindE (m := mo) R h).mono fun v H1 ⟨O1, q, e1, M, h1⟩ => ?_
  obtain ⟨d, hd, h1⟩ := h1.ofO
  obtain ⟨hi, h1⟩ := h1.iff
  obtain ⟨a, dx, gs, rfl, q1, q2⟩ := isObj_view hi (vw_ok M.env M.rep hd)
  obtain ⟨O2, x2, R2, r2⟩ := fz_ok M.env M.rep
  exact ⟨a, dx, gs, rfl, q1, q2, callee_post R2 (.cons q.fz_old r2 .nil) (h1.le x2.le)⟩
theorem x_methI {pl : Sem Bool} (c i : Nat) (cal : CalM X.prog X.w X.K X.mg X.base (g.C c) m n k (spJ g n mf)) (N : Nat) (hr : Room k X.A) (hx : Lets X W) {y : Str} {py : Pos} (ha : PA X (e :: es) (rA g W ms)) (hN : X.N[i]? = some y := by rfl)
    (hv : Vis X.env.scope y := by first | exact Or.inl rfl | exact Or.inr (Or.inl rfl) | exact Or.inr (Or.inr rfl)) (hd : (y == ("__debug__" : Str)) = false := by decide) (hcd : (y == ("__classdict__" : Str)) = false := by decide)
    (hst : starEach (e :: es) X.env = (false, eval e X.env) :: starEach es X.env := by rfl) (hpl : (backTo pos (starEach es X.env)).any (·.1) = false := by rfl)
    (ht : eval (.Call (.Attribute (.Name y py) m apos) (e :: es) [] pos) X.env = (do
      let ov ← eval (.Name y py) X.env
      standAt apos.atName
      let (f, first) ← holding [ov] (getMethod ov m pl)
      callWith pos f first (backTo pos (starEach (e :: es) X.env)) (backToKw pos (keywordEach [] X.env))) := by rfl) :
    PE X (.Call (.Attribute (.Name y py) m apos) (e :: es) [] pos) (rE g W (eMethI c m n i (mf N) ms)) := by
  obtain ⟨hc, f, fd, ps, hn, F, hm, hb⟩ := cal
  refine pe_weak (pe_methSS (E := WE W) (pe_var (i := i) hN hv hd hcd) hc hm F hr hb (fun σ => passAt hx σ) ha hst hpl ht) fun σ H Q ⟨b, O, env, R, h⟩ => ?_
  unfold eMethI at h
  split at h
  · rename_i d0 he
    obtain ⟨a, q1, _, _, _, w⟩ := R.ow i d0 he
    obtain ⟨hi, h⟩ := h.iff
    obtain ⟨a', dx, gs, ea, q2, q3⟩ := isObj_view hi (.inr ⟨a, rfl, w⟩)
    cases ea
    refine ⟨_, q1, a, dx, gs, rfl, q2, q3, (rA.bindE (m := ms) R h).mono fun vs H1 ⟨O1, qs, e1, l1, R1, rs, h1⟩ => ?_⟩
    exact calleeI_post R1 q1 rs h1
  · exact h.elim
theorem x_methI0 {pl : Sem Bool} (c i : Nat) (cal : CalM X.prog X.w X.K X.mg X.base (g.C c) m n k (spJ g n mf)) (N : Nat) (hr : Room k X.A) (hx : Lets X W) {y : Str} {py : Pos} (hN : X.N[i]? = some y := by rfl)
    (hv : Vis X.env.scope y := by first | exact Or.inl rfl | exact Or.inr (Or.inl rfl) | exact Or.inr (Or.inr rfl)) (hd : (y == ("__debug__" : Str)) = false := by decide) (hcd : (y == ("__classdict__" : Str)) = false := by decide)
    (ht : eval (.Call (.Attribute (.Name y py) m apos) [] [] pos) X.env = (do
      let ov ← eval (.Name y py) X.env
      standAt apos.atName
      let (f, first) ← holding [ov] (getMethod ov m pl)
      callWith pos f first (backTo pos (starEach [] X.env)) (backToKw pos (keywordEach [] X.env))) := by rfl) :
    PE X (.Call (.Attribute (.Name y py) m apos) [] [] pos) (rE g W (eMethI c m n i (mf N) aNil)) := by
  obtain ⟨hc, f, fd, ps, hn, F, hm, hb⟩ := cal
  refine pe_weak (pe_methSS0 (E := WE W) (pe_var (i := i) hN hv hd hcd) hc hm F hr hb (fun σ => passAt hx σ) ht) fun σ H Q ⟨b, O, env, R, h⟩ => ?_
  unfold eMethI at h
  split at h
  · rename_i d0 he
    obtain ⟨a, q1, _, _, _, w⟩ := R.ow i d0 he
    obtain ⟨hi, h⟩ := h.iff
    obtain ⟨a', dx, gs, ea, q2, q3⟩ := isObj_view hi (.inr ⟨a, rfl, w⟩)
    cases ea
    exact ⟨_, q1, a, dx, gs, rfl, q2, q3, calleeI_post R q1 .nil h⟩
  · exact h.elim
theorem x_make (c : Nat) (cal : CalC X.prog X.w X.K X.mg X.base (g.C c) x n k (spJ g n mf)) (N : Nat) (hr : Room (k + 1) X.A) (hx : Lets X W) (ha : PA X (e :: es) (rA g W ms)) (hg : Gl X x := by rfl)
    (hdb : (x == ("__debug__" : Str)) = false := by decide) (he : starEach (e :: es) X.env = (false, eval e X.env) :: starEach es X.env := by rfl) (hpl : (backTo pos (starEach es X.env)).any (·.1) = false := by rfl) :
    PE X (.Call (.Name x p) (e :: es) [] pos) (rE g W (eMake c n (mf N) ms)) := by
  obtain ⟨hm, f, fd, ps, hn, F, M, hb⟩ := cal
  refine pe_weak (pe_makeS (E := WE W) M F hr hg hm hb (fun σ => passAt hx σ) ha hdb he hpl) fun σ H Q ⟨b, O, env, R, h⟩ => (rA.bindE (m := ms) R h).mono fun vs H1 ⟨O1, qs, e1, l1, R1, rs, h1⟩ => ?_
  intro a dx na ndx ne
  obtain ⟨⟨ds, e2⟩, hz, h2⟩ := h1.ofO
  obtain ⟨O2, x2, R2, r2⟩ := frzs_ok R1 rs hz
  obtain ⟨hl, h2⟩ := h2.iff
  have h3 := h2.le x2.le
  have E2 : Ext H1 (upd (upd H1 dx (.own a)) a (.ins (g.C c) dx [])) := (Ext.new ndx).trans (Ext.new (by rw [upd_ne (Ne.symm ne)]; exact na))
  have nO : a ∉ O2 := fun z => R2.occ a z na
  refine ⟨by rw [List.length_cons, ← r2.len]; exact hl, N, a, vs, .obj c [], ds, a :: O2, rfl, fun c' hc => ?_, List.mem_cons_self, ⟨dx, [], upd_same, rfl, .nil⟩, r2.le (got_le E2 na).le, ?_⟩
  · rcases List.mem_cons.mp hc with rfl | hc
    · rw [upd_same]; trivial
    · exact (R2.hd c' hc).keep (E2 c')
  · have up : ∀ {H'}, ExtB a (upd (upd H1 dx (.own a)) a (.ins (g.C c) dx [])) H' → Ext H1 H' := fun x c' o z => x c' o (fun q => by rw [q, na] at z; cases z) (E2 c' o z)
    revert h3
    simp only
    cases mf N (.obj c [] :: ds) with
    | stuck => exact fun h => h
    | err c' f' e' => exact fun h cls dd H' x q => h cls dd H' O2 (hide_ext (up x)).le (R2.ext (up x)).drop q
    | ok z =>
      obtain ⟨p, d1⟩ := z
      cases p with
      | n d => exact fun h => h.elim
      | s j => exact fun h => h.elim
      | d d =>
        cases d with
        | non =>
          intro h v H' x w rv
          cases (show Rep g (hide H' (a :: O2)) .non v from rv)
          have G2 := R2.gotV (up x) na w
          exact ⟨rfl, h (.ref a) H' (a :: O2) (got_le (up x) na).le G2.1 ⟨a, rfl, G2.2⟩⟩
        | _ => exact fun h => h.elim
end
end MM

set_option maxHeartbeats 2000000
namespace MM
open PySem PySem.Spec PyProof.Rows L2

/-! ### operators on arguments -/
def eFnA (f : List P → DEnv → Res (P × DEnv)) (ms : ADen) : EDen := fun e => (ms e).bind fun a => f a.1 a.2
def fA (k : List D → Option D) (ps : List P) (e : DEnv) : Res (P × DEnv) := (ofO (vws ps e)).bind fun x => (ofO (k x)).bind fun z => .ok (.d z, e)
def nA (k : List D → Option D) (ps : List P) (e : DEnv) : Res (P × DEnv) := (ofO (vws ps e)).bind fun x => (ofO (k x)).bind fun z => .ok (.n z, e)
def OpA (g : G) (r : List V → Hp → VK → Prop) (f : List P → DEnv → Res (P × DEnv)) : Prop := ∀ W b H O σ e ps vs Q, REnv g b H O σ e → RPs g b H O σ e ps vs → PostE g W b σ H O (f ps e) Q → r vs H Q
section
variable {g : G} {W : WX} {X : Cx} {pos p : Pos} {x : Str} {e : Expr} {es : List Expr} {ms : ADen} {r : List V → Hp → VK → Prop} {f : List P → DEnv → Res (P × DEnv)}
theorem fA_op {k : List D → Option D}
    (h : ∀ H O ds z vs Q, (∀ a, a ∈ O → H a ≠ none) → Views g H O ds vs → k ds = some z → (∀ v H', Ext H H' → Rep g (hide H' O) z v → Q v H') → r vs H Q) : OpA g r (fA k) := fun W b H O σ e ps vs Q R rp q => by
  unfold fA at q
  obtain ⟨ds, hx, q⟩ := q.ofO
  obtain ⟨z, hz, q⟩ := q.ofO
  exact h H O ds z vs Q R.occ (vws_ok R rp hx) hz (endD R q)
theorem nA_op {k : List D → Option D}
    (h : ∀ H O ds z vs Q, (∀ a, a ∈ O → H a ≠ none) → Views g H O ds vs → k ds = some z → (∀ a o, H a = none → OwnAt g (upd H a o) (a :: O) z a → Q (.ref a) (upd H a o)) → r vs H Q) : OpA g r (nA k) := fun W b H O σ e ps vs Q R rp q => by
  unfold nA at q
  obtain ⟨ds, hx, q⟩ := q.ofO
  obtain ⟨z, hz, q⟩ := q.ofO
  exact h H O ds z vs Q R.occ (vws_ok R rp hx) hz (endN R q)
theorem dA_op {k : List D → Option D}
    (h : ∀ H O ds z vs Q, (∀ a, a ∈ O → H a ≠ none) → Views g H O ds vs → k ds = some z → (∀ v H', Ext H H' → Rep g (hide H' O) z v → Q v H') → (∀ a o, H a = none → OwnAt g (upd H a o) (a :: O) z a → Q (.ref a) (upd H a o)) → r vs H Q) : OpA g r (fA k) := fun W b H O σ e ps vs Q R rp q => by
  unfold fA at q
  obtain ⟨ds, hx, q⟩ := q.ofO
  obtain ⟨z, hz, q⟩ := q.ofO
  exact h H O ds z vs Q R.occ (vws_ok R rp hx) hz (endD R q) (endN' R q)
theorem tCB_of (hr : OpA g r f) {σ : L2.St} {H : Hp} {Q : VK} (h : rE g W (eFnA f ms) σ H Q) : tCB r (rA g W ms) σ H Q := by
  obtain ⟨b, O, env, R, h⟩ := h
  exact (rA.bindE (m := ms) R h).mono fun vs H1 ⟨O1, ps, e1, l1, R1, rs, h1⟩ => hr W b H1 O1 σ e1 ps vs Q R1 rs h1
theorem x_blt {id : String} (hc : CallR X (.builtin id) r) (hr : OpA g r f) (hv : bootBuiltins x = some (.builtin id)) (hm : X.mg x = none) (ha : PA X (e :: es) (rA g W ms)) (hg : Gl X x := by rfl) (hn : x ≠ "__name__" := by decide) (hdb : (x == ("__debug__" : Str)) = false := by decide)
    (he : starEach (e :: es) X.env = (false, eval e X.env) :: starEach es X.env := by rfl) (hpl : (backTo pos (starEach es X.env)).any (·.1) = false := by rfl) : PE X (.Call (.Name x p) (e :: es) [] pos) (rE g W (eFnA f ms)) :=
  pe_weak (pe_callB hc hg hm hv ha hn hdb he hpl) fun σ H Q h => tCB_of hr h
theorem x_ty {T : String} (hc : CallR X (.type T) r) (hr : OpA g r f) (hv : bootBuiltins x = some (.type T)) (hm : X.mg x = none) (ha : PA X (e :: es) (rA g W ms)) (hg : Gl X x := by rfl) (hn : x ≠ "__name__" := by decide) (hdb : (x == ("__debug__" : Str)) = false := by decide)
    (he : starEach (e :: es) X.env = (false, eval e X.env) :: starEach es X.env := by rfl) (hpl : (backTo pos (starEach es X.env)).any (·.1) = false := by rfl) : PE X (.Call (.Name x p) (e :: es) [] pos) (rE g W (eFnA f ms)) :=
  pe_weak (pe_callTy hc hg hm hv ha hn hdb he hpl) fun σ H Q h => tCB_of hr h
end
/-! ### sequences that are read -/
def asL : D → Option (List D)
  | .lst l => some l
  | .scr ns => some (ns.map .int)
  | _ => none
def asT : D → Option (List D)
  | .tup l => some l
  | _ => none
section
variable {g : G} {H : Hp} {O : List Addr} {d : D} {v : V} {l : List D}
theorem View.asL (h : View g H O d v) (e : MM.asL d = some l) : ∃ a xs, v = .ref a ∧ SqL g.K H a xs ∧ Reps g (hide H O) l xs := by
  cases d <;> simp only [MM.asL] at e <;> cases e
  · obtain ⟨a, xs, h1, h2, h3⟩ := h.lst
    exact ⟨a, xs, h1, SqL.of h2, h3⟩
  · rename_i ns
    obtain ⟨a, h1, h2⟩ := h.scr
    exact ⟨a, _, h1, h2, Reps.ints ns⟩
theorem View.asT (h : View g H O d v) (e : MM.asT d = some l) : ∃ a xs, v = .ref a ∧ SqT g.K H a xs ∧ Reps g (hide H O) l xs := by
  cases d <;> simp only [MM.asT] at e <;> cases e
  exact h.tup
theorem Views.one {vs : List V} (h : Views g H O [d] vs) : ∃ v, vs = [v] ∧ View g H O d v := by
  cases h with
  | cons h1 h2 => cases h2; exact ⟨_, rfl, h1⟩
theorem Views.two {d' : D} {vs : List V} (h : Views g H O [d, d'] vs) : ∃ v w, vs = [v, w] ∧ View g H O d v ∧ View g H O d' w := by
  cases h with
  | cons h1 h2 => obtain ⟨w, rfl, h3⟩ := h2.one; exact ⟨_, _, rfl, h1, h3⟩
end
def d1 (k : D → Option D) : List D → Option D
  | [x] => k x
  | _ => none
def d2 (k : D → D → Option D) : List D → Option D
  | [x, y] => k x y
  | _ => none
theorem d1_some {k : D → Option D} {ds : List D} {z : D} (h : d1 k ds = some z) : ∃ x, ds = [x] ∧ k x = some z := by
  match ds, h with
  | [x], h => exact ⟨x, rfl, h⟩
theorem d2_some {k : D → D → Option D} {ds : List D} {z : D} (h : d2 k ds = some z) : ∃ x y, ds = [x, y] ∧ k x y = some z := by
  match ds, h with
  | [x, y], h => exact ⟨x, y, rfl, h⟩
theorem v1 {g : G} {H : Hp} {O : List Addr} {k : D → Option D} {ds : List D} {z : D} {vs : List V} (h : d1 k ds = some z) (hv : Views g H O ds vs) : ∃ x v, vs = [v] ∧ k x = some z ∧ View g H O x v := by
  obtain ⟨x, e, h'⟩ := d1_some h
  rw [e] at hv
  obtain ⟨v, e2, h2⟩ := hv.one
  exact ⟨x, v, e2, h', h2⟩
theorem v2 {g : G} {H : Hp} {O : List Addr} {k : D → D → Option D} {ds : List D} {z : D} {vs : List V} (h : d2 k ds = some z) (hv : Views g H O ds vs) : ∃ x y v w, vs = [v, w] ∧ k x y = some z ∧ View g H O x v ∧ View g H O y w := by
  obtain ⟨x, y, e, h'⟩ := d2_some h
  rw [e] at hv
  obtain ⟨v, w, e2, h2, h3⟩ := hv.two
  exact ⟨x, y, v, w, e2, h', h2, h3⟩

/-! ### len -/
def kLen : D → Option D
  | .str s => if s.length ≤ 16777216 then some (.int s.length) else none
  | .lst l => some (.int l.length)
  | .tup l => some (.int l.length)
  | .scr l => some (.int l.length)
  | _ => none
theorem len_op {g : G} : OpA g (fun xs H Q => ∃ x n, xs = [x] ∧ LenV g.K x H n ∧ Q (.int n) H) (fA (d1 kLen)) := fA_op fun H O ds z vs Q _ hv hz q => by
  obtain ⟨d, v, rfl, kz, vv⟩ := v1 hz hv
  cases d <;> simp only [kLen] at kz <;> try cases kz
  · rename_i s
    split at kz
    · rename_i hs
      cases kz
      rw [vv.str]
      exact ⟨_, _, rfl, ⟨by rw [sizeLine_eq]; exact hs, rfl⟩, q _ _ (Ext.refl _) .int⟩
    · cases kz
  · obtain ⟨a, xs, rfl, h1, h2⟩ := vv.asT (l := _) rfl
    exact ⟨_, _, rfl, .inr ⟨xs, h1, rfl⟩, q _ _ (Ext.refl _) (by rw [h2.len]; exact .int)⟩
  · obtain ⟨a, xs, rfl, h1, h2⟩ := vv.asL (l := _) rfl
    exact ⟨_, _, rfl, .inl ⟨xs, h1, rfl⟩, q _ _ (Ext.refl _) (by rw [h2.len]; exact .int)⟩
  · obtain ⟨a, xs, rfl, h1, h2⟩ := vv.asL (l := _) rfl
    refine ⟨_, _, rfl, .inl ⟨xs, h1, rfl⟩, q _ _ (Ext.refl _) ?_⟩
    rw [← h2.len, List.length_map]; exact .int
/-! ### numbers -/
def kAbs : D → Option D
  | .int i => some (.int (if i < 0 then -i else i))
  | _ => none
theorem abs_op {g : G} : OpA g (fun xs H Q => ∃ i, xs = [.int i] ∧ Q (.int (if i < 0 then -i else i)) H) (fA (d1 kAbs)) := fA_op fun H O ds z vs Q _ hv hz q => by
  obtain ⟨d, v, rfl, kz, vv⟩ := v1 hz hv
  cases d <;> simp only [kAbs] at kz <;> cases kz
  rw [vv.int]
  exact ⟨_, rfl, q _ _ (Ext.refl _) .int⟩
def kInt : D → Option D
  | .int i => some (.int i)
  | .bl k => some (.int (if k then 1 else 0))
  | .str a => if a.length ≤ 640 then (PySem.intText? a).map .int else none
  | _ => none
theorem int_op {g : G} : OpA g (fun xs H Q => ((∃ i, xs = [.int i] ∧ Q (.int i) H) ∨ ∃ k, xs = [.bl k] ∧ Q (.int (if k then 1 else 0)) H) ∨ ∃ a n, xs = [.str a] ∧ PySem.intText? a = some n ∧ a.length ≤ 640 ∧ Q (.int n) H) (fA (d1 kInt)) := fA_op fun H O ds z vs Q _ hv hz q => by
  obtain ⟨d, v, rfl, kz, vv⟩ := v1 hz hv
  cases d <;> simp only [kInt] at kz <;> try cases kz
  · rename_i k; rw [vv.bl]; exact .inl (.inr ⟨k, rfl, q _ _ (Ext.refl _) .int⟩)
  · rename_i i; rw [vv.int]; exact .inl (.inl ⟨i, rfl, q _ _ (Ext.refl _) .int⟩)
  · rename_i a
    split at kz
    · rename_i hl
      cases hn : PySem.intText? a with
      | none => rw [hn] at kz; cases kz
      | some n => rw [hn] at kz; cases kz; rw [vv.str]; exact .inr ⟨a, n, rfl, hn, hl, q _ _ (Ext.refl _) .int⟩
    · cases kz
def kStr : D → Option D
  | .int i => if i.natAbs.log2 < 1920 then some (.str (toString i)) else none
  | .str a => some (.str a)
  | _ => none
theorem str_op {g : G} : OpA g (fun xs H Q => (∃ i, xs = [.int i] ∧ i.natAbs.log2 < 1920 ∧ Q (.str (toString i)) H) ∨ ∃ a, xs = [.str a] ∧ Q (.str a) H) (fA (d1 kStr)) := fA_op fun H O ds z vs Q _ hv hz q => by
  obtain ⟨d, v, rfl, kz, vv⟩ := v1 hz hv
  cases d <;> simp only [kStr] at kz <;> try cases kz
  · rename_i i
    split at kz
    · rename_i hl; cases kz; rw [vv.int]; exact .inl ⟨i, rfl, hl, q _ _ (Ext.refl _) .str⟩
    · cases kz
  · rename_i a; rw [vv.str]; exact .inr ⟨a, rfl, q _ _ (Ext.refl _) .str⟩
def kMax2 : D → D → Option D
  | .int i, .int j => some (.int (if j > i then j else i))
  | _, _ => none
def kMin2 : D → D → Option D
  | .int i, .int j => some (.int (if j < i then j else i))
  | _, _ => none
theorem max2_op {g : G} : OpA g (fun xs H Q => ∃ i j, xs = [.int i, .int j] ∧ Q (.int (if j > i then j else i)) H) (fA (d2 kMax2)) := fA_op fun H O ds z vs Q _ hv hz q => by
  obtain ⟨d, e, v, w, rfl, kz, vv, vw⟩ := v2 hz hv
  cases d <;> cases e <;> simp only [kMax2] at kz <;> cases kz
  rw [vv.int, vw.int]
  exact ⟨_, _, rfl, q _ _ (Ext.refl _) .int⟩
theorem min2_op {g : G} : OpA g (fun xs H Q => ∃ i j, xs = [.int i, .int j] ∧ Q (.int (if j < i then j else i)) H) (fA (d2 kMin2)) := fA_op fun H O ds z vs Q _ hv hz q => by
  obtain ⟨d, e, v, w, rfl, kz, vv, vw⟩ := v2 hz hv
  cases d <;> cases e <;> simp only [kMin2] at kz <;> cases kz
  rw [vv.int, vw.int]
  exact ⟨_, _, rfl, q _ _ (Ext.refl _) .int⟩
/-! ### lists of intL, of bools -/
def intL : List D → Option (List Int)
  | [] => some []
  | .int i :: r => (intL r).map (i :: ·)
  | _ :: _ => none
def blsL : List D → Option (List Bool)
  | [] => some []
  | .bl i :: r => (blsL r).map (i :: ·)
  | _ :: _ => none
theorem intL_eq : ∀ {l : List D} {ns : List Int}, intL l = some ns → l = ns.map D.int
  | [], ns, h => by simp only [intL] at h; cases h; rfl
  | d :: r, ns, h => by
    cases d <;> simp only [intL] at h <;> try cases h
    cases hr : intL r with
    | none => rw [hr] at h; cases h
    | some m => rw [hr] at h; cases h; rw [intL_eq hr]; rfl
theorem blsL_eq : ∀ {l : List D} {ns : List Bool}, blsL l = some ns → l = ns.map D.bl
  | [], ns, h => by simp only [blsL] at h; cases h; rfl
  | d :: r, ns, h => by
    cases d <;> simp only [blsL] at h <;> try cases h
    cases hr : blsL r with
    | none => rw [hr] at h; cases h
    | some m => rw [hr] at h; cases h; rw [blsL_eq hr]; rfl
@[simp] theorem intL_map : ∀ (ns : List Int), intL (ns.map D.int) = some ns
  | [] => rfl
  | i :: r => by simp [intL, intL_map r]
@[simp] theorem blsL_map : ∀ (ns : List Bool), blsL (ns.map D.bl) = some ns
  | [] => rfl
  | i :: r => by simp [blsL, blsL_map r]
theorem View.intL {g : G} {H : Hp} {O : List Addr} {d : D} {v : V} {ns : List Int} {l : List D} (h : View g H O d v) (e : MM.asL d = some l) (e2 : MM.intL l = some ns) : ∃ a, v = .ref a ∧ SqL g.K H a (ns.map V.int) := by
  obtain ⟨a, xs, rfl, h1, h2⟩ := h.asL e
  rw [intL_eq e2] at h2
  rw [Reps.of_ints h2] at h1
  exact ⟨a, rfl, h1⟩
theorem View.blsL {g : G} {H : Hp} {O : List Addr} {d : D} {v : V} {ns : List Bool} {l : List D} (h : View g H O d v) (e : MM.asL d = some l) (e2 : MM.blsL l = some ns) : ∃ a, v = .ref a ∧ SqL g.K H a (ns.map V.bl) := by
  obtain ⟨a, xs, rfl, h1, h2⟩ := h.asL e
  rw [blsL_eq e2] at h2
  rw [Reps.of_bls h2] at h1
  exact ⟨a, rfl, h1⟩
def kInts (f : List Int → Option D) (d : D) : Option D := (asL d).bind fun l => (intL l).bind f
def kBls (f : List Bool → Option D) (d : D) : Option D := (asL d).bind fun l => (blsL l).bind f
theorem kInts_some {f : List Int → Option D} {d z : D} (h : kInts f d = some z) : ∃ l ns, asL d = some l ∧ intL l = some ns ∧ f ns = some z := by
  unfold kInts at h
  cases h1 : asL d with
  | none => rw [h1] at h; cases h
  | some l =>
    rw [h1] at h
    cases h2 : intL l with
    | none => simp only [Option.bind_some, h2, Option.bind_none] at h; cases h
    | some ns => simp only [Option.bind_some, h2] at h; exact ⟨l, ns, rfl, h2, h⟩
theorem kBls_some {f : List Bool → Option D} {d z : D} (h : kBls f d = some z) : ∃ l ns, asL d = some l ∧ blsL l = some ns ∧ f ns = some z := by
  unfold kBls at h
  cases h1 : asL d with
  | none => rw [h1] at h; cases h
  | some l =>
    rw [h1] at h
    cases h2 : blsL l with
    | none => simp only [Option.bind_some, h2, Option.bind_none] at h; cases h
    | some ns => simp only [Option.bind_some, h2] at h; exact ⟨l, ns, rfl, h2, h⟩
def kSum : D → Option D := kInts fun ns => some (.int ns.sum)
def kAny : D → Option D := kBls fun ns => some (.bl (ns.any id))
def kAll : D → Option D := kBls fun ns => some (.bl (ns.all id))
theorem sum_op {g : G} : OpA g (rSum g.K) (fA (d1 kSum)) := fA_op fun H O ds z vs Q _ hv hz q => by
  obtain ⟨d, v, rfl, kz, vv⟩ := v1 hz hv
  obtain ⟨l, ns, h1, h2, h3⟩ := kInts_some kz
  cases h3
  obtain ⟨a, rfl, h4⟩ := vv.intL h1 h2
  exact ⟨a, ns, rfl, h4, q _ _ (Ext.refl _) .int⟩
theorem any_op {g : G} : OpA g (rAny g.K) (fA (d1 kAny)) := fA_op fun H O ds z vs Q _ hv hz q => by
  obtain ⟨d, v, rfl, kz, vv⟩ := v1 hz hv
  obtain ⟨l, ns, h1, h2, h3⟩ := kBls_some kz
  cases h3
  obtain ⟨a, rfl, h4⟩ := vv.blsL h1 h2
  exact ⟨a, ns, rfl, h4, q _ _ (Ext.refl _) .bl⟩
theorem all_op {g : G} : OpA g (rAll g.K) (fA (d1 kAll)) := fA_op fun H O ds z vs Q _ hv hz q => by
  obtain ⟨d, v, rfl, kz, vv⟩ := v1 hz hv
  obtain ⟨l, ns, h1, h2, h3⟩ := kBls_some kz
  cases h3
  obtain ⟨a, rfl, h4⟩ := vv.blsL h1 h2
  exact ⟨a, ns, rfl, h4, q _ _ (Ext.refl _) .bl⟩
def maxI : Int → List Int → Int
  | m, [] => m
  | m, n :: r => maxI (if m < n then n else m) r
def minI : Int → List Int → Int
  | m, [] => m
  | m, n :: r => minI (if n < m then n else m) r
theorem maxI_spec : ∀ (r : List Int) (m : Int), (maxI m r = m ∨ maxI m r ∈ r) ∧ m ≤ maxI m r ∧ ∀ y ∈ r, y ≤ maxI m r
  | [], m => ⟨.inl rfl, Int.le_refl _, fun _ h => by cases h⟩
  | n :: r, m => by
    obtain ⟨h1, h2, h3⟩ := maxI_spec r (if m < n then n else m)
    simp only [maxI]
    by_cases h : m < n
    · rw [if_pos h] at h1 h2 h3 ⊢
      refine ⟨.inr ?_, by omega, fun y hy => ?_⟩
      · rcases h1 with h1 | h1
        · rw [h1]; exact List.mem_cons_self
        · exact List.mem_cons_of_mem _ h1
      · rcases List.mem_cons.mp hy with rfl | hy
        · exact h2
        · exact h3 y hy
    · rw [if_neg h] at h1 h2 h3 ⊢
      refine ⟨h1.imp_right (List.mem_cons_of_mem _), h2, fun y hy => ?_⟩
      rcases List.mem_cons.mp hy with rfl | hy
      · omega
      · exact h3 y hy
theorem minI_spec : ∀ (r : List Int) (m : Int), (minI m r = m ∨ minI m r ∈ r) ∧ minI m r ≤ m ∧ ∀ y ∈ r, minI m r ≤ y
  | [], m => ⟨.inl rfl, Int.le_refl _, fun _ h => by cases h⟩
  | n :: r, m => by
    obtain ⟨h1, h2, h3⟩ := minI_spec r (if n < m then n else m)
    simp only [minI]
    by_cases h : n < m
    · rw [if_pos h] at h1 h2 h3 ⊢
      refine ⟨.inr ?_, by omega, fun y hy => ?_⟩
      · rcases h1 with h1 | h1
        · rw [h1]; exact List.mem_cons_self
        · exact List.mem_cons_of_mem _ h1
      · rcases List.mem_cons.mp hy with rfl | hy
        · exact h2
        · exact h3 y hy
    · rw [if_neg h] at h1 h2 h3 ⊢
      refine ⟨h1.imp_right (List.mem_cons_of_mem _), h2, fun y hy => ?_⟩
      rcases List.mem_cons.mp hy with rfl | hy
      · omega
      · exact h3 y hy
def maxL : List Int → Option D
  | [] => none
  | m :: r => some (.int (maxI m r))
def minL : List Int → Option D
  | [] => none
  | m :: r => some (.int (minI m r))
def kMaxL : D → Option D := kInts maxL
def kMinL : D → Option D := kInts minL
theorem maxL_op {g : G} : OpA g (rMax g.K) (fA (d1 kMaxL)) := fA_op fun H O ds z vs Q _ hv hz q => by
  obtain ⟨d, v, rfl, kz, vv⟩ := v1 hz hv
  obtain ⟨l, ns, h1, h2, h3⟩ := kInts_some kz
  obtain ⟨a, rfl, h4⟩ := vv.intL h1 h2
  match ns, h3, h4 with
  | m :: r, h3, h4 =>
    cases h3
    refine ⟨a, m :: r, rfl, h4, by simp, fun k hk hm => ?_⟩
    obtain ⟨e1, e2, e3⟩ := maxI_spec r m
    have : k = maxI m r := by
      have q1 : maxI m r ≤ k := by
        rcases e1 with e1 | e1
        · rw [e1]; exact hm m List.mem_cons_self
        · exact hm _ (List.mem_cons_of_mem _ e1)
      rcases List.mem_cons.mp hk with rfl | hk
      · omega
      · have := e3 k hk; omega
    rw [this]
    exact q _ _ (Ext.refl _) .int
theorem minL_op {g : G} : OpA g (rMin g.K) (fA (d1 kMinL)) := fA_op fun H O ds z vs Q _ hv hz q => by
  obtain ⟨d, v, rfl, kz, vv⟩ := v1 hz hv
  obtain ⟨l, ns, h1, h2, h3⟩ := kInts_some kz
  obtain ⟨a, rfl, h4⟩ := vv.intL h1 h2
  match ns, h3, h4 with
  | m :: r, h3, h4 =>
    cases h3
    refine ⟨a, m :: r, rfl, h4, by simp, fun k hk hm => ?_⟩
    obtain ⟨e1, e2, e3⟩ := minI_spec r m
    have : k = minI m r := by
      have q1 : k ≤ minI m r := by
        rcases e1 with e1 | e1
        · rw [e1]; exact hm m List.mem_cons_self
        · exact hm _ (List.mem_cons_of_mem _ e1)
      rcases List.mem_cons.mp hk with rfl | hk
      · omega
      · have := e3 k hk; omega
    rw [this]
    exact q _ _ (Ext.refl _) .int
/-! ### sorted -/
def insI (i : Int) : List Int → List Int
  | [] => [i]
  | j :: r => if i ≤ j then i :: j :: r else j :: insI i r
def isort : List Int → List Int
  | [] => []
  | i :: r => insI i (isort r)
theorem insI_perm (i : Int) : ∀ l : List Int, (insI i l).Perm (i :: l)
  | [] => .refl _
  | j :: r => by
    unfold insI
    by_cases h : i ≤ j
    · rw [if_pos h]
    · rw [if_neg h]; exact ((insI_perm i r).cons j).trans (.swap i j r)
theorem isort_perm : ∀ l : List Int, (isort l).Perm l
  | [] => .refl _
  | i :: r => (insI_perm i _).trans ((isort_perm r).cons i)
theorem insI_pw (i : Int) : ∀ l : List Int, l.Pairwise (· ≤ ·) → (insI i l).Pairwise (· ≤ ·)
  | [], _ => by simp [insI]
  | j :: r, h => by
    unfold insI
    obtain ⟨h1, h2⟩ := List.pairwise_cons.mp h
    by_cases q : i ≤ j
    · rw [if_pos q]
      refine List.pairwise_cons.mpr ⟨fun y hy => ?_, h⟩
      rcases List.mem_cons.mp hy with rfl | hy
      · exact q
      · exact Int.le_trans q (h1 y hy)
    · rw [if_neg q]
      refine List.pairwise_cons.mpr ⟨fun y hy => ?_, insI_pw i r h2⟩
      rcases List.mem_cons.mp ((insI_perm i r).mem_iff.mp hy) with rfl | hy
      · omega
      · exact h1 y hy
theorem isort_pw : ∀ l : List Int, (isort l).Pairwise (· ≤ ·)
  | [] => .nil
  | i :: r => insI_pw i _ (isort_pw r)
theorem perm_pw_eq : ∀ {l m : List Int}, l.Perm m → l.Pairwise (· ≤ ·) → m.Pairwise (· ≤ ·) → l = m
  | [], m, p, _, _ => (p.nil_eq)
  | a :: l, [], p, _, _ => by have := p.length_eq; simp at this
  | a :: l, b :: m, p, h, k => by
    obtain ⟨h1, h2⟩ := List.pairwise_cons.mp h
    obtain ⟨k1, k2⟩ := List.pairwise_cons.mp k
    have e : a = b := by
      have q1 : a ≤ b := by
        rcases List.mem_cons.mp (p.symm.mem_iff.mp List.mem_cons_self) with e | e
        · omega
        · exact h1 b e
      have q2 : b ≤ a := by
        rcases List.mem_cons.mp (p.mem_iff.mp List.mem_cons_self) with e | e
        · omega
        · exact k1 a e
      omega
    subst e
    rw [perm_pw_eq (p.cons_inv) h2 k2]
def keysI : List (Key × D) → Option (List Int)
  | [] => some []
  | (.inl i, _) :: r => (keysI r).map (i :: ·)
  | _ :: _ => none
theorem keysI_eq : ∀ {l : List (Key × D)} {ns : List Int}, keysI l = some ns → l.map (·.1) = ns.map Sum.inl
  | [], ns, h => by simp only [keysI] at h; cases h; rfl
  | (.inl i, d) :: r, ns, h => by
    simp only [keysI] at h
    cases hr : keysI r with
    | none => rw [hr] at h; cases h
    | some m => rw [hr] at h; cases h; rw [List.map_cons, keysI_eq hr]; rfl
  | (.inr s, d) :: r, ns, h => by simp only [keysI] at h; cases h
/-- sorted of intL: a list, a dict's keys (fewer than 64) -/
def kSorted (d : D) : Option D := match d with
  | .dK l => (keysI l).bind fun ns => if ns.length < 64 then some (.lst ((isort ns).map .int)) else none
  | d => kInts (fun ns => some (.lst ((isort ns).map .int))) d
theorem own_ints {g : G} {H : Hp} {O : List Addr} {ns : List Int} {p : Addr} : OwnAt g (upd H p (.lst (ns.map V.int))) O (.lst (ns.map D.int)) p := ⟨_, upd_same, Reps.ints _⟩
theorem sorted_op {g : G} : OpA g (fun vs H Q => rSortedI g.K vs H Q ∨ ∃ (a : Addr) (kvs : List (Key × V)) (ks : List Int), vs = [.ref a] ∧ Rd H a (.dK kvs) ∧ kvs.map (·.1) = ks.map Sum.inl ∧ ks.length < 64 ∧
    ∀ (ys : List Int) (p : Addr), ys.Perm ks → ys.Pairwise (· ≤ ·) → H p = none → Q (.ref p) (upd H p (.lst (ys.map V.int)))) (nA (d1 kSorted)) := nA_op fun H O ds z vs Q _ hv hz q => by
  obtain ⟨d, v, rfl, kz, vv⟩ := v1 hz hv
  have fin : ∀ {ns : List Int} {zs : List Int} {p : Addr}, z = .lst ((isort ns).map .int) → zs.Perm ns → zs.Pairwise (· ≤ ·) → H p = none → Q (.ref p) (upd H p (.lst (zs.map V.int))) := fun {ns zs p} ez h1 h2 h3 => by
    have e : zs = isort ns := perm_pw_eq (h1.trans (isort_perm ns).symm) h2 (isort_pw ns)
    rw [e]
    exact q p _ h3 (by rw [ez]; exact own_ints)
  unfold kSorted at kz
  split at kz
  · rename_i l
    cases hk : keysI l with
    | none => rw [hk] at kz; cases kz
    | some ns =>
      rw [hk] at kz
      simp only [Option.bind_some] at kz
      split at kz
      · rename_i h64
        cases kz
        obtain ⟨a, kvs, rfl, h1, h2, h3⟩ := vv.dK
        exact .inr ⟨a, kvs, ns, rfl, h1, h2.trans (keysI_eq hk), h64, fun ys p y1 y2 y3 => fin rfl y1 y2 y3⟩
      · cases kz
  · obtain ⟨l, ns, h1, h2, h3⟩ := kInts_some kz
    cases h3
    obtain ⟨a, rfl, h4⟩ := vv.intL h1 h2
    exact .inl ⟨a, ns, rfl, h4, fun ns' p y1 y2 y3 => fin rfl y1 y2 y3⟩
/-! ### list, tuple, dict -/
def kList : D → Option D
  | .lst l => some (.lst l)
  | .scr l => some (.lst (l.map .int))
  | .tup l => some (.lst l)
  | .dK l => some (.lst (l.map fun kv => match kv.1 with
    | .inl i => .int i
    | .inr s => .str s))
  | _ => none
theorem reps_keys {g : G} {H : Hp} : ∀ {l : List (Key × D)} {kvs : List (Key × V)}, kvs.map (·.1) = l.map (·.1) → Reps g H (l.map fun kv => match kv.1 with
    | .inl i => .int i
    | .inr s => .str s) (kvs.map fun kv => kV kv.1)
  | [], [], _ => .nil
  | [], _ :: _, h => by cases h
  | _ :: _, [], h => by cases h
  | (k, d) :: l, (k', v) :: r, h => by
    rw [List.map_cons, List.map_cons, List.cons.injEq] at h
    have e : k' = k := h.1
    subst e
    refine .cons ?_ (reps_keys h.2)
    cases k' with
    | inl i => exact .int
    | inr s => exact .str
theorem Reps.layN {g : G} {H : Hp} {O : List Addr} {l : List D} {xs : List V} {p : Addr} {o : HO} (h : Reps g (hide H O) l xs) (n : H p = none) : Reps g (hide (upd H p o) (p :: O)) l xs := h.le (lay_le n).le
theorem list_op {g : G} : OpA g (fun xs H Q => (∃ p ys, xs = [.ref p] ∧ (SqL g.K H p ys ∨ SqT g.K H p ys) ∧ ∀ l, H l = none → Q (.ref l) (upd H l (.lst ys))) ∨ ∃ (a : Addr) (kvs : List (Key × V)), xs = [.ref a] ∧ Rd H a (.dK kvs) ∧ ∀ p, H p = none → Q (.ref p) (upd H p (.lst (kvs.map fun kv => kV kv.1)))) (nA (d1 kList)) := nA_op fun H O ds z vs Q _ hv hz q => by
  obtain ⟨d, v, rfl, kz, vv⟩ := v1 hz hv
  cases d <;> simp only [kList] at kz <;> cases kz
  · obtain ⟨a, xs, rfl, h1, h2⟩ := vv.asT (l := _) rfl
    exact .inl ⟨a, xs, rfl, .inr h1, fun p n => q p _ n ⟨_, upd_same, h2.layN n⟩⟩
  · obtain ⟨a, xs, rfl, h1, h2⟩ := vv.asL (l := _) rfl
    exact .inl ⟨a, xs, rfl, .inl h1, fun p n => q p _ n ⟨_, upd_same, h2.layN n⟩⟩
  · obtain ⟨a, kvs, rfl, h1, h2, h3⟩ := vv.dK
    exact .inr ⟨a, kvs, rfl, h1, fun p n => q p _ n ⟨_, upd_same, reps_keys h2⟩⟩
  · obtain ⟨a, xs, rfl, h1, h2⟩ := vv.asL (l := _) rfl
    exact .inl ⟨a, xs, rfl, .inl h1, fun p n => q p _ n ⟨_, upd_same, h2.layN n⟩⟩
def kTuple : D → Option D
  | .lst l => some (.tup l)
  | .scr l => some (.tup (l.map .int))
  | .tup l => some (.tup l)
  | _ => none
theorem rep_newT {g : G} {H : Hp} {O : List Addr} {l : List D} {xs : List V} {p : Addr} (R : ∀ a, a ∈ O → H a ≠ none) (h : Reps g (hide H O) l xs) (n : H p = none) : Rep g (hide (upd H p (.tup xs)) O) (.tup l) (.ref p) :=
  .tup (by rw [hide_out fun z => R p z n]; exact upd_same) (h.le (hide_ext (Ext.new n)).le)
theorem tuple_op {g : G} : OpA g (fun xs H Q => ∃ p ys, xs = [.ref p] ∧ ((SqL g.K H p ys ∧ ∀ l, H l = none → Q (.ref l) (upd H l (.tup ys))) ∨ (SqT g.K H p ys ∧ Q (.ref p) H))) (fA (d1 kTuple)) := fA_op fun H O ds z vs Q R hv hz q => by
  obtain ⟨d, v, rfl, kz, vv⟩ := v1 hz hv
  cases d <;> simp only [kTuple] at kz <;> cases kz
  · rcases vv with vv | ⟨a, rfl, vv⟩
    · obtain ⟨a, xs, rfl, h1, h2⟩ := View.asT (.inl vv) (l := _) rfl
      exact ⟨_, _, rfl, .inr ⟨h1, q _ _ (Ext.refl _) vv⟩⟩
    · exact vv.elim
  · obtain ⟨a, xs, rfl, h1, h2⟩ := vv.asL (l := _) rfl
    exact ⟨a, xs, rfl, .inl ⟨h1, fun p n => q _ _ (Ext.new n) (rep_newT R h2 n)⟩⟩
  · obtain ⟨a, xs, rfl, h1, h2⟩ := vv.asL (l := _) rfl
    exact ⟨a, xs, rfl, .inl ⟨h1, fun p n => q _ _ (Ext.new n) (rep_newT R h2 n)⟩⟩
def kDict : D → Option D
  | .dK l => some (.dK l)
  | _ => none
theorem dict_op {g : G} : OpA g (fun xs H Q => ∃ (a : Addr) (kvs : List (Key × V)), xs = [.ref a] ∧ Rd H a (.dK kvs) ∧ ∀ p, H p = none → Q (.ref p) (upd H p (.dK kvs))) (nA (d1 kDict)) := nA_op fun H O ds z vs Q _ hv hz q => by
  obtain ⟨d, v, rfl, kz, vv⟩ := v1 hz hv
  cases d <;> simp only [kDict] at kz <;> cases kz
  obtain ⟨a, kvs, rfl, h1, h2, h3⟩ := vv.dK
  exact ⟨a, kvs, rfl, h1, fun p n => q p _ n ⟨_, upd_same, h2, h3.layN n⟩⟩
end MM

set_option maxHeartbeats 2000000
namespace MM
open PySem PySem.Spec PyProof.Rows L2

/-! ### attributes -/
def kFld (c : Nat) (f : Str) : D → Option D
  | .obj c' fs => if c' = c then fs.lookup f else none
  | _ => none
theorem lookup_reps {g : G} {H : Hp} {f : Str} {d : D} : ∀ {fs : List (Str × D)} {gs : List (Str × V)}, gs.map (·.1) = fs.map (·.1) → Reps g H (fs.map (·.2)) (gs.map (·.2)) → fs.lookup f = some d → ∃ v, gs.lookup f = some v ∧ Rep g H d v
  | [], _, _, _, h => by cases h
  | _ :: _, [], h, _, _ => by cases h
  | (k, x) :: fs, (k', y) :: gs, h, r, e => by
    rw [List.map_cons, List.map_cons, List.cons.injEq] at h
    have ek : k' = k := h.1
    subst ek
    cases r with
    | cons r1 r2 =>
      rw [List.lookup_cons] at e ⊢
      cases hb : f == k' with
      | true => rw [hb] at e; cases e; exact ⟨y, rfl, r1⟩
      | false => rw [hb] at e; exact lookup_reps h.2 r2 e
theorem fld_op {g : G} {c : Nat} {f : Str} (hc : Cls g.K (g.C c)) (hn : NoAttr g.K (g.C c) f) : Op1 g (fun x H1 Q => ∃ a C dx fs v, x = .ref a ∧ H1 a = some (.ins C dx fs) ∧ Cls g.K C ∧ NoAttr g.K C f ∧ fs.lookup f = some v ∧ Q v H1) (f1 (kFld c f)) := f1_op fun H O d z x Q _ hx hz q => by
  cases d <;> simp only [kFld] at hz <;> try cases hz
  rename_i c' fs
  split at hz
  · rename_i ec
    subst ec
    obtain ⟨a, dx, gs, rfl, h1, h2, h3⟩ := hx.obj
    obtain ⟨v, h4, h5⟩ := lookup_reps h2 h3 hz
    exact ⟨a, _, dx, gs, v, rfl, h1, hc, hn, h4, q _ _ (Ext.refl _) h5⟩
  · cases hz
def eFld (c : Nat) (f : Str) (mo : EDen) : EDen := un1 mo (f1 (kFld c f))
theorem x_fld {g : G} {W : WX} {X : Cx} {pos : Pos} {e : Expr} {mo : EDen} {f : Str} (c : Nat) (hK : X.K = g.K) (hc : Cls g.K (g.C c)) (hn : NoAttr g.K (g.C c) f) (ho : PE X e (rE g W mo)) (hb : attributeBase e f X.env (eval e X.env) = eval e X.env := by rfl) : PE X (.Attribute e f pos) (rE g W (eFld c f mo)) :=
  pe_weak (pe_fld ho hb) fun σ H Q h => by rw [hK]; exact sim1 (fld_op hc hn) h
def putD (f : Str) (v : D) : List (Str × D) → List (Str × D)
  | [] => [(f, v)]
  | (g, x) :: r => if g = f then (g, v) :: r else (g, x) :: putD f v r
theorem putD_reps {g : G} {H : Hp} {f : Str} {d : D} {v : V} (r0 : Rep g H d v) : ∀ {fs : List (Str × D)} {gs : List (Str × V)}, gs.map (·.1) = fs.map (·.1) → Reps g H (fs.map (·.2)) (gs.map (·.2)) → (putF f v gs).map (·.1) = (putD f d fs).map (·.1) ∧ Reps g H ((putD f d fs).map (·.2)) ((putF f v gs).map (·.2))
  | [], [], _, _ => ⟨rfl, .cons r0 .nil⟩
  | [], _ :: _, h, _ => by cases h
  | _ :: _, [], h, _ => by cases h
  | (k, x) :: fs, (k', y) :: gs, h, r => by
    rw [List.map_cons, List.map_cons, List.cons.injEq] at h
    have ek : k' = k := h.1
    subst ek
    cases r with
    | cons r1 r2 =>
      unfold putD putF
      by_cases q : k' = f
      · rw [if_pos q, if_pos q]
        exact ⟨by rw [List.map_cons, List.map_cons, h.2], .cons r0 r2⟩
      · rw [if_neg q, if_neg q]
        obtain ⟨z1, z2⟩ := putD_reps r0 h.2 r2
        exact ⟨by rw [List.map_cons, List.map_cons, z1], .cons r1 z2⟩
/-- x.f = e, x the object of a name's own -/
def sFldM (c i : Nat) (f : Str) (m : EDen) : SDen := fun e => (m e).bind fun a => (ofO (a.1.frz a.2)).bind fun z => match (z.2[i]? : Option Sl) with
  | some (Sl.ow (.obj c' fs)) => if c' = c ∧ fs.length < 1000 then .ok (.nx, z.2.set i (.ow (.obj c (putD f z.1 fs)))) else .stuck
  | _ => .stuck
section
variable {g : G} {W : WX} {X : Cx} {pos : Pos}
theorem PostS.ofO {b : Bas} {H : Hp} {O : List Addr} {α : Type} {r : Option α} {k : α → Res (Fl × DEnv)} {D : Ends} (h : PostS g W b H O ((MM.ofO r).bind k) D) : ∃ a, r = some a ∧ PostS g W b H O (k a) D := by
  cases r with
  | none => exact h.elim
  | some a => exact ⟨a, rfl, h⟩
theorem PostS.iff {b : Bas} {H : Hp} {O : List Addr} {q : Prop} [Decidable q] {r : Res (Fl × DEnv)} {D : Ends} (h : PostS g W b H O (if q then r else .stuck) D) : q ∧ PostS g W b H O r D := by
  by_cases z : q
  · rw [if_pos z] at h; exact ⟨z, h⟩
  · rw [if_neg z] at h; exact h.elim
theorem PostT.ofO {b : Bas} {σ : L2.St} {H : Hp} {O : List Addr} {α : Type} {r : Option α} {k : α → Res (Bool × DEnv)} {Q : Bool → Hp → Prop} (h : PostT g W b σ H O ((MM.ofO r).bind k) Q) : ∃ a, r = some a ∧ PostT g W b σ H O (k a) Q := by
  cases r with
  | none => exact h.elim
  | some a => exact ⟨a, rfl, h⟩
theorem extB_upd {H : Hp} {a : Addr} {o : HO} : ∀ c u, c ≠ a → H c = some u → upd H a o c = some u := fun c u n h => by rw [upd_ne n]; exact h
theorem reps_mut {H : Hp} {O : List Addr} {a : Addr} {o : HO} {l : List D} {xs : List V} (h : a ∈ O) (r : Reps g (hide H O) l xs) : Reps g (hide (upd H a o) O) l xs := by rw [hide_upd h]; exact r
theorem s_fld {value : Expr} {f : Str} {pos' : Pos} {m : EDen} {y : Str} {py : Pos} (c i : Nat) (hK : X.K = g.K) (hc : Cls g.K (g.C c)) (hn : NoAttr g.K (g.C c) f) (hv : PE X value (rE g W m)) (hN : X.N[i]? = some y := by rfl)
    (hvv : Vis X.env.scope y := by first | exact Or.inl rfl | exact Or.inr (Or.inl rfl) | exact Or.inr (Or.inr rfl)) (hd : (y == ("__debug__" : Str)) = false := by decide) (hcd : (y == ("__classdict__" : Str)) = false := by decide)
    (hs : swapsWith value (some (.Attribute (.Name y py) f pos')) pos.line X.env = pure false := by rfl) : PS X (.Assign [.Attribute (.Name y py) f pos'] value pos) (rS g W (sFldM c i f m)) :=
  ps_weak (ps_fld (pe_var (i := i) hN hvv hd hcd) hv hs) fun Dd σ H ⟨b, O, env, R, h⟩ => (rE.bindS (m := m) R h).mono fun v H1 ⟨O1, p, e1, M, h1⟩ => by
    obtain ⟨⟨d, e2⟩, hz, h2⟩ := h1.ofO
    obtain ⟨O2, x2, R2, r2⟩ := frz_ok M.env M.rep hz
    simp only at h2
    split at h2
    · rename_i c' fs he
      obtain ⟨⟨ec, hl⟩, h2⟩ := h2.iff
      subst ec
      obtain ⟨a, q1, q2, q3, q4, dx, gs, q5, q6, q7⟩ := R2.ow i _ he
      have len : gs.length = fs.length := by have := congrArg List.length q6; simpa using this
      obtain ⟨p1, p2⟩ := putD_reps (f := f) r2 q6 q7
      rw [hK]
      refine ⟨_, q1, a, _, dx, gs, rfl, q5, hc, hn, by omega, ?_⟩
      refine h2 σ _ O2 ?_ (R2.mutate he q1 extB_upd ⟨dx, _, upd_same, p1, reps_mut q2 p2⟩)
      rw [hide_upd q2]
      exact x2.le
    · exact h2.elim
end
/-- x.f += e -/
def sFldA (c i : Nat) (f : Str) (k : Int → Int → Int) (m : EDen) : SDen := fun e => match (e[i]? : Option Sl) with
  | some (Sl.ow (.obj c' fs)) => if c' = c then match fs.lookup f with
      | some (.int n) => (m e).bind fun a => match a.1 with
        | .d (.int j) => match (a.2[i]? : Option Sl) with
          | some (Sl.ow (.obj c2 fs2)) => if c2 = c ∧ fs2.length < 1000 then .ok (.nx, a.2.set i (.ow (.obj c (putD f (.int (k n j)) fs2)))) else .stuck
          | _ => .stuck
        | _ => .stuck
      | _ => .stuck
    else .stuck
  | _ => .stuck
section
variable {g : G} {W : WX} {X : Cx} {pos : Pos}
theorem s_fldA {value : Expr} {f : Str} {pos' : Pos} {m : EDen} {y : Str} {py : Pos} {op : Operator} {k : Int → Int → Int} (c i : Nat) (hop : InOp X op fun x y H Q => ∃ i j, x = .int i ∧ y = .int j ∧ Q (.int (k i j)) H) (hK : X.K = g.K) (hc : Cls g.K (g.C c)) (hn : NoAttr g.K (g.C c) f) (hv : PE X value (rE g W m)) (hN : X.N[i]? = some y := by rfl)
    (hvv : Vis X.env.scope y := by first | exact Or.inl rfl | exact Or.inr (Or.inl rfl) | exact Or.inr (Or.inr rfl)) (hd : (y == ("__debug__" : Str)) = false := by decide) (hcd : (y == ("__classdict__" : Str)) = false := by decide) :
    PS X (.AugAssign (.Attribute (.Name y py) f pos') op value pos) (rS g W (sFldA c i f k m)) :=
  ps_weak (ps_fldaug (pe_var (i := i) hN hvv hd hcd) hv hop) fun Dd σ H ⟨b, O, env, R, h⟩ => by
    unfold sFldA at h
    split at h
    · rename_i c' fs he
      obtain ⟨ec, h⟩ := h.iff
      subst ec
      split at h
      · rename_i n hl
        obtain ⟨a, q1, q2, q3, q4, dx, gs, q5, q6, q7⟩ := R.ow i _ he
        obtain ⟨v, l1, l2⟩ := lookup_reps q6 q7 hl
        cases l2
        rw [hK]
        refine ⟨_, q1, a, _, dx, gs, _, rfl, q5, hc, hn, l1, (rE.bindS (m := m) R h).mono fun w H1 ⟨O1, p, e1, M, h1⟩ => ?_⟩
        split at h1
        · rename_i j hp
          have rp := M.rep
          simp only at hp
          rw [hp] at rp
          cases (show Rep g (hide H1 O1) (.int j) w from rp)
          split at h1
          · rename_i c2 fs2 he2
            obtain ⟨⟨ec, hl⟩, h2⟩ := h1.iff
            subst ec
            obtain ⟨a', z1, z2, z3, z4, dx', gs', z5, z6, z7⟩ := M.env.ow i _ he2
            rw [q1] at z1
            cases z1
            have len : gs'.length = fs2.length := by have := congrArg List.length z6; simpa using this
            obtain ⟨p1, p2⟩ := putD_reps (f := f) (Rep.int (g := g) (H := hide H1 O1) (i := k n j)) z6 z7
            refine ⟨n, j, rfl, rfl, dx', gs', z5, by omega, ?_⟩
            refine h2 σ _ O1 ?_ (M.env.mutate he2 q1 extB_upd ⟨dx', _, upd_same, p1, reps_mut z2 p2⟩)
            rw [hide_upd z2]
            exact Le.refl _
          · exact h1.elim
        · exact h1.elim
      · exact h.elim
    · exact h.elim
end

/-! ### subscripts -/
def kIx : D → D → Option D
  | .lst l, .int i => atI l i
  | .tup l, .int i => atI l i
  | .scr l, .int i => (atI l i).map .int
  | .str z, .int i => if z.length ≤ 16777216 then (atI z.cps.toList i).map fun c => .str ⟨#[c]⟩ else none
  | _, _ => none
theorem atI_reps {g : G} {H : Hp} {l : List D} {xs : List V} {i : Int} {d : D} (r : Reps g H l xs) (h : atI l i = some d) : ∃ v, atI xs i = some v ∧ Rep g H d v := by
  unfold atI at h ⊢
  rw [← r.len]
  cases hj : ixN l.length i with
  | none => rw [hj] at h; cases h
  | some j => rw [hj] at h; exact r.get h
theorem atI_map {α β : Type} {f : α → β} {l : List α} {i : Int} : atI (l.map f) i = (atI l i).map f := by
  unfold atI
  rw [List.length_map]
  cases ixN l.length i with
  | none => rfl
  | some j => simp
theorem ix_op {g : G} : Op2 g (rIx g.K) (f2 kIx) := f2_op fun H O d e z x y Q _ hx hy hz q => by
  cases d <;> cases e <;> simp only [kIx] at hz <;> try cases hz
  · rename_i z' i
    split at hz
    · rename_i hs
      cases hc : atI z'.cps.toList i with
      | none => rw [hc] at hz; cases hz
      | some c => rw [hc] at hz; cases hz; rw [hx.str, hy.int]; exact .inr (.inr ⟨z', i, c, rfl, rfl, by rw [sizeLine_eq]; exact hs, hc, q _ _ (Ext.refl _) .str⟩)
    · cases hz
  · rename_i l i
    obtain ⟨a, xs, rfl, h1, h2⟩ := hx.asT (l := l) rfl
    obtain ⟨v, h3, h4⟩ := atI_reps h2 hz
    rw [hy.int]
    exact .inr (.inl ⟨a, xs, i, v, rfl, rfl, h1, h3, q _ _ (Ext.refl _) h4⟩)
  · rename_i l i
    obtain ⟨a, xs, rfl, h1, h2⟩ := hx.asL (l := l) rfl
    obtain ⟨v, h3, h4⟩ := atI_reps h2 hz
    rw [hy.int]
    exact .inl ⟨a, xs, i, v, rfl, rfl, h1, h3, q _ _ (Ext.refl _) h4⟩
  · rename_i l i
    obtain ⟨a, xs, rfl, h1, h2⟩ := hx.asL (l := l.map .int) rfl
    have hz' : atI (l.map D.int) i = some z := by rw [atI_map]; exact hz
    obtain ⟨v, h3, h4⟩ := atI_reps h2 hz'
    rw [hy.int]
    exact .inl ⟨a, xs, i, v, rfl, rfl, h1, h3, q _ _ (Ext.refl _) h4⟩
def eIx (ma mb : EDen) : EDen := bin2 ma mb (f2 kIx)
theorem x_ix {g : G} {W : WX} {X : Cx} {pos : Pos} {a c : Expr} {ma mc : EDen} (hK : X.K = g.K) (ha : PE X a (rE g W ma)) (hc : PE X c (rE g W mc)) (hs : PlainIx c := by intro _ _; rfl) : PE X (.Subscript a c pos) (rE g W (eIx ma mc)) :=
  pe_weak (pe_ix ix_seq ha hc hs) fun σ H Q h => by rw [hK]; exact sim2 ix_op h
/-! ### dicts that are read -/
def dval {κ : Type} [DecidableEq κ] (l : List (κ × D)) (k : κ) : Option D := (l.find? fun kv => decide (kv.1 = k)).map (·.2)
def dput {κ : Type} [DecidableEq κ] (l : List (κ × D)) (k : κ) (v : D) : List (κ × D) :=
  if (l.any fun kv => decide (kv.1 = k)) = true then l.map (fun kv => if kv.1 = k then (kv.1, v) else kv) else l ++ [(k, v)]
def tupKey : List D → Option (List Key)
  | [] => some []
  | .int i :: r => (tupKey r).map (.inl i :: ·)
  | _ :: _ => none
/-- an answer and its data -/
def Agr (g : G) (H : Hp) : Option D → Option V → Prop
  | some d, r => ∃ v, r = some v ∧ Rep g H d v
  | none, r => r = none
section
variable {g : G} {H : Hp} {O : List Addr} {κ : Type} [DecidableEq κ]
theorem dval_reps {k : κ} : ∀ {l : List (κ × D)} {kvs : List (κ × V)}, kvs.map (·.1) = l.map (·.1) → Reps g H (l.map (·.2)) (kvs.map (·.2)) → Agr g H (dval l k) (valV kvs k)
  | [], [], _, _ => rfl
  | [], _ :: _, h, _ => by cases h
  | _ :: _, [], h, _ => by cases h
  | (k1, d) :: l, (k2, v) :: kvs, h, r => by
    rw [List.map_cons, List.map_cons, List.cons.injEq] at h
    have ek : k2 = k1 := h.1
    subst ek
    cases r with
    | cons r1 r2 =>
      by_cases e : k2 = k
      · rw [valV_pos (p := (k2, v)) e]
        unfold dval
        rw [List.find?_cons, decide_eq_true (p := (k2, d).1 = k) e]
        exact ⟨v, rfl, r1⟩
      · rw [valV_neg (p := (k2, v)) e]
        have := dval_reps (k := k) h.2 r2
        have e2 : dval ((k2, d) :: l) k = dval l k := by
          unfold dval
          rw [List.find?_cons, decide_eq_false (p := (k2, d).1 = k) e]
        rw [e2]
        exact this
theorem dval_some {k : κ} {l : List (κ × D)} {kvs : List (κ × V)} {d : D} (h : kvs.map (·.1) = l.map (·.1)) (r : Reps g H (l.map (·.2)) (kvs.map (·.2))) (e : dval l k = some d) : ∃ v, valV kvs k = some v ∧ Rep g H d v := by
  have := dval_reps (k := k) h r
  rw [e] at this
  exact this
theorem dval_none {k : κ} {l : List (κ × D)} {kvs : List (κ × V)} (h : kvs.map (·.1) = l.map (·.1)) (r : Reps g H (l.map (·.2)) (kvs.map (·.2))) (e : dval l k = none) : valV kvs k = none := by
  have := dval_reps (k := k) h r
  rw [e] at this
  exact this
theorem any_keys {k : κ} : ∀ {l : List (κ × D)} {kvs : List (κ × V)}, kvs.map (·.1) = l.map (·.1) → (kvs.any fun kv => decide (kv.1 = k)) = l.any fun kv => decide (kv.1 = k)
  | [], [], _ => rfl
  | [], _ :: _, h => by cases h
  | _ :: _, [], h => by cases h
  | (k1, d) :: l, (k2, v) :: kvs, h => by
    rw [List.map_cons, List.map_cons, List.cons.injEq] at h
    have ek : k2 = k1 := h.1
    subst ek
    rw [List.any_cons, List.any_cons, any_keys h.2]
theorem dput_reps {k : κ} {d : D} {v : V} (r0 : Rep g H d v) : ∀ {l : List (κ × D)} {kvs : List (κ × V)}, kvs.map (·.1) = l.map (·.1) → Reps g H (l.map (·.2)) (kvs.map (·.2)) →
    (putK kvs k v).map (·.1) = (dput l k d).map (·.1) ∧ Reps g H ((dput l k d).map (·.2)) ((putK kvs k v).map (·.2)) := by
  intro l kvs h r
  unfold putK dput
  rw [any_keys h]
  by_cases z : (l.any fun kv => decide (kv.1 = k)) = true
  · rw [if_pos z, if_pos z]
    clear z
    induction l generalizing kvs with
    | nil =>
      cases kvs with
      | nil => exact ⟨rfl, .nil⟩
      | cons _ _ => cases h
    | cons p l ih =>
      cases kvs with
      | nil => cases h
      | cons q kvs =>
        obtain ⟨k1, d1⟩ := p
        obtain ⟨k2, v1⟩ := q
        rw [List.map_cons, List.map_cons, List.cons.injEq] at h
        have ek : k2 = k1 := h.1
        subst ek
        cases r with
        | cons r1 r2 =>
          obtain ⟨h1, h2⟩ := ih h.2 r2
          simp only [List.map_cons]
          by_cases e : k2 = k
          · rw [if_pos e, if_pos e]
            exact ⟨by rw [h1], .cons r0 h2⟩
          · rw [if_neg e, if_neg e]
            exact ⟨by rw [h1], .cons r1 h2⟩
  · rw [if_neg z, if_neg z]
    refine ⟨by rw [List.map_append, List.map_append, h]; rfl, ?_⟩
    rw [List.map_append, List.map_append]
    exact r.append (.cons r0 .nil)
theorem tupKey_eq : ∀ {l : List D} {k : List Key} {xs : List V}, tupKey l = some k → Reps g H l xs → xs = k.map kV
  | [], _, _, h, r => by cases h; cases r; rfl
  | d :: l, k, _, h, r => by
    cases r with
    | cons r1 r2 =>
      cases d <;> simp only [tupKey] at h <;> try cases h
      cases hk : tupKey l with
      | none => rw [hk] at h; cases h
      | some m => rw [hk] at h; cases h; cases r1; rw [tupKey_eq hk r2]; rfl
end
/-- a dict's answer at a key; none: the key is of no told form -/
def kGet : D → D → Option (Option D)
  | .dK l, .int i => some (dval l (.inl i))
  | .dK l, .str s => some (dval l (.inr s))
  | .dT l, .tup (.int i :: r) => (tupKey (.int i :: r)).map fun k => dval l k
  | _, _ => none
def isD : D → Bool
  | .dK _ => true
  | .dT _ => true
  | _ => false
section
variable {g : G} {H : Hp} {O : List Addr} {d e : D} {x y : V} {o : Option D}
theorem View.get (hx : View g H O d x) (hy : View g H O e y) (h : kGet d e = some o) : ∃ a r, x = .ref a ∧ DGet H a y r ∧ Agr g (hide H O) o r := by
  have fin : ∀ {κ : Type} [DecidableEq κ] {l : List (κ × D)} {kvs : List (κ × V)} {k : κ}, kvs.map (·.1) = l.map (·.1) → Reps g (hide H O) (l.map (·.2)) (kvs.map (·.2)) → o = dval l k → Agr g (hide H O) o (valV kvs k) := fun {κ _ l kvs k} h1 h2 h3 => by rw [h3]; exact dval_reps h1 h2
  unfold kGet at h
  split at h
  · cases h
    obtain ⟨a, kvs, rfl, h1, h2, h3⟩ := hx.dK
    rw [hy.int]
    exact ⟨a, _, rfl, .inl ⟨kvs, .inl _, h1, rfl, rfl⟩, fin h2 h3 rfl⟩
  · cases h
    obtain ⟨a, kvs, rfl, h1, h2, h3⟩ := hx.dK
    rw [hy.str]
    exact ⟨a, _, rfl, .inl ⟨kvs, .inr _, h1, rfl, rfl⟩, fin h2 h3 rfl⟩
  · rename_i l i r
    replace h : (tupKey (.int i :: r)).map (fun k => dval l k) = some o := h
    cases hk : tupKey (.int i :: r) with
    | none => rw [hk] at h; cases h
    | some k =>
      rw [hk] at h
      cases h
      obtain ⟨a, kvs, rfl, h1, h2, h3⟩ := hx.dT
      obtain ⟨b, xs, rfl, h4, h5⟩ := hy.tupI
      rw [tupKey_eq hk h5] at h4
      exact ⟨a, _, rfl, .inr ⟨kvs, k, b, h1, rfl, h4, rfl⟩, fin h2 h3 rfl⟩
  · cases h
theorem View.isD (hx : View g H O d x) (h : MM.isD d = true) : ∃ a, x = .ref a ∧ IsD H a := by
  cases d <;> first | (cases h; done) | skip
  · obtain ⟨a, kvs, rfl, h1, _⟩ := hx.dK
    exact ⟨a, rfl, .inl ⟨_, h1⟩⟩
  · obtain ⟨a, kvs, rfl, h1, _⟩ := hx.dT
    exact ⟨a, rfl, .inr ⟨_, h1⟩⟩
end
def kDGet (d e : D) : Option D := (kGet d e).bind id
def kDIn (e d : D) : Option D := (kGet d e).map fun o => .bl o.isSome
def kDNotIn (e d : D) : Option D := (kGet d e).map fun o => .bl (!o.isSome)
theorem dget_op {g : G} : Op2 g (fun x y H2 Q => ∃ a v, x = .ref a ∧ DGet H2 a y (some v) ∧ Q v H2) (f2 kDGet) := f2_op fun H O d e z x y Q _ hx hy hz q => by
  unfold kDGet at hz
  cases ho : kGet d e with
  | none => rw [ho] at hz; cases hz
  | some o =>
    rw [ho] at hz
    have ez : o = some z := hz
    subst ez
    obtain ⟨a, r, rfl, h1, v, rfl, h2⟩ := hx.get hy ho
    exact ⟨a, v, rfl, h1, q _ _ (Ext.refl _) h2⟩
theorem din_op {g : G} : Op2 g (fun y x H2 Q => ∃ a o, x = .ref a ∧ DGet H2 a y o ∧ Q (.bl o.isSome) H2) (f2 kDIn) := f2_op fun H O e d z y x Q _ hy hx hz q => by
  unfold kDIn at hz
  cases ho : kGet d e with
  | none => rw [ho] at hz; cases hz
  | some o =>
    rw [ho] at hz
    cases hz
    obtain ⟨a, r, rfl, h1, h2⟩ := hx.get hy ho
    refine ⟨a, r, rfl, h1, ?_⟩
    cases o with
    | none => rw [show r = none from h2]; exact q _ _ (Ext.refl _) .bl
    | some z => obtain ⟨v, rfl, _⟩ := h2; exact q _ _ (Ext.refl _) .bl
theorem dnotin_op {g : G} : Op2 g (fun y x H2 Q => ∃ a o, x = .ref a ∧ DGet H2 a y o ∧ Q (.bl (!o.isSome)) H2) (f2 kDNotIn) := f2_op fun H O e d z y x Q _ hy hx hz q => by
  unfold kDNotIn at hz
  cases ho : kGet d e with
  | none => rw [ho] at hz; cases hz
  | some o =>
    rw [ho] at hz
    cases hz
    obtain ⟨a, r, rfl, h1, h2⟩ := hx.get hy ho
    refine ⟨a, r, rfl, h1, ?_⟩
    cases o with
    | none => rw [show r = none from h2]; exact q _ _ (Ext.refl _) .bl
    | some z => obtain ⟨v, rfl, _⟩ := h2; exact q _ _ (Ext.refl _) .bl
def eDGet (ma mb : EDen) : EDen := bin2 ma mb (f2 kDGet)
def eDIn (ma mb : EDen) : EDen := bin2 ma mb (f2 kDIn)
def eDNotIn (ma mb : EDen) : EDen := bin2 ma mb (f2 kDNotIn)
section
variable {g : G} {W : WX} {X : Cx} {pos apos cpos : Pos} {a c e : Expr} {ma mc me : EDen}
theorem x_dget (hu : X.A.units + 1 < cLine) (ha : PE X a (rE g W ma)) (hc : PE X c (rE g W mc)) (hs : NoSl c := by intro _ _; rfl) : PE X (.Subscript a c pos) (rE g W (eDGet ma mc)) :=
  pe_weak (pe_dget hu ha hc hs) fun σ H Q h => sim2 dget_op h
theorem x_din (hu : X.A.units + 1 < cLine) (ha : PE X a (rE g W ma)) (hc : PE X c (rE g W mc)) (hm : behindInMarks .In c = false := by rfl) : PE X (.Compare a [.In] [c] pos) (rE g W (eDIn ma mc)) :=
  pe_weak (pe_cmp (pc_din hu ha hc) hm) fun σ H Q h => sim2 din_op h
theorem x_dnotin (hu : X.A.units + 1 < cLine) (ha : PE X a (rE g W ma)) (hc : PE X c (rE g W mc)) (hm : behindInMarks .NotIn c = false := by rfl) : PE X (.Compare a [.NotIn] [c] pos) (rE g W (eDNotIn ma mc)) :=
  pe_weak (pe_cmp (pc_dnotin hu ha hc) hm) fun σ H Q h => sim2 dnotin_op h
/-- d.get(k, x) -/
def eDGet2 (md mk mx : EDen) : EDen := fun e => (md e).bind fun a => (ofO (a.1.vw a.2)).bind fun d => if MM.isD d then (mk a.2).bind fun b => (mx b.2).bind fun c => (ofO (a.1.fz.vw c.2)).bind fun d => (ofO (b.1.fz.vw c.2)).bind fun k => (ofO (kGet d k)).bind fun o => match o with
  | some z => .ok (.d z, c.2)
  | none => .ok (c.1, c.2)
  else .stuck
theorem x_dget2 (hu : X.A.units + 1 < cLine) (ha : PE X a (rE g W ma)) (hc : PE X c (rE g W mc)) (he : PE X e (rE g W me)) (m : M2 X a "get" apos c e cpos := by exact ⟨rfl, rfl, rfl, rfl⟩) : PE X (.Call (.Attribute a "get" apos) [c, e] [] cpos) (rE g W (eDGet2 ma mc me)) :=
  pe_weak (pe_dget2 hu ha hc he m) fun σ H Q ⟨b, O, env, R, h⟩ => (rE.bindE (m := ma) R h).mono fun v H1 ⟨O1, p, e1, M, h1⟩ => by
    obtain ⟨d, hd, h1⟩ := h1.ofO
    obtain ⟨hi, h1⟩ := h1.iff
    obtain ⟨ad, rfl, hid⟩ := (vw_ok M.env M.rep hd).isD hi
    obtain ⟨O2, x2, R2, r2⟩ := fz_ok M.env M.rep
    refine ⟨ad, rfl, hid, (rE.bindE (m := mc) R2 (h1.le x2.le)).mono fun y H3 ⟨O3, p3, e3, M3, h3⟩ => ?_⟩
    obtain ⟨O4, x4, R4, r4⟩ := fz_ok M3.env M3.rep
    refine (rE.bindE (m := me) R4 (h3.le x4.le)).mono fun z H5 ⟨O5, p5, e5, M5, h5⟩ => ?_
    obtain ⟨d', hd', h5⟩ := h5.ofO
    obtain ⟨k, hk, h5⟩ := h5.ofO
    obtain ⟨o, ho, h5⟩ := h5.ofO
    have vd := vw_ok M5.env (r2.move (env' := e5) p.fz_old ((M3.le.trans x4.le).trans M5.le)) hd'
    have vk := vw_ok M5.env (r4.move (env' := e5) p3.fz_old M5.le) hk
    obtain ⟨a', r, ea, g1, g2⟩ := vd.get vk ho
    cases ea
    refine ⟨r, g1, ?_⟩
    cases o with
    | none => rw [show r = none from g2]; exact h5 _ H5 O5 (Le.refl _) M5.env M5.rep
    | some z' =>
      obtain ⟨v, rfl, rv⟩ := g2
      exact h5 v H5 O5 (Le.refl _) M5.env rv
end
end MM

set_option maxHeartbeats 2000000
namespace MM
open PySem PySem.Spec PyProof.Rows L2

/-! ### stores -/
section
variable {g : G} {W : WX} {X : Cx} {pos : Pos}
theorem PostS.nx {b : Bas} {H : Hp} {O : List Addr} {e : DEnv} {D : Ends} (h : PostS g W b H O (.ok (.nx, e)) D) {σ : L2.St} {H' : Hp} {O' : List Addr} (l : Le (hide H O) (hide H' O')) (R : REnv g b H' O' σ e) : D.nx σ H' := h σ H' O' l R
/-- name op= e, ints -/
def sAug (i : Nat) (k : Int → Int → Int) (m : EDen) : SDen := fun e => match (e[i]? : Option Sl) with
  | some (Sl.fr (.int n)) => (m e).bind fun a => match a.1 with
    | .d (.int j) => .ok (.nx, a.2.set i (.fr (.int (k n j))))
    | _ => .stuck
  | _ => .stuck
theorem s_aug {e : Expr} {op : Operator} {x : Str} {pos' : Pos} {m : EDen} (i : Nat) {k : Int → Int → Int} (ho : PIp X op (ipI k)) (hN : X.N.Nodup) (he : PE X e (rE g W m)) (hi : X.N[i]? = some x := by rfl) (hx : Loc X.env.scope x := by first | exact Or.inl rfl | exact Or.inr rfl) (hf : X.fn x = true ∨ X.env.scope.names.lookup x = some .local := by first | exact .inl rfl | exact .inr rfl | assumption) :
    PS X (.AugAssign (.Name x pos') op e pos) (rS g W (sAug i k m)) :=
  ps_weak (ps_aug hN hi hx he ho hf) fun Dd σ H ⟨b, O, env, R, h⟩ => by
    unfold sAug at h
    split at h
    · rename_i n he
      obtain ⟨v, q1, q2⟩ := R.fr i _ he
      cases q2
      refine ⟨_, q1, (rE.bindS (m := m) R h).mono fun y H1 ⟨O1, p, e1, M, h1⟩ => ?_⟩
      split at h1
      · rename_i j hp
        have rp := M.rep
        simp only at hp
        rw [hp] at rp
        cases (show Rep g (hide H1 O1) (.int j) y from rp)
        exact ⟨n, j, rfl, rfl, h1.nx (Le.refl _) (M.env.setFr .int)⟩
      · exact h1.elim
    · exact h.elim
/-- a, b = x, y -/
def sPar (i j : Nat) (ms : ADen) : SDen := fun e => (ms e).bind fun a => (ofO (frzs a.1 a.2)).bind fun z => match z.1 with
  | [x, y] => .ok (.nx, (z.2.set i (.fr x)).set j (.fr y))
  | _ => .stuck
def sPar3 (i j l : Nat) (ms : ADen) : SDen := fun e => (ms e).bind fun a => (ofO (frzs a.1 a.2)).bind fun z => match z.1 with
  | [x, y, w] => .ok (.nx, ((z.2.set i (.fr x)).set j (.fr y)).set l (.fr w))
  | _ => .stuck
theorem rA.bindS {m : ADen} {b : Bas} {σ : L2.St} {H : Hp} {O : List Addr} {k : List P × DEnv → Res (Fl × DEnv)} {D : Ends} {env : DEnv} (R : REnv g b H O σ env) (h : PostS g W b H O ((m env).bind k) D) :
    rA g W m σ H fun vs H1 => ∃ O1 ps e, Le (hide H O) (hide H1 O1) ∧ REnv g b H1 O1 σ e ∧ RPs g b H1 O1 σ e ps vs ∧ PostS g W b H1 O1 (k (ps, e)) D :=
  rA.bind (F := fun H O r => PostS g W b H O r D) (fun _ _ _ z => z σ) (fun z => z) (fun _ _ _ l z => z.le l) R h
theorem s_par {i j : Nat} {x y : Str} {a c : Expr} {ms : ADen} {px py pt : Pos} {kt k2 pt2} (hc : X.calm = true) (hN : X.N.Nodup) (ha : PA X [a, c] (rA g W ms)) (hi : X.N[i]? = some x := by rfl) (hj : X.N[j]? = some y := by rfl) (hij : i ≠ j := by decide)
    (hx : X.env.scope.names.lookup x = some .local := by rfl) (hy : X.env.scope.names.lookup y = some .local := by rfl)
    (hw : swappedStores [.Tuple [.Name x px, .Name y py] kt pt] (.Tuple [a, c] k2 pt2) X.env = pure (some [x, y]) := by rfl)
    (hs : swapsWithSole [.Tuple [.Name x px, .Name y py] kt pt] (.Tuple [a, c] k2 pt2) pos.line X.env = pure false := by rfl) :
    PS X (.Assign [.Tuple [.Name x px, .Name y py] kt pt] (.Tuple [a, c] k2 pt2) pos) (rS g W (sPar i j ms)) :=
  ps_weak (ps_par hc hN hi hj hij hx hy ha hw hs) fun Dd σ H ⟨b, O, env, R, h⟩ => (rA.bindS (m := ms) R h).mono fun vs H1 ⟨O1, qs, e1, l1, R1, rs, h1⟩ => by
    obtain ⟨⟨ds, e2⟩, hz, h2⟩ := h1.ofO
    obtain ⟨O2, x2, R2, r2⟩ := frzs_ok R1 rs hz
    simp only at h2
    split at h2
    · cases r2 with
      | cons r3 r4 =>
        cases r4 with
        | cons r5 r6 =>
          cases r6
          exact ⟨_, _, rfl, h2.nx x2.le ((R2.setFr r3).setFr r5)⟩
    · exact h2.elim
theorem s_par3 {i j l : Nat} {x y w : Str} {a c d : Expr} {ms : ADen} {px py pz pt : Pos} {kt k2 pt2} (hc : X.calm = true) (hN : X.N.Nodup) (ha : PA X [a, c, d] (rA g W ms)) (hi : X.N[i]? = some x := by rfl) (hj : X.N[j]? = some y := by rfl) (hl : X.N[l]? = some w := by rfl)
    (hij : i ≠ j := by decide) (hil : i ≠ l := by decide) (hjl : j ≠ l := by decide)
    (hx : X.env.scope.names.lookup x = some .local := by rfl) (hy : X.env.scope.names.lookup y = some .local := by rfl) (hz : X.env.scope.names.lookup w = some .local := by rfl)
    (hw : swappedStores [.Tuple [.Name x px, .Name y py, .Name w pz] kt pt] (.Tuple [a, c, d] k2 pt2) X.env = pure (some [x, y, w]) := by rfl)
    (hs : swapsWithSole [.Tuple [.Name x px, .Name y py, .Name w pz] kt pt] (.Tuple [a, c, d] k2 pt2) pos.line X.env = pure false := by rfl) :
    PS X (.Assign [.Tuple [.Name x px, .Name y py, .Name w pz] kt pt] (.Tuple [a, c, d] k2 pt2) pos) (rS g W (sPar3 i j l ms)) :=
  ps_weak (ps_par3 hc hN hi hj hl hij hil hjl hx hy hz ha hw hs) fun Dd σ H ⟨b, O, env, R, h⟩ => (rA.bindS (m := ms) R h).mono fun vs H1 ⟨O1, qs, e1, l1, R1, rs, h1⟩ => by
    obtain ⟨⟨ds, e2⟩, hz, h2⟩ := h1.ofO
    obtain ⟨O2, x2, R2, r2⟩ := frzs_ok R1 rs hz
    simp only at h2
    split at h2
    · cases r2 with
      | cons r3 r4 =>
        cases r4 with
        | cons r5 r6 =>
          cases r6 with
          | cons r7 r8 =>
            cases r8
            exact ⟨_, _, _, rfl, h2.nx x2.le (((R2.setFr r3).setFr r5).setFr r7)⟩
    · exact h2.elim
end
/-! ### o[k] = v, o a name's own list or dict -/
/-- the object behind the store -/
def putAt (o k v : D) : Option D := match o with
  | .lst l => match k with
    | .int i => (ixN l.length i).map fun j => .lst (l.set j v)
    | _ => none
  | .dK l => if l.length < 16777216 then match k with
    | .int i => some (.dK (dput l (.inl i) v))
    | .str s => some (.dK (dput l (.inr s) v))
    | _ => none else none
  | .dT l => if l.length < 16777216 then match k with
    | .tup (.int i :: r) => (tupKey (.int i :: r)).map fun k => .dT (dput l k v)
    | _ => none else none
  | _ => none
def sPut (i : Nat) (mk mv : EDen) : SDen := fun e => (mv e).bind fun a => match (a.2[i]? : Option Sl) with
  | some (Sl.ow _) => (mk a.2).bind fun b => (ofO (b.1.frz b.2)).bind fun y => (ofO (a.1.fz.frz y.2)).bind fun z => match (z.2[i]? : Option Sl) with
    | some (Sl.ow o) => (ofO (putAt o y.1 z.1)).bind fun o' => .ok (.nx, z.2.set i (.ow o'))
    | _ => .stuck
  | _ => .stuck
theorem PSet.or {X : Cx} {t t' : TSet} (h : PSet X t) (h' : PSet X t') : PSet X fun o i v H Q => t o i v H Q ∨ t' o i v H Q := by
  intro pins s σ H o i v ov iv u Q I r1 r2 r3 q
  rcases q with q | q
  · exact h pins s σ H o i v ov iv u Q I r1 r2 r3 q
  · exact h' pins s σ H o i v ov iv u Q I r1 r2 r3 q
section
variable {g : G} {W : WX} {X : Cx} {pos : Pos}
theorem putAt_ok {H : Hp} {O : List Addr} {o k v o' : D} {a : Addr} {x y : V} {Q : Hp → Prop} (ha : a ∈ O) (w : OwnAt g H O o a) (rk : Rep g (hide H O) k x) (rv : Rep g (hide H O) v y) (h : putAt o k v = some o')
    (q : ∀ u, OwnAt g (upd H a u) O o' a → Q (upd H a u)) : rSetL (.ref a) x y H Q ∨ rSetD (.ref a) x y H Q := by
  cases o <;> simp only [putAt] at h <;> try cases h
  · rename_i l
    cases k <;> simp only at h <;> try cases h
    rename_i i
    cases hj : ixN l.length i with
    | none => rw [hj] at h; cases h
    | some j =>
      rw [hj] at h
      cases h
      obtain ⟨xs, h1, h2⟩ := w
      cases rk
      exact .inl ⟨a, xs, i, j, rfl, rfl, h1, by rw [← h2.len]; exact hj, q _ ⟨_, upd_same, reps_mut ha (h2.set rv j)⟩⟩
  · rename_i l
    split at h
    · rename_i hl
      obtain ⟨kvs, h1, h2, h3⟩ := w
      have len : kvs.length = l.length := by have := congrArg List.length h2; simpa using this
      cases k <;> simp only at h <;> cases h
      · rename_i i
        cases rk
        obtain ⟨p1, p2⟩ := dput_reps (k := (Sum.inl i : Key)) rv h2 h3
        exact .inr ⟨a, _, rfl, .inl ⟨kvs, .inl i, h1, rfl, by rw [sizeLine_eq]; omega, rfl⟩, q _ ⟨_, upd_same, p1, reps_mut ha p2⟩⟩
      · rename_i i
        cases rk
        obtain ⟨p1, p2⟩ := dput_reps (k := (Sum.inr i : Key)) rv h2 h3
        exact .inr ⟨a, _, rfl, .inl ⟨kvs, .inr i, h1, rfl, by rw [sizeLine_eq]; omega, rfl⟩, q _ ⟨_, upd_same, p1, reps_mut ha p2⟩⟩
    · cases h
  · rename_i l
    split at h
    · rename_i hl
      obtain ⟨kvs, h1, h2, h3⟩ := w
      have len : kvs.length = l.length := by have := congrArg List.length h2; simpa using this
      split at h
      · rename_i i r
        cases hk : tupKey (.int i :: r) with
        | none => rw [hk] at h; cases h
        | some k =>
          rw [hk] at h
          cases h
          obtain ⟨b, xs, rfl, h4, h5⟩ := View.tupI (O := O) (H := H) (.inl rk)
          rw [tupKey_eq hk h5] at h4
          obtain ⟨p1, p2⟩ := dput_reps (k := k) rv h2 h3
          exact .inr ⟨a, _, rfl, .inr ⟨kvs, k, b, h1, rfl, h4, by rw [sizeLine_eq]; omega, rfl⟩, q _ ⟨_, upd_same, p1, reps_mut ha p2⟩⟩
      · cases h
    · cases h
theorem s_put {kx value : Expr} {pos' : Pos} {mk mv : EDen} {y : Str} {py : Pos} (i : Nat) (hu : X.A.units + 1 < cLine) (hk : PE X kx (rE g W mk)) (hv : PE X value (rE g W mv)) (hN : X.N[i]? = some y := by rfl)
    (hvv : Vis X.env.scope y := by first | exact Or.inl rfl | exact Or.inr (Or.inl rfl) | exact Or.inr (Or.inr rfl)) (hd : (y == ("__debug__" : Str)) = false := by decide) (hcd : (y == ("__classdict__" : Str)) = false := by decide)
    (ha : ∀ v, assign (.Subscript (.Name y py) kx pos') X.env v = (do
      let ov ← holding [v] (eval (.Name y py) X.env)
      let iv ← holding [v, ov] (eval kx X.env)
      standAt pos'
      holding [v, ov, iv] (setItem ov iv v)
      release [v, ov, iv] []) := by intro _; rfl)
    (hs : swapsWithSole [.Subscript (.Name y py) kx pos'] value pos.line X.env = pure false := by rfl) (hw : swappedStores [.Subscript (.Name y py) kx pos'] value X.env = pure none := by rfl)
    (h1 : (assignEach [.Subscript (.Name y py) kx pos'] X.env).map (·.2) = [assign (.Subscript (.Name y py) kx pos') X.env] := by rfl) : PS X (.Assign [.Subscript (.Name y py) kx pos'] value pos) (rS g W (sPut i mk mv)) :=
  ps_weak (ps_asg hv (pg_sub (pe_var (i := i) hN hvv hd hcd) hk (MM.PSet.or set_list (set_dict hu)) ha) hs hw h1) fun Dd σ H ⟨b, O, env, R, h⟩ => (rE.bindS (m := mv) R h).mono fun v H1 ⟨O1, p, e1, M, h1⟩ => by
    obtain ⟨O2, x2, R2, r2⟩ := fz_ok M.env M.rep
    simp only at h1
    split at h1
    · rename_i d0 he
      obtain ⟨a, q1, _⟩ := R2.ow i d0 he
      refine ⟨_, q1, (rE.bindS (m := mk) R2 (h1.le x2.le)).mono fun kv H3 ⟨O3, p3, e3, M3, h3⟩ => ?_⟩
      obtain ⟨⟨k, e4⟩, hk, h3⟩ := h3.ofO
      obtain ⟨O4, x4, R4, r4⟩ := frz_ok M3.env M3.rep hk
      obtain ⟨⟨dv, e5⟩, hv, h5⟩ := (h3.le x4.le).ofO
      obtain ⟨O5, x5, R5, r5⟩ := frz_ok R4 (r2.move (env' := e4) p.fz_old (M3.le.trans x4.le)) hv
      have h5 := h5.le x5.le
      simp only at h5
      split at h5
      · rename_i o he5
        obtain ⟨o', ho, h6⟩ := h5.ofO
        obtain ⟨a', z1, z2, z3, z4, w⟩ := R5.ow i o he5
        rw [q1] at z1
        cases z1
        refine putAt_ok z2 w (r4.le x5.le) r5 ho fun u w' => ?_
        refine h6.nx ?_ (R5.mutate he5 q1 extB_upd w')
        rw [hide_upd z2]
        exact Le.refl _
      · exact h5.elim
    · exact h1.elim
end
/-! ### own lists: append, pop -/
def eApp (i : Nat) (m : EDen) : EDen := fun e => match (e[i]? : Option Sl) with
  | some (Sl.ow (.lst _)) => (m e).bind fun a => (ofO (a.1.frz a.2)).bind fun z => match (z.2[i]? : Option Sl) with
    | some (Sl.ow (.lst l)) => if l.length < 16777216 then .ok (.d .non, z.2.set i (.ow (.lst (l ++ [z.1])))) else .stuck
    | _ => .stuck
  | _ => .stuck
def ePop (i : Nat) : EDen := fun e => match (e[i]? : Option Sl) with
  | some (Sl.ow (.lst l)) => match l[l.length - 1]? with
    | some d => .ok (.d d, e.set i (.ow (.lst l.dropLast)))
    | none => .stuck
  | _ => .stuck
theorem Reps.dropLast {g : G} {H : Hp} {l : List D} {xs : List V} (r : Reps g H l xs) : Reps g H l.dropLast xs.dropLast := by
  rw [List.dropLast_eq_take, List.dropLast_eq_take, r.len]
  exact r.take _
section
variable {g : G} {W : WX} {X : Cx} {pos apos cpos : Pos}
theorem x_app {e : Expr} {m : EDen} {y : Str} {py : Pos} (i : Nat) (he : PE X e (rE g W m)) (hN : X.N[i]? = some y := by rfl)
    (hvv : Vis X.env.scope y := by first | exact Or.inl rfl | exact Or.inr (Or.inl rfl) | exact Or.inr (Or.inr rfl)) (hd : (y == ("__debug__" : Str)) = false := by decide) (hcd : (y == ("__classdict__" : Str)) = false := by decide)
    (hs1 : starEach [e] X.env = (false, eval e X.env) :: starEach [] X.env := by rfl)
    (hbase : attributeBase (.Name y py) "append" X.env (eval (.Name y py) X.env) = eval (.Name y py) X.env := by rfl)
    (hfew : ((backTo cpos (starEach [e] X.env)).all (fun x => !x.1) && (backToKw cpos (keywordEach [] X.env)).all (fun x => x.1.isSome)
      && decide (([e] : List Expr).length + ([] : List Keyword).length + (if ([] : List Keyword).isEmpty then 0 else 1) < 30)) = true := by rfl)
    (hline : (apos.endLine == cpos.line) = true := by rfl) (hplain : (backTo cpos (starEach [] X.env)).any (·.1) = false := by rfl) :
    PE X (.Call (.Attribute (.Name y py) "append" apos) [e] [] cpos) (rE g W (eApp i m)) :=
  pe_weak (pe_bm PySem.F.plainAttrs_list PySem.F.slot_list_append PySem.F.type_list_append mt_append (pe_var (i := i) hN hvv hd hcd) (pa_cons he pa_nil hs1) hbase hfew hline hs1 hplain) fun σ H Q ⟨b, O, env, R, h⟩ => by
    unfold eApp at h
    split at h
    · rename_i l0 he
      obtain ⟨a, q1, _, _, _, xs0, h0, _⟩ := R.ow i _ he
      refine ⟨_, q1, .inl ⟨rfl, xs0, SqL.of h0⟩, (rE.bindE (m := m) R h).mono fun v H1 ⟨O1, p, e1, M, h1⟩ => ?_⟩
      obtain ⟨⟨d, e2⟩, hz, h2⟩ := h1.ofO
      obtain ⟨O2, x2, R2, r2⟩ := frz_ok M.env M.rep hz
      have h2 := h2.le x2.le
      simp only at h2
      split at h2
      · rename_i l he2
        obtain ⟨hl, h2⟩ := h2.iff
        obtain ⟨a', z1, z2, z3, z4, xs, z5, z6⟩ := R2.ow i _ he2
        rw [q1] at z1
        cases z1
        refine ⟨a, xs, v, rfl, rfl, z5, by rw [sizeLine_eq, ← z6.len]; exact hl, ?_⟩
        refine h2 _ _ O2 ?_ (R2.mutate he2 q1 extB_upd ⟨_, upd_same, reps_mut z2 (z6.append (.cons r2 .nil))⟩) .non
        rw [hide_upd z2]
        exact Le.refl _
      · exact h2.elim
    · exact h.elim
theorem x_pop {y : Str} {py : Pos} (i : Nat) (hN : X.N[i]? = some y := by rfl)
    (hvv : Vis X.env.scope y := by first | exact Or.inl rfl | exact Or.inr (Or.inl rfl) | exact Or.inr (Or.inr rfl)) (hd : (y == ("__debug__" : Str)) = false := by decide) (hcd : (y == ("__classdict__" : Str)) = false := by decide)
    (hbase : attributeBase (.Name y py) "pop" X.env (eval (.Name y py) X.env) = eval (.Name y py) X.env := by rfl) (hline : (apos.endLine == cpos.line) = true := by rfl) :
    PE X (.Call (.Attribute (.Name y py) "pop" apos) [] [] cpos) (rE g W (ePop i)) :=
  pe_weak (pe_bm0 PySem.F.plainAttrs_list PySem.F.slot_list_pop PySem.F.type_list_pop mt_pop (pe_var (i := i) hN hvv hd hcd) hbase hline) fun σ H Q ⟨b, O, env, R, h⟩ => by
    unfold ePop at h
    split at h
    · rename_i l he
      obtain ⟨a, q1, z2, _, _, xs, h0, r0⟩ := R.ow i _ he
      split at h
      · rename_i d hd
        obtain ⟨v, hv, rv⟩ := r0.get hd
        refine ⟨_, q1, .inl ⟨rfl, xs, SqL.of h0⟩, a, xs, v, rfl, rfl, h0, by rw [← r0.len]; exact hv, ?_⟩
        refine h _ _ O ?_ (R.mutate he q1 extB_upd ⟨_, upd_same, reps_mut z2 r0.dropLast⟩) (rv.le ?_)
        · rw [hide_upd z2]; exact Le.refl _
        · rw [hide_upd z2]; exact Le.refl _
      · exact h.elim
    · exact h.elim
end
/-! ### displays -/
def eTup (ms : ADen) : EDen := fun e => (ms e).bind fun a => (ofO (frzs a.1 a.2)).bind fun z => if z.1.length ≤ 16777216 then .ok (.d (.tup z.1), z.2) else .stuck
def eLst (ms : ADen) : EDen := fun e => (ms e).bind fun a => (ofO (frzs a.1 a.2)).bind fun z => if z.1.length ≤ 16777216 then .ok (.n (.lst z.1), z.2) else .stuck
def eDNK : EDen := fun e => .ok (.n (.dK []), e)
def eDNT : EDen := fun e => .ok (.n (.dT []), e)
section
variable {g : G} {W : WX} {X : Cx} {pos : Pos} {es : List Expr} {ms : ADen}
theorem x_tup {x1} (h : PA X es (rA g W ms)) : PE X (.Tuple es x1 pos) (rE g W (eTup ms)) :=
  pe_weak (pe_tup h) fun σ H Q ⟨b, O, env, R, h⟩ => (rA.bindE (m := ms) R h).mono fun vs H1 ⟨O1, ps, e1, l1, R1, rs, h1⟩ => by
    obtain ⟨⟨ds, e2⟩, hz, h2⟩ := h1.ofO
    obtain ⟨O2, x2, R2, r2⟩ := frzs_ok R1 rs hz
    obtain ⟨hl, h2⟩ := h2.iff
    refine ⟨by rw [sizeLine_eq, ← r2.len]; exact hl, fun p n => ?_⟩
    exact h2 _ _ O2 (x2.trans (hide_ext (Ext.new n))).le (R2.ext (Ext.new n)) (rep_newT R2.occ r2 n)
theorem x_lst (h : PA X es (rA g W ms)) : PE X (.List es pos) (rE g W (eLst ms)) :=
  pe_weak (pe_lst h) fun σ H Q ⟨b, O, env, R, h⟩ => (rA.bindE (m := ms) R h).mono fun vs H1 ⟨O1, ps, e1, l1, R1, rs, h1⟩ => by
    obtain ⟨⟨ds, e2⟩, hz, h2⟩ := h1.ofO
    obtain ⟨O2, x2, R2, r2⟩ := frzs_ok R1 rs hz
    obtain ⟨hl, h2⟩ := h2.iff
    refine ⟨by rw [sizeLine_eq, ← r2.len]; exact hl, fun p n => ?_⟩
    exact endN R2 (h2.le x2.le) p _ n ⟨_, upd_same, r2.layN n⟩
theorem x_dnk : PE X (.Dict [] [] pos) (rE g W eDNK) := pe_weak pe_dnewK fun σ H Q ⟨b, O, env, R, h⟩ p n => endN R h p _ n ⟨_, upd_same, rfl, .nil⟩
theorem x_dnt : PE X (.Dict [] [] pos) (rE g W eDNT) := pe_weak pe_dnewT fun σ H Q ⟨b, O, env, R, h⟩ p n => endN R h p _ n ⟨_, upd_same, rfl, .nil⟩
end
end MM

set_option maxHeartbeats 2000000
namespace MM
open PySem PySem.Spec PyProof.Rows L2

/-! ### + of texts, lists, tuples; repeats -/
def kCatS : D → D → Option D
  | .str i, .str j => if i.length + j.length ≤ 16777216 then some (.str (i ++ j)) else none
  | _, _ => none
theorem catS_op {g : G} : Op2 g (fun x y H Q => ∃ i j, x = .str i ∧ y = .str j ∧ i.length + j.length ≤ sizeLine ∧ Q (.str (i ++ j)) H) (f2 kCatS) := f2_op fun H O d e z x y Q _ hx hy hz q => by
  cases d <;> cases e <;> simp only [kCatS] at hz <;> try cases hz
  split at hz
  · rename_i h
    cases hz
    exact ⟨_, _, hx.str, hy.str, by rw [sizeLine_eq]; exact h, q _ _ (Ext.refl _) .str⟩
  · cases hz
def kCatL : D → D → Option D
  | .lst i, .lst j => if i.length + j.length ≤ 16777216 then some (.lst (i ++ j)) else none
  | _, _ => none
theorem catL_op {g : G} : Op2 g rCat (n2 kCatL) := n2_op fun H O d e z x y Q _ hx hy hz q => by
  cases d <;> cases e <;> simp only [kCatL] at hz <;> try cases hz
  split at hz
  · rename_i h
    cases hz
    obtain ⟨a, xs, rfl, h1, h2⟩ := hx.lst
    obtain ⟨b, ys, rfl, h3, h4⟩ := hy.lst
    exact ⟨a, b, xs, ys, rfl, rfl, h1, h3, by rw [sizeLine_eq, ← h2.len, ← h4.len]; exact h, fun p n => q p _ n ⟨_, upd_same, (h2.append h4).layN n⟩⟩
  · cases hz
def kCatT : D → D → Option D
  | .tup i, .tup j => if i.length + j.length ≤ 16777216 then some (.tup (i ++ j)) else none
  | _, _ => none
theorem catT_op {g : G} : Op2 g (rCatA g.K) (f2 kCatT) := f2_op fun H O d e z x y Q R hx hy hz q => by
  cases d <;> cases e <;> simp only [kCatT] at hz <;> try cases hz
  split at hz
  · rename_i l m h
    cases hz
    have hx' := hx
    have hy' := hy
    have nO : ∀ {d v}, View g H O (.tup d) v → Rep g (hide H O) (.tup d) v := fun {d v} h => by
      rcases h with h | ⟨_, _, h⟩
      · exact h
      · exact h.elim
    obtain ⟨a, xs, rfl, h1, h2⟩ := hx.tup
    obtain ⟨b, ys, rfl, h3, h4⟩ := hy.tup
    refine ⟨a, b, xs, ys, rfl, rfl, h1, h3, by rw [sizeLine_eq, ← h2.len, ← h4.len]; exact h, fun ex => ?_, fun ex ey => ?_, fun _ _ p n => ?_⟩
    · have el : l = [] := List.length_eq_zero_iff.mp (h2.len.trans (by rw [ex]; rfl))
      subst el
      exact q _ _ (Ext.refl _) (nO hy')
    · have el : m = [] := List.length_eq_zero_iff.mp (h4.len.trans (by rw [ey]; rfl))
      subst el
      refine q _ _ (Ext.refl _) ?_
      rw [List.append_nil]
      exact nO hx'
    · exact q _ _ (Ext.new n) (rep_newT R (h2.append h4) n)
  · cases hz
def kRepL : D → D → Option D
  | .lst i, .int k => if -9223372036854775808 ≤ k ∧ k < 9223372036854775808 ∧ i.length * k.toNat ≤ 16777216 then some (.lst (List.replicate k.toNat i).flatten) else none
  | _, _ => none
theorem Reps.flat {g : G} {H : Hp} {l : List D} {xs : List V} (r : Reps g H l xs) : ∀ n : Nat, Reps g H (List.replicate n l).flatten (List.replicate n xs).flatten
  | 0 => .nil
  | n + 1 => by rw [List.replicate_succ, List.replicate_succ, List.flatten_cons, List.flatten_cons]; exact r.append (r.flat n)
theorem repL_op {g : G} : Op2 g rRep (n2 kRepL) := n2_op fun H O d e z x y Q _ hx hy hz q => by
  cases d <;> cases e <;> simp only [kRepL] at hz <;> try cases hz
  split at hz
  · rename_i l k h
    cases hz
    obtain ⟨a, xs, rfl, h1, h2⟩ := hx.lst
    rw [hy.int]
    exact ⟨a, k, xs, rfl, rfl, h1, h.1, h.2.1, by rw [sizeLine_eq, ← h2.len]; exact h.2.2, fun p n => q p _ n ⟨_, upd_same, (h2.flat k.toNat).layN n⟩⟩
  · cases hz
def eCatS (ma mc : EDen) : EDen := bin2 ma mc (f2 kCatS)
def eCatL (ma mc : EDen) : EDen := bin2 ma mc (n2 kCatL)
def eCatT (ma mc : EDen) : EDen := bin2 ma mc (f2 kCatT)
def eRepL (ma mc : EDen) : EDen := bin2 ma mc (n2 kRepL)
section
variable {g : G} {W : WX} {X : Cx} {pos : Pos} {a c : Expr} {ma mc : EDen}
theorem x_catS (ha : PE X a (rE g W ma)) (hc : PE X c (rE g W mc)) : PE X (.BinOp a .Add c pos) (rE g W (eCatS ma mc)) := x_bin op_add_str catS_op ha hc
theorem x_catL (ha : PE X a (rE g W ma)) (hc : PE X c (rE g W mc)) : PE X (.BinOp a .Add c pos) (rE g W (eCatL ma mc)) := x_bin op_cat catL_op ha hc
theorem x_catT (hK : X.K = g.K) (ha : PE X a (rE g W ma)) (hc : PE X c (rE g W mc)) : PE X (.BinOp a .Add c pos) (rE g W (eCatT ma mc)) := pe_weak (pe_op op_catA ha hc) fun _ _ _ h => by rw [hK]; exact sim2 catT_op h
theorem x_repL (ha : PE X a (rE g W ma)) (hc : PE X c (rE g W mc)) : PE X (.BinOp a .Mult c pos) (rE g W (eRepL ma mc)) := x_bin op_rep repL_op ha hc
end
/-! ### in a list, a tuple of flat items; in a text -/
def flV : D → Option V
  | .non => some .non
  | .bl b => some (.bl b)
  | .int i => some (.int i)
  | .str s => some (.str s)
  | _ => none
def flVs : List D → Option (List V)
  | [] => some []
  | d :: r => (flV d).bind fun v => (flVs r).map (v :: ·)
theorem flV_flat {d : D} {v : V} (h : flV d = some v) : flatV v = true := by
  cases d <;> simp only [flV] at h <;> cases h <;> rfl
theorem flVs_flat : ∀ {l : List D} {vs : List V}, flVs l = some vs → vs.all flatV = true
  | [], _, h => by cases h; rfl
  | d :: r, vs, h => by
    simp only [flVs] at h
    cases h1 : flV d with
    | none => rw [h1] at h; cases h
    | some v =>
      cases h2 : flVs r with
      | none => simp only [h1, h2, Option.bind_some, Option.map_none] at h; cases h
      | some ws =>
        simp only [h1, h2, Option.bind_some, Option.map_some] at h
        cases h
        rw [List.all_cons, flV_flat h1, flVs_flat h2]; rfl
theorem View.fl {g : G} {H : Hp} {O : List Addr} {d : D} {v w : V} (h : View g H O d v) (e : flV d = some w) : v = w := by
  cases d <;> simp only [flV] at e <;> cases e
  · exact h.non
  · exact h.bl
  · exact h.int
  · exact h.str
theorem Reps.fl {g : G} {H : Hp} : ∀ {l : List D} {xs vs : List V}, Reps g H l xs → flVs l = some vs → xs = vs
  | [], _, _, .nil, h => by cases h; rfl
  | d :: r, _, vs, .cons r1 r2, h => by
    simp only [flVs] at h
    cases h1 : flV d with
    | none => rw [h1] at h; cases h
    | some v =>
      cases h2 : flVs r with
      | none => simp only [h1, h2, Option.bind_some, Option.map_none] at h; cases h
      | some ws =>
        simp only [h1, h2, Option.bind_some, Option.map_some] at h
        cases h
        rw [r2.fl h2]
        congr 1
        exact View.fl (O := []) (H := hide H []) (.inl (by
          have e : hide (hide H []) [] = H := by funext b; rw [hide_out (by simp), hide_out (by simp)]
          rw [e]; exact r1)) h1
def seqOf : D → Option (List D)
  | .lst l => some l
  | .tup l => some l
  | .scr l => some (l.map .int)
  | _ => none
theorem View.seq {g : G} {H : Hp} {O : List Addr} {d : D} {v : V} {l : List D} (h : View g H O d v) (e : seqOf d = some l) : ∃ a xs, v = .ref a ∧ (SqL g.K H a xs ∨ SqT g.K H a xs) ∧ Reps g (hide H O) l xs := by
  cases d <;> simp only [seqOf] at e <;> cases e
  · obtain ⟨a, xs, h1, h2, h3⟩ := h.tup
    exact ⟨a, xs, h1, .inr h2, h3⟩
  · obtain ⟨a, xs, h1, h2, h3⟩ := h.asL (l := _) rfl
    exact ⟨a, xs, h1, .inl h2, h3⟩
  · obtain ⟨a, xs, h1, h2, h3⟩ := h.asL (l := _) rfl
    exact ⟨a, xs, h1, .inl h2, h3⟩
def kInB (d e : D) : Option Bool := (seqOf e).bind fun l => (flV d).bind fun v => (flVs l).map fun vs => inV v vs
def kIn (d e : D) : Option D := (kInB d e).map .bl
def kNotIn (d e : D) : Option D := (kInB d e).map fun b => .bl (!b)
theorem kInB_some {d e : D} {b : Bool} (h : kInB d e = some b) : ∃ l v vs, seqOf e = some l ∧ flV d = some v ∧ flVs l = some vs ∧ b = inV v vs := by
  unfold kInB at h
  cases h1 : seqOf e with
  | none => rw [h1] at h; cases h
  | some l =>
    cases h2 : flV d with
    | none => simp only [h1, h2, Option.bind_some, Option.bind_none] at h; cases h
    | some v =>
      cases h3 : flVs l with
      | none => simp only [h1, h2, h3, Option.bind_some, Option.map_none] at h; cases h
      | some vs => simp only [h1, h2, h3, Option.bind_some, Option.map_some] at h; cases h; exact ⟨l, v, vs, rfl, rfl, h3, rfl⟩
theorem in_op {g : G} {neg : Bool} : Op2 g (rIn g.K neg) (f2 (if neg then kNotIn else kIn)) := f2_op fun H O d e z x y Q _ hx hy hz q => by
  have hb : ∃ b, kInB d e = some b ∧ z = .bl (if neg then !b else b) := by
    cases neg
    · simp only [Bool.false_eq_true, if_false, kIn] at hz
      cases hb : kInB d e with
      | none => rw [hb] at hz; cases hz
      | some b => rw [hb] at hz; cases hz; exact ⟨b, rfl, rfl⟩
    · simp only [if_true, kNotIn] at hz
      cases hb : kInB d e with
      | none => rw [hb] at hz; cases hz
      | some b => rw [hb] at hz; cases hz; exact ⟨b, rfl, rfl⟩
  obtain ⟨b, hb, rfl⟩ := hb
  obtain ⟨l, v, vs, h1, h2, h3, rfl⟩ := kInB_some hb
  obtain ⟨a, xs, rfl, h4, h5⟩ := hy.seq h1
  rw [hx.fl h2]
  rw [h5.fl h3] at h4
  exact ⟨a, vs, rfl, h4, flV_flat h2, flVs_flat h3, q _ _ (Ext.refl _) .bl⟩
/-- a text in a text -/
def kInS : D → D → Option D
  | .str i, .str j => some (.bl (!(Builtin.Str.occurrences j i 0 j.length 1).isEmpty))
  | _, _ => none
def kNotInS : D → D → Option D
  | .str i, .str j => some (.bl (!(!(Builtin.Str.occurrences j i 0 j.length 1).isEmpty)))
  | _, _ => none
theorem inS_op {g : G} : Op2 g (fun x y H Q => ∃ i j, x = .str i ∧ y = .str j ∧ Q (.bl (!(Builtin.Str.occurrences j i 0 j.length 1).isEmpty)) H) (f2 kInS) := f2_op fun H O d e z x y Q _ hx hy hz q => by
  cases d <;> cases e <;> simp only [kInS] at hz <;> cases hz
  exact ⟨_, _, hx.str, hy.str, q _ _ (Ext.refl _) .bl⟩
theorem notInS_op {g : G} : Op2 g (fun x y H Q => ∃ i j, x = .str i ∧ y = .str j ∧ Q (.bl (!(!(Builtin.Str.occurrences j i 0 j.length 1).isEmpty))) H) (f2 kNotInS) := f2_op fun H O d e z x y Q _ hx hy hz q => by
  cases d <;> cases e <;> simp only [kNotInS] at hz <;> cases hz
  exact ⟨_, _, hx.str, hy.str, q _ _ (Ext.refl _) .bl⟩
def eIn (ma mc : EDen) : EDen := bin2 ma mc (f2 kIn)
def eNotIn (ma mc : EDen) : EDen := bin2 ma mc (f2 kNotIn)
def eInS (ma mc : EDen) : EDen := bin2 ma mc (f2 kInS)
def eNotInS (ma mc : EDen) : EDen := bin2 ma mc (f2 kNotInS)
section
variable {g : G} {W : WX} {X : Cx} {pos : Pos} {a c : Expr} {ma mc : EDen}
theorem x_in (hK : X.K = g.K) (ha : PE X a (rE g W ma)) (hc : PE X c (rE g W mc)) (hm : behindInMarks .In c = false := by rfl) : PE X (.Compare a [.In] [c] pos) (rE g W (eIn ma mc)) :=
  pe_weak (pe_cmpR op_in_seq ha hc hm) fun _ _ _ h => by rw [hK]; exact sim2 (in_op (neg := false)) h
theorem x_notIn (hK : X.K = g.K) (ha : PE X a (rE g W ma)) (hc : PE X c (rE g W mc)) (hm : behindInMarks .NotIn c = false := by rfl) : PE X (.Compare a [.NotIn] [c] pos) (rE g W (eNotIn ma mc)) :=
  pe_weak (pe_cmpR op_notIn_seq ha hc hm) fun _ _ _ h => by rw [hK]; exact sim2 (in_op (neg := true)) h
theorem x_inS (ha : PE X a (rE g W ma)) (hc : PE X c (rE g W mc)) (hm : behindInMarks .In c = false := by rfl) : PE X (.Compare a [.In] [c] pos) (rE g W (eInS ma mc)) := x_cmp op_in_str inS_op ha hc hm
theorem x_notInS (ha : PE X a (rE g W ma)) (hc : PE X c (rE g W mc)) (hm : behindInMarks .NotIn c = false := by rfl) : PE X (.Compare a [.NotIn] [c] pos) (rE g W (eNotInS ma mc)) := x_cmp op_notIn_str notInS_op ha hc hm
end
/-! ### == of data at any depth -/
mutual
def pyD : D → Option PyData
  | .non => some .none
  | .bl b => some (.bool b)
  | .int i => some (.int i)
  | .str s => some (.str s)
  | .tup l => (pyDs l).map .tuple
  | .lst l => (pyDs l).map .list
  | .scr l => some (.list (l.map .int))
  | _ => none
def pyDs : List D → Option (List PyData)
  | [] => some []
  | d :: r => (pyD d).bind fun x => (pyDs r).map (x :: ·)
end
theorem dpAll_ints {K : PySem.W.Frag} {H : Hp} : ∀ ns : List Int, DpAll K H (ns.map V.int) (ns.map PyData.int)
  | [] => .nil
  | i :: r => .cons (.int i) (dpAll_ints r)
mutual
theorem rep_dp {g : G} {H H' : Hp} (s : Ext H' H) : ∀ {d : D} {v : V} {p : PyData}, Rep g H' d v → pyD d = some p → Dp g.K H v p
  | .non, _, _, .non, h => by cases h; exact .non
  | .bl _, _, _, .bl, h => by cases h; exact .bl _
  | .int _, _, _, .int, h => by cases h; exact .int _
  | .str _, _, _, .str, h => by cases h; exact .str _
  | .tup l, v, p, r, h => by
    simp only [pyD] at h
    cases hp : pyDs l with
    | none => rw [hp] at h; cases h
    | some ps =>
      rw [hp] at h
      cases h
      generalize he : D.tup l = t at r
      cases r with
      | tup h1 r1 => cases he; exact .tup (.inl (.inl (s _ _ h1))) (reps_dp s r1 hp)
      | ktup h1 =>
        rename_i l' a
        cases he
        exact .tup (h1 H) (reps_dp s (Reps.strs l') hp)
      | _ => cases he
  | .lst l, _, p, .lst h1 r1, h => by
    simp only [pyD] at h
    cases hp : pyDs l with
    | none => rw [hp] at h; cases h
    | some ps => rw [hp] at h; cases h; exact .lst (SqL.of (s _ _ h1)) (reps_dp s r1 hp)
  | .scr l, _, p, .scr h1, h => by
    cases h
    exact .lst (sqL_le s.le h1) (dpAll_ints l)
  | .dK _, _, _, _, h => by cases h
  | .dT _, _, _, _, h => by cases h
  | .obj _ _, _, _, _, h => by cases h
  | .fn _, _, _, _, h => by cases h
theorem reps_dp {g : G} {H H' : Hp} (s : Ext H' H) : ∀ {l : List D} {xs : List V} {ps : List PyData}, Reps g H' l xs → pyDs l = some ps → DpAll g.K H xs ps
  | [], _, _, .nil, h => by cases h; exact .nil
  | d :: l, _, ps, .cons r1 r2, h => by
    simp only [pyDs] at h
    cases h1 : pyD d with
    | none => rw [h1] at h; cases h
    | some p =>
      cases h2 : pyDs l with
      | none => simp only [h1, h2, Option.bind_some, Option.map_none] at h; cases h
      | some qs =>
        simp only [h1, h2, Option.bind_some, Option.map_some] at h
        cases h
        exact .cons (rep_dp s r1 h1) (reps_dp s r2 h2)
end
theorem View.dp {g : G} {H : Hp} {O : List Addr} {d : D} {v : V} {p : PyData} (h : View g H O d v) (e : pyD d = some p) : Dp g.K H v p := by
  rcases h with h | ⟨a, rfl, h⟩
  · exact rep_dp hide_sub h e
  · cases d <;> first | (exact h.elim) | (simp only [pyD] at e; cases e; done) | skip
    rename_i l
    obtain ⟨xs, h1, h2⟩ := h
    simp only [pyD] at e
    cases hp : pyDs l with
    | none => rw [hp] at e; cases e
    | some ps => rw [hp] at e; cases e; exact .lst (SqL.of h1) (reps_dp hide_sub h2 hp)
def kEqB (d e : D) : Option Bool := (pyD d).bind fun p => (pyD e).bind fun q => if SeqAt.shaped p && SeqAt.shaped q then some (PyData.eqv p q) else none
def kEqD (d e : D) : Option D := (kEqB d e).map .bl
def kNeD (d e : D) : Option D := (kEqB d e).map fun b => .bl (!b)
theorem kEqB_some {d e : D} {b : Bool} (h : kEqB d e = some b) : ∃ p q, pyD d = some p ∧ pyD e = some q ∧ SeqAt.shaped p = true ∧ SeqAt.shaped q = true ∧ b = PyData.eqv p q := by
  unfold kEqB at h
  cases h1 : pyD d with
  | none => rw [h1] at h; cases h
  | some p =>
    cases h2 : pyD e with
    | none => simp only [h1, h2, Option.bind_some, Option.bind_none] at h; cases h
    | some q =>
      simp only [h1, h2, Option.bind_some] at h
      split at h
      · rename_i z
        rw [Bool.and_eq_true] at z
        cases h
        exact ⟨p, q, rfl, rfl, z.1, z.2, rfl⟩
      · cases h
theorem eqD_op {g : G} : Op2 g (rEqD g.K) (f2 kEqD) := f2_op fun H O d e z x y Q _ hx hy hz q => by
  unfold kEqD at hz
  cases hb : kEqB d e with
  | none => rw [hb] at hz; cases hz
  | some b =>
    rw [hb] at hz
    cases hz
    obtain ⟨p, r, h1, h2, h3, h4, rfl⟩ := kEqB_some hb
    exact ⟨p, r, hx.dp h1, hy.dp h2, h3, h4, q _ _ (Ext.refl _) .bl⟩
theorem neD_op {g : G} : Op2 g (rNeD g.K) (f2 kNeD) := f2_op fun H O d e z x y Q _ hx hy hz q => by
  unfold kNeD at hz
  cases hb : kEqB d e with
  | none => rw [hb] at hz; cases hz
  | some b =>
    rw [hb] at hz
    cases hz
    obtain ⟨p, r, h1, h2, h3, h4, rfl⟩ := kEqB_some hb
    exact ⟨p, r, hx.dp h1, hy.dp h2, h3, h4, q _ _ (Ext.refl _) .bl⟩
def eEqD (ma mc : EDen) : EDen := bin2 ma mc (f2 kEqD)
def eNeD (ma mc : EDen) : EDen := bin2 ma mc (f2 kNeD)
section
variable {g : G} {W : WX} {X : Cx} {pos : Pos} {a c : Expr} {ma mc : EDen}
theorem x_eqD (hK : X.K = g.K) (hu : X.A.units + 64 < cLine) (ha : PE X a (rE g W ma)) (hc : PE X c (rE g W mc)) : PE X (.Compare a [.Eq] [c] pos) (rE g W (eEqD ma mc)) :=
  pe_weak (pe_cmpR (op_eqD hu) ha hc (nomark _)) fun _ _ _ h => by rw [hK]; exact sim2 eqD_op h
theorem x_neD (hK : X.K = g.K) (hu : X.A.units + 64 < cLine) (ha : PE X a (rE g W ma)) (hc : PE X c (rE g W mc)) : PE X (.Compare a [.NotEq] [c] pos) (rE g W (eNeD ma mc)) :=
  pe_weak (pe_cmpR (op_neD hu) ha hc (nomark _)) fun _ _ _ h => by rw [hK]; exact sim2 neD_op h
end
/-! ### slices -/
abbrev ODen := DEnv → Res (Option Int × DEnv)
def oNo : ODen := fun e => .ok (none, e)
def oAt (m : EDen) : ODen := fun e => (m e).bind fun a => match a.1 with
  | .d (.int i) => .ok (some i, a.2)
  | _ => .stuck
def PostO (g : G) (W : WX) (b : Bas) (σ : L2.St) (H : Hp) (O : List Addr) (r : Res (Option Int × DEnv)) (Q : Option Int → Hp → Prop) : Prop := match r with
  | .ok (k, e) => ∀ H' O', Le (hide H O) (hide H' O') → REnv g b H' O' σ e → Q k H'
  | .err c f e => PostX g W b H O σ c f e
  | .stuck => False
def rO (g : G) (W : WX) (m : ODen) : TO := fun σ H Q => ∃ b O env, REnv g b H O σ env ∧ PostO g W b σ H O (m env) Q
theorem po_weak {X : Cx} {e : Option Expr} {t t' : TO} (h : PO X e t) (w : ∀ σ H Q, t' σ H Q → t σ H Q) : PO X e t' := ⟨fun pins s σ H Q I q => h.run pins s σ H Q I (w σ H Q q)⟩
def cutD (l : List D) (lo hi : Option Int) : List D := (l.drop (HT.sIx l.length 0 lo)).take (HT.sIx l.length l.length hi - HT.sIx l.length 0 lo)
def kSl (d : D) (lo hi : Option Int) : Option P := match d with
  | .lst l => some (.n (.lst (cutD l lo hi)))
  | .scr l => some (.n (.lst (cutD (l.map .int) lo hi)))
  | .tup l => some (.d (.tup (cutD l lo hi)))
  | .str z => if z.length ≤ 16777216 then some (.d (.str (cutS z lo hi))) else none
  | _ => none
def eSl (mo : EDen) (ml mh : ODen) : EDen := fun e => (mo e).bind fun a => (ml a.2).bind fun l => (mh l.2).bind fun h => (ofO (a.1.fz.vw h.2)).bind fun d => (ofO (kSl d l.1 h.1)).bind fun p => .ok (p, h.2)
theorem Reps.cut {g : G} {H : Hp} {l : List D} {xs : List V} (r : Reps g H l xs) (lo hi : Option Int) : Reps g H (cutD l lo hi) (cutV xs lo hi) := by
  unfold cutD cutV
  rw [r.len]
  exact (r.drop _).take _
section
variable {g : G} {W : WX} {X : Cx} {pos p2 : Pos} {e a : Expr} {lo hi : Option Expr} {mo m : EDen} {ml mh : ODen}
theorem o_no : PO X none (rO g W oNo) := po_weak po_none fun σ H Q ⟨b, O, env, R, h⟩ => h H O (Le.refl _) R
theorem o_at (h : PE X a (rE g W m)) : PO X (some a) (rO g W (oAt m)) := po_weak (po_some h) fun σ H Q ⟨b, O, env, R, h⟩ =>
  (rE.bind (m := m) (F := fun H O r => PostO g W b σ H O r Q) (fun _ _ _ z => z) (fun z => z) (fun H1 O1 r l z => match r, z with
    | .ok (_, _), z => fun H' O' l' => z H' O' (l.trans l')
    | .err _ _ _, z => fun cls dd H' O' l' => z cls dd H' O' (l.trans l')
    | .stuck, z => z) R h).mono fun v H1 ⟨O1, p, e1, M, h1⟩ => by
    match p, h1, M.rep with
    | .d (.int i), h1, rp =>
      cases (show Rep g (hide H1 O1) (.int i) v from rp)
      exact ⟨i, rfl, h1 H1 O1 (Le.refl _) M.env⟩
    | .d .non, h1, _ | .d (.bl _), h1, _ | .d (.str _), h1, _ | .d (.tup _), h1, _ | .d (.lst _), h1, _ | .d (.dK _), h1, _ | .d (.dT _), h1, _ | .d (.obj _ _), h1, _ | .d (.fn _), h1, _ | .d (.scr _), h1, _ | .n _, h1, _ | .s _, h1, _ => exact h1.elim
theorem rO.bindE {m : ODen} {b : Bas} {σ : L2.St} {H : Hp} {O : List Addr} {k : Option Int × DEnv → Res (P × DEnv)} {Q : VK} {env : DEnv} (R : REnv g b H O σ env) (h : PostE g W b σ H O ((m env).bind k) Q) :
    rO g W m σ H fun c H1 => ∃ O1 e, Le (hide H O) (hide H1 O1) ∧ REnv g b H1 O1 σ e ∧ PostE g W b σ H1 O1 (k (c, e)) Q := by
  refine ⟨b, O, env, R, ?_⟩
  cases z : m env with
  | ok a =>
    obtain ⟨p, e⟩ := a
    rw [z] at h
    exact fun H' O' l R' => ⟨O', e, l, R', PostE.le l h⟩
  | err c f e => rw [z] at h; exact h
  | stuck => rw [z] at h; exact h
theorem rO.mono {m : ODen} {σ : L2.St} {H : Hp} {Q Q' : Option Int → Hp → Prop} (h : rO g W m σ H Q) (k : ∀ v H', Q v H' → Q' v H') : rO g W m σ H Q' := by
  obtain ⟨b, O, env, R, h⟩ := h
  refine ⟨b, O, env, R, ?_⟩
  revert h
  cases m env with
  | ok a => exact fun h H' O' l R => k _ H' (h H' O' l R)
  | err c f e => exact fun h => h
  | stuck => exact fun h => h
theorem x_slice (hK : X.K = g.K) (ho : PE X e (rE g W mo)) (hl : PO X lo (rO g W ml)) (hh : PO X hi (rO g W mh)) : PE X (.Subscript e (.Slice lo hi none p2) pos) (rE g W (eSl mo ml mh)) :=
  pe_weak (pe_slice (sl_list.or (sl_tupA.or sl_str)) ho hl hh) fun σ H Q ⟨b, O, env, R, h⟩ => (rE.bindE (m := mo) R h).mono fun v H1 ⟨O1, p, e1, M, h1⟩ => by
    obtain ⟨O2, x2, R2, r2⟩ := fz_ok M.env M.rep
    refine (rO.bindE (m := ml) R2 (h1.le x2.le)).mono fun l H3 ⟨O3, e3, l3, R3, h3⟩ => ?_
    refine (rO.bindE (m := mh) R3 h3).mono fun u H4 ⟨O4, e4, l4, R4, h4⟩ => ?_
    obtain ⟨d, hd, h4⟩ := h4.ofO
    obtain ⟨q, hq, h4⟩ := h4.ofO
    have vd := vw_ok R4 (r2.move (env' := e4) p.fz_old (l3.trans l4)) hd
    cases d <;> simp only [kSl] at hq <;> try cases hq
    · rename_i z
      split at hq
      · rename_i hz
        cases hq
        rw [vd.str]
        exact .inr (.inr ⟨z, rfl, by rw [sizeLine_eq]; exact hz, endD R4 h4 _ _ (Ext.refl _) .str⟩)
      · cases hq
    · rename_i l0 _
      have v0 : Rep g (hide H4 O4) (.tup l0) v := by
        rcases vd with h | ⟨_, _, h⟩
        · exact h
        · exact h.elim
      obtain ⟨a, xs, rfl, q1, q2⟩ := vd.tup
      rw [hK]
      refine .inr (.inl ⟨a, xs, rfl, q1, fun hw => ?_, fun hw p n => ?_⟩)
      · refine endD R4 h4 _ _ (Ext.refl _) ?_
        have : cutD l0 l u = l0 := by
          unfold cutD
          rw [q2.len, hw.1, hw.2, ← q2.len]
          simp
        rw [this]
        exact v0
      · exact endD R4 h4 _ _ (Ext.new n) (rep_newT R4.occ (q2.cut l u) n)
    · rename_i l0 _
      obtain ⟨a, xs, rfl, q1, q2⟩ := vd.asL (l := l0) rfl
      rw [hK]
      exact .inl ⟨a, xs, rfl, q1, fun p n => endN R4 h4 p _ n ⟨_, upd_same, (q2.cut l u).layN n⟩⟩
    · rename_i l0 _
      obtain ⟨a, xs, rfl, q1, q2⟩ := vd.asL (l := l0.map .int) rfl
      rw [hK]
      exact .inl ⟨a, xs, rfl, q1, fun p n => endN R4 h4 p _ n ⟨_, upd_same, (q2.cut l u).layN n⟩⟩
end
/-- xs[::-1] -/
def kRev (d : D) : Option D := (asL d).map fun l => .lst l.reverse
def eRev (m : EDen) : EDen := un1 m (n1 kRev)
theorem rev_op {g : G} : Op1 g (fun x H1 Q => ∃ a xs, x = .ref a ∧ SqL g.K H1 a xs ∧ ∀ p, H1 p = none → Q (.ref p) (upd H1 p (.lst xs.reverse))) (n1 kRev) := n1_op fun H O d z x Q _ hx hz q => by
  unfold kRev at hz
  cases hl : asL d with
  | none => rw [hl] at hz; cases hz
  | some l =>
    rw [hl] at hz
    cases hz
    obtain ⟨a, xs, rfl, h1, h2⟩ := hx.asL hl
    exact ⟨a, xs, rfl, h1, fun p n => q p _ n ⟨_, upd_same, h2.reverse.layN n⟩⟩
theorem x_rev {g : G} {W : WX} {X : Cx} {pos p1 p2 p3 : Pos} {k : Nat} {e : Expr} {m : EDen} (hK : X.K = g.K) (he : PE X e (rE g W m)) : PE X (.Subscript e (.Slice none none (some (.UnaryOp .USub (.Constant (.int 1) k p1) p2)) p3) pos) (rE g W (eRev m)) :=
  pe_weak (pe_revL he) fun σ H Q h => by rw [hK]; exact sim1 rev_op h
end MM

set_option maxHeartbeats 2000000
namespace MM
open PySem PySem.Spec PyProof.Rows L2

section
variable {g : G} {W : WX} {X : Cx} {b : Bas} {σ : L2.St} {H : Hp} {O : List Addr}
theorem PostI.le {H1 : Hp} {O1 : List Addr} (e : Le (hide H O) (hide H1 O1)) : ∀ {r : Res (List D × DEnv)} {R : It → Hp → Prop}, PostI g W b σ H O r R → PostI g W b σ H1 O1 r R
  | .ok (_, _), _, h => fun J H' O' l => h J H' O' (e.trans l)
  | .err _ _ _, _, h => fun cls dd H' O' l => h cls dd H' O' (e.trans l)
  | .stuck, _, h => h
theorem PostI.ofO {α : Type} {r : Option α} {k : α → Res (List D × DEnv)} {R : It → Hp → Prop} (h : PostI g W b σ H O ((MM.ofO r).bind k) R) : ∃ a, r = some a ∧ PostI g W b σ H O (k a) R := by
  cases r with
  | none => exact h.elim
  | some a => exact ⟨a, rfl, h⟩
theorem rE.bindI {m : EDen} {k : P × DEnv → Res (List D × DEnv)} {Rr : It → Hp → Prop} {env : DEnv} (R : REnv g b H O σ env) (h : PostI g W b σ H O ((m env).bind k) Rr) :
    rE g W m σ H fun v H1 => ∃ O1 p e, Mid g W b σ H O p e v H1 O1 ∧ PostI g W b σ H1 O1 (k (p, e)) Rr :=
  rE.bind (F := fun H O r => PostI g W b σ H O r Rr) (fun _ _ _ z => z) (fun z => z) (fun _ _ _ l z => z.le l) R h
theorem rA.bindI {m : ADen} {k : List P × DEnv → Res (List D × DEnv)} {Rr : It → Hp → Prop} {env : DEnv} (R : REnv g b H O σ env) (h : PostI g W b σ H O ((m env).bind k) Rr) :
    rA g W m σ H fun vs H1 => ∃ O1 ps e, Le (hide H O) (hide H1 O1) ∧ REnv g b H1 O1 σ e ∧ RPs g b H1 O1 σ e ps vs ∧ PostI g W b σ H1 O1 (k (ps, e)) Rr :=
  rA.bind (F := fun H O r => PostI g W b σ H O r Rr) (fun _ _ _ z => z) (fun z => z) (fun _ _ _ l z => z.le l) R h
end
/-- items of a list that stays -/
theorem Reps.last {g : G} {H : Hp} {l : List D} {xs : List V} (r : Reps g H l xs) {i : Nat} (h : l[i]? = none) : xs.length ≤ i := by
  rw [← r.len]; exact List.getElem?_eq_none_iff.mp h
theorem yld_list {g : G} {H : Hp} {l : List D} {a : Addr} {xs : List V} (h : SqL g.K H a xs) (r : Reps g H l xs) : Yld g (Itl g.K a) l H := fun H2 O2 le hd i => by
  have h2 : SqL g.K H2 a xs := sqL_le hide_sub.le (sqL_le le h)
  have r2 := r.le le
  refine ⟨fun d hd => ?_, fun hd => ⟨xs, h2, r.last hd⟩⟩
  obtain ⟨v, h3, h4⟩ := r2.get hd
  refine ⟨⟨xs, v, h2, h3⟩, fun x H3 ⟨e, hx⟩ => ?_⟩
  subst e
  have := hx xs h2
  rw [h3] at this
  cases this
  exact ⟨Ext.refl _, h4⟩
theorem yld_tup {g : G} {H : Hp} {l : List D} {a : Addr} {xs : List V} (h : SqT g.K H a xs) (r : Reps g H l xs) : Yld g (Itt g.K a) l H := fun H2 O2 le hd i => by
  have h2 : SqT g.K H2 a xs := sqT_le hide_sub.le (sqT_le le h)
  have r2 := r.le le
  refine ⟨fun d hd => ?_, fun hd => ⟨xs, h2, r.last hd⟩⟩
  obtain ⟨v, h3, h4⟩ := r2.get hd
  refine ⟨⟨xs, v, h2, h3⟩, fun x H3 ⟨e, hx⟩ => ?_⟩
  subst e
  have := hx xs h2
  rw [h3] at this
  cases this
  exact ⟨Ext.refl _, h4⟩
def iL (m : EDen) : IDen := fun e => (m e).bind fun a => (ofO (a.1.frz a.2)).bind fun z => (ofO (asL z.1)).bind fun l => .ok (l, z.2)
def iT (m : EDen) : IDen := fun e => (m e).bind fun a => (ofO (a.1.frz a.2)).bind fun z => (ofO (asT z.1)).bind fun l => .ok (l, z.2)
theorem rep_asL {g : G} {H : Hp} {d : D} {v : V} {l : List D} (h : Rep g H d v) (e : asL d = some l) : ∃ a xs, v = .ref a ∧ SqL g.K H a xs ∧ Reps g H l xs := by
  have := View.asL (g := g) (H := H) (O := []) (d := d) (v := v) (l := l) (.inl (by
    have e : hide H [] = H := by funext b; rw [hide_out (by simp)]
    rw [e]; exact h)) e
  have e2 : hide H [] = H := by funext b; rw [hide_out (by simp)]
  rw [e2] at this
  exact this
theorem rep_asT {g : G} {H : Hp} {d : D} {v : V} {l : List D} (h : Rep g H d v) (e : asT d = some l) : ∃ a xs, v = .ref a ∧ SqT g.K H a xs ∧ Reps g H l xs := by
  have := View.asT (g := g) (H := H) (O := []) (d := d) (v := v) (l := l) (.inl (by
    have e : hide H [] = H := by funext b; rw [hide_out (by simp)]
    rw [e]; exact h)) e
  have e2 : hide H [] = H := by funext b; rw [hide_out (by simp)]
  rw [e2] at this
  exact this
section
variable {g : G} {W : WX} {X : Cx} {tg e a c : Expr} {p pos tpos : Pos} {m : EDen} {ms : ADen}
theorem i_list (hK : X.K = g.K) (he : PE X e (rE g W m)) : PI X tg e (rI g W (iL m)) :=
  pi_weak (pi_list he) fun σ H Rr ⟨b, O, env, R, h⟩ => (rE.bindI (m := m) R h).mono fun v H1 ⟨O1, p, e1, M, h1⟩ => by
    obtain ⟨⟨d, e2⟩, hz, h2⟩ := h1.ofO
    obtain ⟨O2, x2, R2, r2⟩ := frz_ok M.env M.rep hz
    obtain ⟨l, hl, h3⟩ := h2.ofO
    obtain ⟨a, xs, rfl, q1, q2⟩ := rep_asL r2 hl
    rw [hK]
    exact ⟨a, rfl, ⟨xs, sqL_le hide_sub.le q1⟩, h3 _ H1 O2 x2.le R2 (yld_list q1 q2)⟩
theorem i_tup (hK : X.K = g.K) (he : PE X e (rE g W m)) : PI X tg e (rI g W (iT m)) :=
  pi_weak (pi_tup he) fun σ H Rr ⟨b, O, env, R, h⟩ => (rE.bindI (m := m) R h).mono fun v H1 ⟨O1, p, e1, M, h1⟩ => by
    obtain ⟨⟨d, e2⟩, hz, h2⟩ := h1.ofO
    obtain ⟨O2, x2, R2, r2⟩ := frz_ok M.env M.rep hz
    obtain ⟨l, hl, h3⟩ := h2.ofO
    obtain ⟨a, xs, rfl, q1, q2⟩ := rep_asT r2 hl
    rw [hK]
    exact ⟨a, rfl, ⟨xs, sqT_le hide_sub.le q1⟩, h3 _ H1 O2 x2.le R2 (yld_tup q1 q2)⟩
/-! ranges -/
def rgOk (i : Int) : Bool := decide (-4611686018427387904 ≤ i) && decide (i < 4611686018427387904)
theorem rgOk_ok {i : Int} (h : rgOk i = true) : -(2 ^ 62) ≤ i ∧ i < 2 ^ 62 := by
  unfold rgOk at h
  rw [Bool.and_eq_true, decide_eq_true_eq, decide_eq_true_eq] at h
  exact h
def rgL (lo : Int) (n : Nat) : List D := (List.range n).map fun (t : Nat) => D.int (lo + (t : Int))
def iR1 (ms : ADen) : IDen := fun e => (ms e).bind fun a => match a.1 with
  | [.d (.int j)] => if rgOk j then .ok (rgL 0 j.toNat, a.2) else .stuck
  | _ => .stuck
def iR2 (ms : ADen) : IDen := fun e => (ms e).bind fun a => match a.1 with
  | [.d (.int i), .d (.int j)] => if rgOk i && rgOk j then .ok (rgL i (j - i).toNat, a.2) else .stuck
  | _ => .stuck
def rgC (i c : Int) (n : Nat) : List D := (List.range n).map fun (t : Nat) => D.int (i + (t : Int) * c)
def iR3 (ms : ADen) : IDen := fun e => (ms e).bind fun a => match a.1 with
  | [.d (.int i), .d (.int j), .d (.int c)] => if decide (c = -1) && rgOk i && rgOk j then .ok (rgC i (-1) (i - j).toNat, a.2) else .stuck
  | _ => .stuck
theorem yld_rng {lo : Int} {n : Nat} {H : Hp} : Yld g (Itr lo n) (rgL lo n) H := fun H2 O2 le hd i => by
  unfold rgL
  refine ⟨fun d hd => ?_, fun hd => ?_⟩
  · rw [List.getElem?_map] at hd
    cases q : (List.range n)[i]? with
    | none => rw [q] at hd; cases hd
    | some j =>
      rw [q] at hd
      obtain ⟨h1, h2⟩ := List.getElem?_eq_some_iff.mp q
      rw [List.getElem_range] at h2
      subst h2
      cases hd
      rw [List.length_range] at h1
      refine ⟨h1, fun x H3 ⟨e, hx⟩ => ?_⟩
      subst e
      subst hx
      exact ⟨Ext.refl _, .int⟩
  · have := List.getElem?_eq_none_iff.mp hd
    exact show n ≤ i by simpa using this
theorem yld_rngC {lo c : Int} {n : Nat} {H : Hp} : Yld g (Itc lo c n) (rgC lo c n) H := fun H2 O2 le hd i => by
  unfold rgC
  refine ⟨fun d hd => ?_, fun hd => ?_⟩
  · rw [List.getElem?_map] at hd
    cases q : (List.range n)[i]? with
    | none => rw [q] at hd; cases hd
    | some j =>
      rw [q] at hd
      obtain ⟨h1, h2⟩ := List.getElem?_eq_some_iff.mp q
      rw [List.getElem_range] at h2
      subst h2
      cases hd
      rw [List.length_range] at h1
      refine ⟨h1, fun x H3 ⟨e, hx⟩ => ?_⟩
      subst e
      subst hx
      exact ⟨Ext.refl _, .int⟩
  · have := List.getElem?_eq_none_iff.mp hd
    exact show n ≤ i by simpa using this
theorem RPs.int1 {b : Bas} {H : Hp} {O : List Addr} {σ : L2.St} {e : DEnv} {i : Int} {ps : List P} {vs : List V} (h : RPs g b H O σ e (.d (.int i) :: ps) vs) : ∃ ws, vs = .int i :: ws ∧ RPs g b H O σ e ps ws := by
  cases h with
  | cons o r rs =>
    cases (show Rep g (hide H O) (.int i) _ from r)
    exact ⟨_, rfl, rs⟩
theorem RPs.nil0 {b : Bas} {H : Hp} {O : List Addr} {σ : L2.St} {e : DEnv} {vs : List V} (h : RPs g b H O σ e [] vs) : vs = [] := by
  cases h; rfl
theorem RPs.i1 {b : Bas} {H : Hp} {O : List Addr} {σ : L2.St} {e : DEnv} {i : Int} {vs : List V} (h : RPs g b H O σ e [.d (.int i)] vs) : vs = [.int i] := by
  obtain ⟨ws, h1, h2⟩ := h.int1
  rw [h1, h2.nil0]
theorem RPs.i2 {b : Bas} {H : Hp} {O : List Addr} {σ : L2.St} {e : DEnv} {i j : Int} {vs : List V} (h : RPs g b H O σ e [.d (.int i), .d (.int j)] vs) : vs = [.int i, .int j] := by
  obtain ⟨ws, h1, h2⟩ := h.int1
  rw [h1, h2.i1]
theorem RPs.i3 {b : Bas} {H : Hp} {O : List Addr} {σ : L2.St} {e : DEnv} {i j k : Int} {vs : List V} (h : RPs g b H O σ e [.d (.int i), .d (.int j), .d (.int k)] vs) : vs = [.int i, .int j, .int k] := by
  obtain ⟨ws, h1, h2⟩ := h.int1
  rw [h1, h2.i2]
theorem i_r1 (hm : X.mg "range" = none) (ha : PA X [a] (rA g W ms)) (hg : Gl X "range" := by rfl) (hs : starEach [a] X.env = [(false, eval a X.env)] := by rfl) : PI X tg (.Call (.Name "range" p) [a] [] pos) (rI g W (iR1 ms)) :=
  pi_weak (pi_range1 hg hm ha hs) fun σ H Rr ⟨b, O, env, R, h⟩ => (rA.bindI (m := ms) R h).mono fun vs H1 ⟨O1, qs, e1, l1, R1, rs, h1⟩ => by
    simp only at h1
    split at h1
    · rename_i j
      split at h1
      · rename_i hj
        have ev := rs.i1
        subst ev
        exact ⟨j, rfl, (rgOk_ok hj).1, (rgOk_ok hj).2, h1 _ H1 O1 (Le.refl _) R1 yld_rng⟩
      · exact h1.elim
    · exact h1.elim
theorem i_r2 (hm : X.mg "range" = none) (ha : PA X [a, c] (rA g W ms)) (hg : Gl X "range" := by rfl) (hs : starEach [a, c] X.env = [(false, eval a X.env), (false, eval c X.env)] := by rfl) (hs2 : starEach [c] X.env = [(false, eval c X.env)] := by rfl) : PI X tg (.Call (.Name "range" p) [a, c] [] pos) (rI g W (iR2 ms)) :=
  pi_weak (pi_range2 hg hm ha hs hs2) fun σ H Rr ⟨b, O, env, R, h⟩ => (rA.bindI (m := ms) R h).mono fun vs H1 ⟨O1, qs, e1, l1, R1, rs, h1⟩ => by
    simp only at h1
    split at h1
    · rename_i i j
      split at h1
      · rename_i hj
        rw [Bool.and_eq_true] at hj
        have ev := rs.i2
        subst ev
        exact ⟨i, j, rfl, ⟨(rgOk_ok hj.1).1, (rgOk_ok hj.1).2, (rgOk_ok hj.2).1, (rgOk_ok hj.2).2⟩, h1 _ H1 O1 (Le.refl _) R1 yld_rng⟩
      · exact h1.elim
    · exact h1.elim
theorem i_r3 {d : Expr} (hm : X.mg "range" = none) (ha : PA X [a, c, d] (rA g W ms)) (hg : Gl X "range" := by rfl) (hs : starEach [a, c, d] X.env = (false, eval a X.env) :: starEach [c, d] X.env := by rfl) (hpl : (backTo pos (starEach [c, d] X.env)).any (·.1) = false := by rfl) : PI X tg (.Call (.Name "range" p) [a, c, d] [] pos) (rI g W (iR3 ms)) :=
  pi_weak (pi_range3 hg hm ha hs hpl) fun σ H Rr ⟨b, O, env, R, h⟩ => (rA.bindI (m := ms) R h).mono fun vs H1 ⟨O1, qs, e1, l1, R1, rs, h1⟩ => by
    simp only at h1
    split at h1
    · rename_i i j k
      split at h1
      · rename_i hj
        rw [Bool.and_eq_true, Bool.and_eq_true, decide_eq_true_eq] at hj
        obtain ⟨⟨rfl, hi⟩, hj⟩ := hj
        have ev := rs.i3
        subst ev
        exact ⟨i, j, -1, (i - j).toNat, rfl, RgC.neg (rgOk_ok hi).1 (rgOk_ok hi).2 (rgOk_ok hj).1 (rgOk_ok hj).2, h1 _ H1 O1 (Le.refl _) R1 yld_rngC⟩
      · exact h1.elim
    · exact h1.elim
/-! enumerate, zip, texts -/
def enD : Nat → List D → List D
  | _, [] => []
  | i, d :: r => .tup [.int i, d] :: enD (i + 1) r
def zpD : List D → List D → List D
  | d :: r, e :: s => .tup [d, e] :: zpD r s
  | _, _ => []
theorem enD_get : ∀ (l : List D) (k i : Nat), (enD k l)[i]? = (l[i]?).map fun d => .tup [.int ((k + i : Nat) : Int), d]
  | [], _, _ => rfl
  | d :: r, k, 0 => rfl
  | d :: r, k, i + 1 => by
    show (enD (k + 1) r)[i]? = (r[i]?).map _
    rw [enD_get r (k + 1) i]
    congr 1
    funext x
    rw [show k + 1 + i = k + (i + 1) by omega]
theorem zpD_get : ∀ (l m : List D) (i : Nat), (zpD l m)[i]? = (l[i]?).bind fun d => (m[i]?).map fun e => .tup [d, e]
  | [], _, _ => by simp [zpD]
  | d :: r, [], i => by
    cases h : (d :: r)[i]? <;> simp [zpD]
  | d :: r, e :: s, 0 => rfl
  | d :: r, e :: s, i + 1 => by
    show (zpD r s)[i]? = (r[i]?).bind _
    rw [zpD_get r s i]
    rfl
theorem pair_rep {H2 : Hp} {O2 : List Addr} {T : Addr} {l : List D} {xs : List V} (hd : ∀ a, a ∈ O2 → Hid (H2 a)) (n : H2 T = none) (r : Reps g (hide H2 O2) l xs) : Ext H2 (upd H2 T (.tup xs)) ∧ Rep g (hide (upd H2 T (.tup xs)) O2) (.tup l) (.ref T) :=
  ⟨Ext.new n, rep_newT (fun a h => (hd a h).ne) r n⟩
theorem yld_enum {l : List D} {a : Addr} {xs : List V} {H : Hp} (h : SqL g.K H a xs) (r : Reps g H l xs) : Yld g (Ite g.K a) (enD 0 l) H := fun H2 O2 le hid i => by
  have h2 : SqL g.K H2 a xs := sqL_le hide_sub.le (sqL_le le h)
  have r2 := r.le le
  refine ⟨fun d hd => ?_, fun hd => ⟨xs, h2, ?_⟩⟩
  · rw [enD_get] at hd
    cases q : l[i]? with
    | none => rw [q] at hd; cases hd
    | some x =>
      rw [q] at hd
      cases hd
      obtain ⟨v, h3, h4⟩ := r2.get q
      refine ⟨⟨xs, v, h2, h3⟩, fun y H3 ⟨T, z, e1, e2, e3, e4⟩ => ?_⟩
      subst e1 e3
      have := e4 xs h2
      rw [h3] at this
      cases this
      have := pair_rep (l := [.int ((0 + i : Nat) : Int), x]) (xs := [.int (i : Nat), v]) hid e2 (.cons (by rw [Nat.zero_add]; exact .int) (.cons h4 .nil))
      exact this
  · rw [enD_get] at hd
    cases q : l[i]? with
    | none => exact r.last q
    | some x => rw [q] at hd; cases hd
theorem yld_zip {l m : List D} {a c : Addr} {xs ys : List V} {H : Hp} (h : SqL g.K H a xs) (h' : SqL g.K H c ys) (r : Reps g H l xs) (r' : Reps g H m ys) : Yld g (Itz g.K a c) (zpD l m) H := fun H2 O2 le hid i => by
  have h2 : SqL g.K H2 a xs := sqL_le hide_sub.le (sqL_le le h)
  have h2' : SqL g.K H2 c ys := sqL_le hide_sub.le (sqL_le le h')
  have r2 := r.le le
  have r2' := r'.le le
  refine ⟨fun d hd => ?_, fun hd => ⟨xs, ys, h2, h2', ?_⟩⟩
  · rw [zpD_get] at hd
    cases q : l[i]? with
    | none => rw [q] at hd; cases hd
    | some x =>
      cases q' : m[i]? with
      | none => rw [q, q'] at hd; cases hd
      | some y =>
        rw [q, q'] at hd
        cases hd
        obtain ⟨v, h3, h4⟩ := r2.get q
        obtain ⟨w, h5, h6⟩ := r2'.get q'
        refine ⟨⟨xs, ys, v, w, h2, h2', h3, h5⟩, fun z H3 ⟨T, z1, z2, e1, e2, e3, e4, e5⟩ => ?_⟩
        subst e1 e3
        have k1 := e4 xs h2
        rw [h3] at k1
        cases k1
        have k2 := e5 ys h2'
        rw [h5] at k2
        cases k2
        exact pair_rep hid e2 (.cons h4 (.cons h6 .nil))
  · rw [zpD_get] at hd
    cases q : l[i]? with
    | none => exact .inl (r.last q)
    | some x =>
      cases q' : m[i]? with
      | none => exact .inr (r'.last q')
      | some y => rw [q, q'] at hd; cases hd
theorem yld_zipT {l m : List D} {a c : Addr} {xs ys : List V} {H : Hp} (h : SqT g.K H a xs) (h' : SqT g.K H c ys) (r : Reps g H l xs) (r' : Reps g H m ys) : Yld g (RZ.ItzT g.K a c) (zpD l m) H := fun H2 O2 le hid i => by
  have h2 : SqT g.K H2 a xs := sqT_le hide_sub.le (sqT_le le h)
  have h2' : SqT g.K H2 c ys := sqT_le hide_sub.le (sqT_le le h')
  have r2 := r.le le
  have r2' := r'.le le
  refine ⟨fun d hd => ?_, fun hd => ⟨xs, ys, h2, h2', ?_⟩⟩
  · rw [zpD_get] at hd
    cases q : l[i]? with
    | none => rw [q] at hd; cases hd
    | some x =>
      cases q' : m[i]? with
      | none => rw [q, q'] at hd; cases hd
      | some y =>
        rw [q, q'] at hd
        cases hd
        obtain ⟨v, h3, h4⟩ := r2.get q
        obtain ⟨w, h5, h6⟩ := r2'.get q'
        refine ⟨⟨xs, ys, v, w, h2, h2', h3, h5⟩, fun z H3 ⟨T, z1, z2, e1, e2, e3, e4, e5⟩ => ?_⟩
        subst e1 e3
        have k1 := e4 xs h2
        rw [h3] at k1
        cases k1
        have k2 := e5 ys h2'
        rw [h5] at k2
        cases k2
        exact pair_rep hid e2 (.cons h4 (.cons h6 .nil))
  · rw [zpD_get] at hd
    cases q : l[i]? with
    | none => exact .inl (r.last q)
    | some x =>
      cases q' : m[i]? with
      | none => exact .inr (r'.last q')
      | some y => rw [q, q'] at hd; cases hd
def iEn (ms : ADen) : IDen := fun e => (ms e).bind fun a => (ofO (frzs a.1 a.2)).bind fun z => match z.1 with
  | [d] => (ofO (asL d)).bind fun l => .ok (enD 0 l, z.2)
  | _ => .stuck
def iZp (ms : ADen) : IDen := fun e => (ms e).bind fun a => (ofO (frzs a.1 a.2)).bind fun z => match z.1 with
  | [d, f] => match asT d, asT f with
    | some l, some m => .ok (zpD l m, z.2)
    | _, _ => (ofO (asL d)).bind fun l => (ofO (asL f)).bind fun m => .ok (zpD l m, z.2)
  | _ => .stuck
theorem i_enum {elts : List Expr} {kk : Nat} (hK : X.K = g.K) (hm : X.mg "enumerate" = none) (ha : PA X [a] (rA g W ms)) (hg : Gl X "enumerate" := by rfl) (hs : starEach [a] X.env = [(false, eval a X.env)] := by rfl) :
    PI X (.Tuple elts kk tpos) (.Call (.Name "enumerate" p) [a] [] pos) (rI g W (iEn ms)) :=
  pi_weak (pi_enum hg hm ha hs) fun σ H Rr ⟨b, O, env, R, h⟩ => (rA.bindI (m := ms) R h).mono fun vs H1 ⟨O1, qs, e1, l1, R1, rs, h1⟩ => by
    obtain ⟨⟨ds, e2⟩, hz, h2⟩ := h1.ofO
    obtain ⟨O2, x2, R2, r2⟩ := frzs_ok R1 rs hz
    simp only at h2
    split at h2
    · rename_i d
      obtain ⟨l, hl, h3⟩ := h2.ofO
      cases r2 with
      | cons r3 r4 =>
        cases r4
        obtain ⟨a', xs, rfl, q1, q2⟩ := rep_asL r3 hl
        rw [hK]
        exact ⟨a', xs, rfl, sqL_le hide_sub.le q1, h3 _ H1 O2 x2.le R2 (yld_enum q1 q2)⟩
    · exact h2.elim
theorem i_zip {elts : List Expr} {kk : Nat} (hK : X.K = g.K) (hm : X.mg "zip" = none) (ha : PA X [a, c] (rA g W ms)) (hg : Gl X "zip" := by rfl) (hs : starEach [a, c] X.env = (false, eval a X.env) :: starEach [c] X.env := by rfl) (hpl : (backTo pos (starEach [c] X.env)).any (·.1) = false := by rfl) :
    PI X (.Tuple elts kk tpos) (.Call (.Name "zip" p) [a, c] [] pos) (rI g W (iZp ms)) :=
  pi_weak (RZ.pi_zipA hg hm ha hs hpl) fun σ H Rr ⟨b, O, env, R, h⟩ => (rA.bindI (m := ms) R h).mono fun vs H1 ⟨O1, qs, e1, l1, R1, rs, h1⟩ => by
    obtain ⟨⟨ds, e2⟩, hz, h2⟩ := h1.ofO
    obtain ⟨O2, x2, R2, r2⟩ := frzs_ok R1 rs hz
    simp only at h2
    split at h2
    · rename_i d f
      cases r2 with
      | cons r3 r4 =>
        cases r4 with
        | cons r5 r6 =>
          cases r6
          rw [hK]
          split at h2
          · rename_i l m hl hm'
            obtain ⟨a1, xs, rfl, q1, q2⟩ := rep_asT r3 hl
            obtain ⟨a2, ys, rfl, q3, q4⟩ := rep_asT r5 hm'
            exact ⟨a1, a2, xs, ys, rfl, .inr ⟨sqT_le hide_sub.le q1, sqT_le hide_sub.le q3, h2 _ H1 O2 x2.le R2 (yld_zipT q1 q3 q2 q4)⟩⟩
          · obtain ⟨l, hl, h3⟩ := h2.ofO
            obtain ⟨m, hm', h4⟩ := h3.ofO
            obtain ⟨a1, xs, rfl, q1, q2⟩ := rep_asL r3 hl
            obtain ⟨a2, ys, rfl, q3, q4⟩ := rep_asL r5 hm'
            exact ⟨a1, a2, xs, ys, rfl, .inl ⟨sqL_le hide_sub.le q1, sqL_le hide_sub.le q3, h4 _ H1 O2 x2.le R2 (yld_zip q1 q3 q2 q4)⟩⟩
    · exact h2.elim
/-- the signs of a text -/
def iS (m : EDen) : IDen := fun e => (m e).bind fun a => match a.1 with
  | .d (.str s) => .ok (s.cps.toList.map fun c => .str ⟨#[c]⟩, a.2)
  | _ => .stuck
theorem yld_str {s : Str} {H : Hp} : Yld g (Its s) (s.cps.toList.map fun c => .str ⟨#[c]⟩) H := fun H2 O2 le hid i => by
  refine ⟨fun d hd => ?_, fun hd => ?_⟩
  · rw [List.getElem?_map] at hd
    cases q : s.cps.toList[i]? with
    | none => rw [q] at hd; cases hd
    | some c =>
      rw [q] at hd
      cases hd
      have hlt : i < s.cps.size := by
        have := (List.getElem?_eq_some_iff.mp q).1
        simpa using this
      refine ⟨hlt, fun x H3 ⟨e, c', hc, hx⟩ => ?_⟩
      subst e hx
      rw [← Array.getElem?_toList, q] at hc
      cases hc
      exact ⟨Ext.refl _, .str⟩
  · have := List.getElem?_eq_none_iff.mp hd
    exact show s.cps.size ≤ i by simpa using this
theorem i_str (he : PE X e (rE g W m)) : PI X tg e (rI g W (iS m)) :=
  pi_weak (pi_str he) fun σ H Rr ⟨b, O, env, R, h⟩ => (rE.bindI (m := m) R h).mono fun v H1 ⟨O1, p, e1, M, h1⟩ => by
    match p, h1, M.rep with
    | .d (.str s), h1, rp =>
      cases (show Rep g (hide H1 O1) (.str s) v from rp)
      exact ⟨s, rfl, h1 _ H1 O1 (Le.refl _) M.env yld_str⟩
    | .d .non, h1, _ | .d (.bl _), h1, _ | .d (.int _), h1, _ | .d (.tup _), h1, _ | .d (.lst _), h1, _ | .d (.dK _), h1, _ | .d (.dT _), h1, _ | .d (.obj _ _), h1, _ | .d (.fn _), h1, _ | .d (.scr _), h1, _ | .n _, h1, _ | .s _, h1, _ => exact h1.elim
end
end MM

set_option maxHeartbeats 2000000
namespace MM
open PySem PySem.Spec PyProof.Rows L2

/-! ### what is wished of an error under locks -/
inductive UnL (H0 : Hp) (W : WX) (cls : Value) (dd : Option Addr) (σ : L2.St) : Hp → Prop
  | base {H} : W cls dd σ H → UnL H0 W cls dd σ H
  | step {H d od u} : H d = some (.frz od u) → (∀ o' u', H0 d ≠ some (.frz o' u')) → UnL H0 W cls dd σ (upd H d u) → UnL H0 W cls dd σ H
theorem un_takes {X : Cx} {W : WX} (tk : Takes X W) : Takes X (UnL X.H_0 W) := fun u s' ⟨a, B, sI, pins, σ, H, cls, d, e, I, nb, up, sky, na, os, ag, w⟩ => by
  induction w with
  | base w => exact tk u s' ⟨a, B, sI, pins, σ, _, cls, d, e, I, nb, up, sky, na, os, ag, w⟩
  | @step H d' od u' h n w ih =>
    refine ih (I.unlock h n) ?_
    rw [upd_ne fun (z : a = d') => by rw [z, h] at na; cases na]
    exact na
/-! ### dicts that loops read -/
def kD : Key → D
  | .inl i => .int i
  | .inr s => .str s
theorem kD_rep {g : G} {H : Hp} (k : Key) : Rep g H (kD k) (kV k) := by
  cases k with
  | inl i => exact .int
  | inr s => exact .str
theorem kD_reps {g : G} {H : Hp} : ∀ k : List Key, Reps g H (k.map kD) (k.map kV)
  | [] => .nil
  | k :: r => .cons (kD_rep k) (kD_reps r)
def keysD : D → Option (List D)
  | .dK l => some (l.map fun kv => kD kv.1)
  | .dT l => some (l.map fun kv => .tup (kv.1.map kD))
  | _ => none
/-- the iterator of the locked dict at a -/
def KeysAt (H1 : Hp) (a : Addr) (od : Obj) (u : HO) (J : It) : Prop := (∃ kvs : List (Key × V), u = .dK kvs ∧ J = Itk a od kvs) ∨ ∃ kvs : List (List Key × V), u = .dT kvs ∧ J = Itkt a od kvs
theorem keys_it {g : G} {Hh : Hp} {d : D} {v : V} {ks : List D} (r : Rep g Hh d v) (h : keysD d = some ks) : ∃ a u, v = .ref a ∧ Rd Hh a u ∧ Mut (some u) ∧ ¬ Solid u ∧ (∀ o w, u ≠ .frz o w) ∧ Hid (some u) ∧
    ∀ od, ∃ J, (∀ (R : It → Hp → Prop) (H1 : Hp), H1 a = some (.frz od u) → R J H1 → (∃ kvs, H1 a = some (.frz od (.dK kvs)) ∧ R (Itk a od kvs) H1) ∨ ∃ kvs, H1 a = some (.frz od (.dT kvs)) ∧ R (Itkt a od kvs) H1) ∧
      ∀ (B : Hp) (Hx : Hp), B a = some (.frz od u) → YldB g B J ks Hx := by
  cases d <;> simp only [keysD] at h <;> cases h
  · rename_i l
    cases r with
    | dK h1 h2 h3 =>
      rename_i a kvs
      refine ⟨a, _, rfl, h1, trivial, fun z => z, fun _ _ z => (by cases z), trivial, fun od => ⟨Itk a od kvs, fun R H1 e q => .inl ⟨kvs, e, q⟩, fun B Hx hB H2 O2 le hd eB i => ?_⟩⟩
      have e2 := eB a _ hB
      have len : kvs.length = l.length := by have := congrArg List.length h2; simpa using this
      have key : ∀ i : Nat, (kvs[i]?).map (·.1) = (l[i]?).map (·.1) := fun i => by rw [← List.getElem?_map, ← List.getElem?_map, h2]
      refine ⟨fun d hd' => ?_, fun hd' => ⟨e2, ?_⟩⟩
      · rw [List.getElem?_map] at hd'
        cases q : l[i]? with
        | none => rw [q] at hd'; cases hd'
        | some kv =>
          rw [q] at hd'
          cases hd'
          have hi := (List.getElem?_eq_some_iff.mp q).1
          refine ⟨⟨e2, by omega⟩, fun x H3 ⟨e3, k, v, hk, hx⟩ => ?_⟩
          subst e3 hx
          have := key i
          rw [q, hk] at this
          cases this
          exact ⟨Ext.refl _, kD_rep _⟩
      · have := List.getElem?_eq_none_iff.mp hd'
        rw [List.length_map] at this
        omega
  · rename_i l
    cases r with
    | dT h1 h2 h3 =>
      rename_i a kvs
      refine ⟨a, _, rfl, h1, trivial, fun z => z, fun _ _ z => (by cases z), trivial, fun od => ⟨Itkt a od kvs, fun R H1 e q => .inr ⟨kvs, e, q⟩, fun B Hx hB H2 O2 le hd eB i => ?_⟩⟩
      have e2 := eB a _ hB
      have len : kvs.length = l.length := by have := congrArg List.length h2; simpa using this
      have key : ∀ i : Nat, (kvs[i]?).map (·.1) = (l[i]?).map (·.1) := fun i => by rw [← List.getElem?_map, ← List.getElem?_map, h2]
      refine ⟨fun d hd' => ?_, fun hd' => ⟨e2, ?_⟩⟩
      · rw [List.getElem?_map] at hd'
        cases q : l[i]? with
        | none => rw [q] at hd'; cases hd'
        | some kv =>
          rw [q] at hd'
          cases hd'
          have hi := (List.getElem?_eq_some_iff.mp q).1
          refine ⟨⟨e2, by omega⟩, fun x H3 ⟨e3, k, v, qa, hk, hx, hq⟩ => ?_⟩
          subst e3 hx
          have := key i
          rw [q, hk] at this
          cases this
          refine ⟨Ext.refl _, .tup ?_ (kD_reps _)⟩
          rw [hide_out fun z => by have := hd _ z; rw [hq] at this; exact this]
          exact hq
      · have := List.getElem?_eq_none_iff.mp hd'
        rw [List.length_map] at this
        omega
/-- an expression whose data stand at the start -/
structure Lct (g : G) (X : Cx) (e : Expr) (pth : DEnv → Option D) (te : TE) : Prop where
  pe : PE X e te
  at_ : ∀ b H O σ env d, REnv g b H O σ env → pth env = some d → ∃ v, Rep g (hide H O) d v ∧ ∀ H', (∀ a o, Solid o → H a = some o → H' a = some o) → ∀ Q, Q v H' → te σ H' Q
def pVar (i : Nat) : DEnv → Option D := fun e => match (e[i]? : Option Sl) with
  | some (Sl.fr d) => some d
  | _ => none
def pFld (c i : Nat) (f : Str) : DEnv → Option D := fun e => match (e[i]? : Option Sl) with
  | some (Sl.fr (.obj c' fs)) => if c' = c then fs.lookup f else none
  | some (Sl.ow (.obj c' fs)) => if c' = c then fs.lookup f else none
  | _ => none
section
variable {g : G} {W : WX} {X : Cx} {pos : Pos}
theorem l_var (i : Nat) {x : Str} (hN : X.N[i]? = some x := by rfl) (hv : Vis X.env.scope x := by first | exact Or.inl rfl | exact Or.inr (Or.inl rfl) | exact Or.inr (Or.inr rfl)) (hd : (x == ("__debug__" : Str)) = false := by decide)
    (hcd : (x == ("__classdict__" : Str)) = false := by decide) : Lct g X (.Name x pos) (pVar i) (tVar i) := ⟨pe_var hN hv hd hcd, fun b H O σ env d R h => by
  unfold pVar at h
  split at h
  · rename_i d' he
    cases h
    obtain ⟨v, h1, h2⟩ := R.fr i _ he
    exact ⟨v, h2, fun H' _ Q q => ⟨v, h1, q⟩⟩
  · cases h⟩
theorem l_fld (c i : Nat) {x f : Str} {p : Pos} (hK : X.K = g.K) (hc : Cls g.K (g.C c)) (hn : NoAttr g.K (g.C c) f) (hN : X.N[i]? = some x := by rfl) (hv : Vis X.env.scope x := by first | exact Or.inl rfl | exact Or.inr (Or.inl rfl) | exact Or.inr (Or.inr rfl)) (hd : (x == ("__debug__" : Str)) = false := by decide)
    (hcd : (x == ("__classdict__" : Str)) = false := by decide) (hb : attributeBase (.Name x p) f X.env (eval (.Name x p) X.env) = eval (.Name x p) X.env := by rfl) : Lct g X (.Attribute (.Name x p) f pos) (pFld c i f) (tFld X.K (tVar i) f) := ⟨pe_fld (pe_var hN hv hd hcd) hb, fun b H O σ env d R h => by
  unfold pFld at h
  have fin : ∀ {a dx : Addr} {gs : List (Str × V)} {fs : List (Str × D)}, σ[i]? = some (some (.ref a)) → H a = some (.ins (g.C c) dx gs) → gs.map (·.1) = fs.map (·.1) → Reps g (hide H O) (fs.map (·.2)) (gs.map (·.2)) → fs.lookup f = some d →
      ∃ v, Rep g (hide H O) d v ∧ ∀ H', (∀ a o, Solid o → H a = some o → H' a = some o) → ∀ Q, Q v H' → tFld X.K (tVar i) f σ H' Q := fun {a dx gs fs} h1 h2 h3 h4 h5 => by
    obtain ⟨v, h6, h7⟩ := lookup_reps h3 h4 h5
    rw [hK]
    exact ⟨v, h7, fun H' k Q q => ⟨_, h1, a, _, dx, gs, v, rfl, k a _ trivial h2, hc, hn, h6, q⟩⟩
  split at h
  · rename_i c' fs he
    split at h
    · rename_i ec
      subst ec
      obtain ⟨v, h1, h2⟩ := R.fr i _ he
      cases h2 with
      | obj h3 h4 h5 => exact fin h1 (hide_sub _ _ h3) h4 h5 h
    · cases h
  · rename_i c' fs he
    split at h
    · rename_i ec
      subst ec
      obtain ⟨a, h1, _, _, _, dx, gs, h3, h4, h5⟩ := R.ow i _ he
      exact fin h1 h3 h4 h5 h
    · cases h
  · cases h⟩
/-- the ground with one object more -/
def Bas.at_ (b : Bas) (a : Addr) (o : HO) : Bas := ⟨upd b.B a o, b.O, b.I⟩
theorem REnv.lock {b : Bas} {H : Hp} {O : List Addr} {σ : L2.St} {env : DEnv} {a : Addr} {u : HO} {od : Obj} (R : REnv g b H O σ env) (n : a ∉ O) (h : H a = some u) (nf : ∀ o w, u ≠ .frz o w) (ns : ¬ Solid u) :
    REnv g (b.at_ a (.frz od u)) (upd H a (.frz od u)) O σ env := by
  have le : Le (hide H O) (hide (upd H a (.frz od u)) O) := by
    rw [hide_upd_out n]
    exact lock_le (by rw [hide_out n]; exact h) nf ns
  have kp : ∀ c, c ∈ O → ∀ o, H c = some o → upd H a (.frz od u) c = some o := fun c hc o e => by rw [upd_ne fun (z : c = a) => n (z ▸ hc)]; exact e
  refine ⟨R.len, fun c o q => ?_, R.out, fun c hc => (R.hd c hc).keep (kp c hc), fun j f q => ?_, fun j f q => ?_, R.sep, R.io⟩
  · by_cases e : c = a
    · subst e
      have q' : upd b.B c (.frz od u) c = some o := q
      rw [upd_same] at q' ⊢
      exact q'
    · have q' : upd b.B a (.frz od u) c = some o := q
      rw [upd_ne e] at q' ⊢
      exact R.pro c o q'
  · obtain ⟨v, z1, z2⟩ := R.fr j f q
    exact ⟨v, z1, z2.le le⟩
  · obtain ⟨c, z1, z2, z3, z4, z5⟩ := R.ow j f q
    exact ⟨c, z1, z2, z3, by show upd b.B a _ c = none; rw [upd_ne fun (z : c = a) => n (z ▸ z2)]; exact z4, z5.le le (kp c z2)⟩
/-- .. locked before -/
theorem REnv.locked {b : Bas} {H : Hp} {O : List Addr} {σ : L2.St} {env : DEnv} {a : Addr} {u : HO} {od : Obj} (R : REnv g b H O σ env) (n : a ∉ O) (h : H a = some (.frz od u)) : REnv g (b.at_ a (.frz od u)) H O σ env := by
  refine ⟨R.len, fun c o q => ?_, R.out, R.hd, R.fr, fun j f q => ?_, R.sep, R.io⟩
  · have q' : upd b.B a (.frz od u) c = some o := q
    by_cases e : c = a
    · subst e; rw [upd_same] at q'; rw [h]; exact q'
    · rw [upd_ne e] at q'; exact R.pro c o q'
  · obtain ⟨c, z1, z2, z3, z4, z5⟩ := R.ow j f q
    exact ⟨c, z1, z2, z3, by show upd b.B a _ c = none; rw [upd_ne fun (z : c = a) => n (z ▸ z2)]; exact z4, z5⟩
/-- back on the old ground -/
theorem REnv.unat {b : Bas} {H : Hp} {O : List Addr} {σ : L2.St} {env : DEnv} {a : Addr} {o : HO} (R : REnv g (b.at_ a o) H O σ env) (h : b.B a = none ∨ b.B a = some o) : REnv g b H O σ env := by
  refine ⟨R.len, fun c o' q => R.pro c o' ?_, R.out, R.hd, R.fr, fun j f q => ?_, R.sep, R.io⟩
  · show upd b.B a o c = some o'
    by_cases e : c = a
    · subst e
      rw [upd_same]
      rcases h with h | h
      · rw [h] at q; cases q
      · rw [h] at q; exact q
    · rw [upd_ne e]; exact q
  · obtain ⟨c, z1, z2, z3, z4, z5⟩ := R.ow j f q
    refine ⟨c, z1, z2, z3, ?_, z5⟩
    have z4' : upd b.B a o c = none := z4
    by_cases e : c = a
    · subst e; rw [upd_same] at z4'; cases z4'
    · rw [upd_ne e] at z4'; exact z4'
theorem unlock_hide {H : Hp} {O : List Addr} {a : Addr} {u : HO} {od : Obj} (h : H a = some (.frz od u)) : Le (hide H O) (hide (upd H a u) O) := by
  by_cases n : a ∈ O
  · rw [hide_upd n]; exact Le.refl _
  · rw [hide_upd_out n]; exact unlock_le (by rw [hide_out n]; exact h)
theorem REnv.unlock {b : Bas} {H : Hp} {O : List Addr} {σ : L2.St} {env : DEnv} {a : Addr} {u : HO} {od : Obj} (R : REnv g (b.at_ a (.frz od u)) H O σ env) (hb : b.B a = none ∨ b.B a = some u) (hu : Hid (some u)) (na : a ∉ O ∨ ∀ (j : Nat) (f : D), env[j]? ≠ some (Sl.ow f)) :
    H a = some (.frz od u) ∧ REnv g b (upd H a u) O σ env := by
  have ha : H a = some (.frz od u) := R.pro a _ upd_same
  have le := unlock_hide (O := O) ha
  refine ⟨ha, R.len, fun c o q => ?_, R.out, fun c hc => ?_, fun j f q => ?_, fun j f q => ?_, R.sep, R.io⟩
  · by_cases e : c = a
    · subst e
      rw [upd_same]
      rcases hb with hb | hb
      · rw [hb] at q; cases q
      · rw [hb] at q; exact q
    · rw [upd_ne e]
      exact R.pro c o (by show upd b.B a _ c = some o; rw [upd_ne e]; exact q)
  · by_cases e : c = a
    · subst e; rw [upd_same]; exact hu
    · exact (R.hd c hc).keep fun o q => by rw [upd_ne e]; exact q
  · obtain ⟨v, z1, z2⟩ := R.fr j f q
    exact ⟨v, z1, z2.le le⟩
  · obtain ⟨c, z1, z2, z3, z4, z5⟩ := R.ow j f q
    rcases na with na | na
    · have e : c ≠ a := fun z => na (z ▸ z2)
      refine ⟨c, z1, z2, z3, ?_, z5.le le fun o q => by rw [upd_ne e]; exact q⟩
      have z4' : upd b.B a (.frz od u) c = none := z4
      rw [upd_ne e] at z4'; exact z4'
    · exact absurd q (na j f)
theorem dropOwn_no {env : DEnv} (j : Nat) (f : D) : (dropOwn env)[j]? ≠ some (Sl.ow f) := fun h => by
  unfold dropOwn at h
  rw [List.getElem?_map] at h
  cases z : env[j]? with
  | none => rw [z] at h; cases h
  | some s => rw [z] at h; cases s <;> cases h
theorem ExcAt.unlock {c : Nat} {f : Option (Str × D)} {cls : Value} {dd : Option Addr} {H : Hp} {a : Addr} {u : HO} {od : Obj} (h : H a = some (.frz od u)) (e : ExcAt g c f cls dd H) : ExcAt g c f cls dd (upd H a u) := by
  obtain ⟨e1, e2⟩ := e
  refine ⟨e1, ?_⟩
  cases f with
  | none => exact e2
  | some p =>
    obtain ⟨x, v, h1, h2, h3⟩ := e2
    exact ⟨x, v, h1, by rw [upd_ne fun (z : x = a) => by rw [z, h] at h2; cases h2]; exact h2, h3⟩
/-- the ends of a statement under a lock -/
def LckE (a : Addr) (od : Obj) (u : HO) (D : Ends) : Ends := ⟨fun σ' H' => H' a = some (.frz od u) ∧ D.nx σ' (upd H' a u), fun v H' => H' a = some (.frz od u) ∧ D.rt v (upd H' a u), fun σ' H' => H' a = some (.frz od u) ∧ D.bk σ' (upd H' a u), fun σ' H' => H' a = some (.frz od u) ∧ D.ct σ' (upd H' a u)⟩
theorem PostS.lck {b : Bas} {H : Hp} {O : List Addr} {a : Addr} {u : HO} {od : Obj} {H0 : Hp} (n : a ∉ O) (h : H a = some u) (nf : ∀ o w, u ≠ .frz o w) (ns : ¬ Solid u) (hb : b.B a = none ∨ b.B a = some u) (hu : Hid (some u)) (h0 : ∀ o' u', H0 a ≠ some (.frz o' u')) :
    ∀ {r : Res (Fl × DEnv)} {D : Ends}, PostS g W b H O r D → PostS g (UnL H0 W) (b.at_ a (.frz od u)) (upd H a (.frz od u)) O r (LckE a od u D) := by
  have le0 : Le (hide H O) (hide (upd H a (.frz od u)) O) := by
    rw [hide_upd_out n]
    exact lock_le (by rw [hide_out n]; exact h) nf ns
  have vis : ∀ {H' O'}, Le (hide (upd H a (.frz od u)) O) (hide H' O') → H' a = some (.frz od u) → a ∉ O' := fun {H' O'} l e z => by
    have : Rd (hide (upd H a (.frz od u)) O) a u := .inr ⟨od, by rw [hide_out n, upd_same]⟩
    rcases l.rd a u nf this with q | ⟨o, q⟩ <;> (rw [hide_in z] at q; cases q)
  intro r D p
  have go : ∀ {σ' H' O' e}, Le (hide (upd H a (.frz od u)) O) (hide H' O') → REnv g (b.at_ a (.frz od u)) H' O' σ' e → H' a = some (.frz od u) ∧ Le (hide H O) (hide (upd H' a u) O') ∧ REnv g b (upd H' a u) O' σ' e := fun {σ' H' O' e} l R => by
    have e1 : H' a = some (.frz od u) := R.pro a _ upd_same
    exact ⟨e1, (le0.trans l).trans (unlock_hide e1), (R.unlock hb hu (.inl (vis l e1))).2⟩
  cases r with
  | stuck => exact p
  | err c f e =>
    intro σ' cls dd H' O' l R x
    obtain ⟨e1, R1⟩ := R.unlock hb hu (.inr dropOwn_no)
    exact .step e1 h0 (.base (p σ' cls dd _ O' ((le0.trans l).trans (unlock_hide e1)) R1 (x.unlock e1)))
  | ok q =>
    obtain ⟨f, e⟩ := q
    cases f with
    | nx => exact fun σ' H' O' l R => let ⟨e1, l1, R1⟩ := go l R; ⟨e1, p σ' _ O' l1 R1⟩
    | bk => exact fun σ' H' O' l R => let ⟨e1, l1, R1⟩ := go l R; ⟨e1, p σ' _ O' l1 R1⟩
    | ct => exact fun σ' H' O' l R => let ⟨e1, l1, R1⟩ := go l R; ⟨e1, p σ' _ O' l1 R1⟩
    | rt v =>
      intro w σ' H' O' l R rp
      obtain ⟨e1, l1, R1⟩ := go l R
      refine ⟨e1, p w σ' _ O' l1 R1 ?_⟩
      cases v with
      | d d => exact Rep.le (unlock_hide e1) rp
      | s i => exact rp
      | n d =>
        obtain ⟨c, ec, nn⟩ := rp
        have nca : c ≠ a := fun z => vis l e1 (z ▸ nn.hid)
        refine ⟨c, ec, nn.hid, nn.nob, ?_, nn.own.le (unlock_hide e1) fun o q => by rw [upd_ne nca]; exact q, nn.sep⟩
        have z4 : upd b.B a (.frz od u) c = none := nn.frs
        rw [upd_ne nca] at z4
        exact z4
theorem PostS.lckd {b : Bas} {H : Hp} {O : List Addr} {a : Addr} {u : HO} {od : Obj} {H0 : Hp} (hb : b.B a = none ∨ b.B a = some (.frz od u)) :
    ∀ {r : Res (Fl × DEnv)} {D : Ends}, PostS g W b H O r D → PostS g (UnL H0 W) (b.at_ a (.frz od u)) H O r D := by
  intro r D p
  cases r with
  | stuck => exact p
  | err c f e => exact fun σ' cls dd H' O' l R x => .base (p σ' cls dd _ O' l (R.unat hb) x)
  | ok q =>
    obtain ⟨f, e⟩ := q
    cases f with
    | nx => exact fun σ' H' O' l R => p σ' _ O' l (R.unat hb)
    | bk => exact fun σ' H' O' l R => p σ' _ O' l (R.unat hb)
    | ct => exact fun σ' H' O' l R => p σ' _ O' l (R.unat hb)
    | rt v =>
      intro w σ' H' O' l R rp
      refine p w σ' _ O' l (R.unat hb) ?_
      cases v with
      | d d => exact rp
      | s i => exact rp
      | n d =>
        obtain ⟨c, ec, nn⟩ := rp
        refine ⟨c, ec, nn.hid, nn.nob, ?_, nn.own, nn.sep⟩
        have z4 : upd b.B a (.frz od u) c = none := nn.frs
        by_cases e : c = a
        · subst e; rw [upd_same] at z4; cases z4
        · rw [upd_ne e] at z4; exact z4
/-- for tg in a dict -/
def sForD (pth : DEnv → Option D) (bd : BDn) (body : SDen) : SDen := fun e => (ofO (pth e)).bind fun d => (ofO (keysD d)).bind fun ks => forD bd body ks e
theorem s_forD {tg iter : Expr} {body : List Stmt} {pth : DEnv → Option D} {te : TE} {bd : BDn} {gt : TG} {mb : SDen} (hp : PassesOwn (model X.prog X.w) X.A X.env X.xe) (hc : X.calm = true) (hb : Bd g gt bd) (L : Lct g X iter pth te) (hg : PG X tg gt) (hbo : PSs X body (rS g (UnL X.H_0 W) mb))
    (hs : ∀ x, foldedSetIterable iter X.env x = pure x := by intro _; rfl) : PS X (.For tg iter body [] pos) (rS g W (sForD pth bd mb)) := by
  refine ⟨fun pins s σ H D I hw => ?_⟩
  obtain ⟨b, O, env, R, h⟩ := hw
  obtain ⟨d, hd, h⟩ := h.ofO
  obtain ⟨ks, hk, h⟩ := h.ofO
  obtain ⟨v, rv, run⟩ := L.at_ b H O σ env d R hd
  obtain ⟨a, u, ev, rd, mu, ns, nf, hu, its⟩ := keys_it rv hk
  have P := ps_for (pos := pos) hp hc (pi_keys L.pe) hg hbo hs
  rcases rd with rd | ⟨od, rd⟩
  · obtain ⟨n, ha⟩ := hide_some rd
    have hB : b.B a = none ∨ b.B a = some u := by
      cases z : b.B a with
      | none => exact .inl rfl
      | some o => rw [R.pro a o z] at ha; cases ha; exact .inr rfl
    refine (ps_lock P).run pins s σ H D I ⟨a, u, ha, mu, fun od => ?_⟩
    obtain ⟨J, j1, j2⟩ := its od
    have R1 := R.lock (od := od) n ha nf ns
    refine run _ (fun c o so q => ?_) _ ⟨a, od, ev, j1 (fun J H1 => tFor (fun _ H R => R J H) gt (rS g (UnL X.H_0 W) mb) (LckE a od u D) σ H1) _ upd_same (for_core hb R1 (j2 _ _ upd_same) (PostS.lck n ha nf ns hB hu (I.nofrz ha mu) h))⟩
    rw [upd_ne fun (z : c = a) => by rw [z, ha] at q; cases q; exact ns so]
    exact q
  · obtain ⟨n, ha⟩ := hide_some rd
    have hB : b.B a = none ∨ b.B a = some (.frz od u) := by
      cases z : b.B a with
      | none => exact .inl rfl
      | some o => rw [R.pro a o z] at ha; cases ha; exact .inr rfl
    obtain ⟨J, j1, j2⟩ := its od
    refine P.run pins s σ H D I (run H (fun _ _ _ q => q) _ ⟨a, od, ev, j1 (fun J H1 => tFor (fun _ H R => R J H) gt (rS g (UnL X.H_0 W) mb) D σ H1) _ ha (for_core hb (R.locked n ha) (j2 _ _ upd_same) (PostS.lckd hB h))⟩)
end
end MM

set_option maxHeartbeats 2000000
namespace MM
open PySem PySem.Spec PyProof.Rows L2

/-! ### targets that tell which names they write -/
structure UpS (js : List Nat) (σ σ' : L2.St) : Prop where
  len : σ'.length = σ.length
  at_ : ∀ j : Nat, j ∉ js → σ'[j]? = σ[j]?
theorem UpS.refl (js : List Nat) (σ : L2.St) : UpS js σ σ := ⟨rfl, fun _ _ => rfl⟩
theorem UpS.trans {js : List Nat} {a b c : L2.St} (h : UpS js a b) (k : UpS js b c) : UpS js a c := ⟨k.len.trans h.len, fun j n => (k.at_ j n).trans (h.at_ j n)⟩
theorem UpS.more {js ks : List Nat} {a b : L2.St} (h : UpS js a b) (k : ∀ j, j ∈ js → j ∈ ks) : UpS ks a b := ⟨h.len, fun j n => h.at_ j fun z => n (k j z)⟩
def BdU (g : G) (js : List Nat) (t : TG) (bd : BDn) : Prop := ∀ b H O σ e p v Q, REnv g b H O σ e → RP g b H O σ e p v → (∃ e', bd p e = some e' ∧ ∀ σ' H' O', Le (hide H O) (hide H' O') → REnv g b H' O' σ' e' → UpS js σ σ' → Q σ' H') → t v σ H Q
theorem BdU.bd {g : G} {js : List Nat} {t : TG} {bd : BDn} (h : BdU g js t bd) : Bd g t bd := fun b H O σ e p v Q R rp ⟨e', z, q⟩ => h b H O σ e p v Q R rp ⟨e', z, fun σ' H' O' l R' _ => q σ' H' O' l R'⟩
theorem upS_set {σ : L2.St} {i : Nat} {x : Option V} : UpS [i] σ (σ.set i x) := ⟨List.length_set, fun j n => List.getElem?_set_ne fun e => n (by rw [e]; exact List.mem_singleton.mpr rfl)⟩
theorem asg_core {g : G} {i : Nat} {b : Bas} {H : Hp} {O : List Addr} {σ : L2.St} {e e' : DEnv} {p : P} {v : V} (R : REnv g b H O σ e) (rp : RP g b H O σ e p v) (h : asg i p e = some e') : ∃ O', Ext (hide H O) (hide H O') ∧ REnv g b H O' (σ.set i (some v)) e' := by
  cases p with
  | d x => cases h; exact ⟨O, Ext.refl _, R.setFr rp⟩
  | n x =>
    cases h
    obtain ⟨a, rfl, n⟩ := rp
    by_cases i0 : i = 0
    · rw [if_pos i0]
      obtain ⟨O', x1, _, R1, r1⟩ := R.keep n
      exact ⟨O', x1, R1.setFr r1⟩
    · rw [if_neg i0]
      exact ⟨O, Ext.refl _, R.setOw n i0⟩
  | s k =>
    simp only [asg] at h
    cases hz : P.frz (.s k) e with
    | none => rw [hz] at h; cases h
    | some z =>
      rw [hz] at h
      obtain ⟨d, e1⟩ := z
      cases h
      obtain ⟨O', x, R', r⟩ := frz_ok R rp hz
      exact ⟨O', x, R'.setFr r⟩
theorem asg_u {g : G} (i : Nat) : BdU g [i] (gName i) (asg i) := fun b H O σ e p v Q R rp ⟨e', h, q⟩ =>
  let ⟨O', x, R'⟩ := asg_core R rp h
  q _ H O' x.le R' upS_set
inductive BdsU (g : G) : List Nat → TGs → List BDn → Prop
  | nil {js} : BdsU g js gNil []
  | cons {t u bd bs js ks} : BdU g js t bd → BdsU g ks u bs → BdsU g (js ++ ks) (gCons t u) (bd :: bs)
theorem BdsU.bds {g : G} {js : List Nat} {u : TGs} {bs : List BDn} (h : BdsU g js u bs) : Bds g u bs := by
  induction h with
  | nil => exact .nil
  | cons h _ ih => exact .cons h.bd ih
theorem bEach_u {g : G} {b : Bas} : ∀ {bs : List BDn} {js : List Nat} {u : TGs} {ds : List D} {xs : List V} {H : Hp} {O : List Addr} {σ : L2.St} {e e' : DEnv} {Q : L2.St → Hp → Prop}, BdsU g js u bs → REnv g b H O σ e → Reps g (hide H O) ds xs → bEach bs ds e = some e' →
    (∀ σ' H' O', Le (hide H O) (hide H' O') → REnv g b H' O' σ' e' → UpS js σ σ' → Q σ' H') → u xs σ H Q
  | [], _, _, [], _, H, O, σ, e, _, Q, .nil, R, .nil, h, q => by cases h; exact ⟨rfl, q σ H O (Le.refl _) R (UpS.refl _ _)⟩
  | [], _, _, _ :: _, _, _, _, _, _, _, _, .nil, _, _, h, _ => by cases h
  | _ :: _, _, _, [], _, _, _, _, _, _, _, .cons _ _, _, _, h, _ => by cases h
  | bd :: bs, _, _, d :: ds, _, H, O, σ, e, e', Q, .cons h1 h2, R, .cons r rs, h, q => by
    simp only [bEach] at h
    cases hz : bd (.d d) e with
    | none => rw [hz] at h; cases h
    | some e1 =>
      rw [hz] at h
      exact ⟨_, _, rfl, h1 b H O σ e (.d d) _ _ R r ⟨e1, hz, fun σ' H' O' l R' u1 => bEach_u h2 R' (rs.le l) h fun σ2 H2 O2 l2 R2 u2 => q σ2 H2 O2 (l.trans l2) R2 ((u1.more fun j m => List.mem_append_left _ m).trans (u2.more fun j m => List.mem_append_right _ m))⟩⟩
theorem tup_u {g : G} {js : List Nat} {u : TGs} {bs : List BDn} (h : BdsU g js u bs) : BdU g js (gTup g.K bs.length u) (bTup bs) := fun b H O σ e p v Q R rp ⟨e', hz, q⟩ => by
  unfold bTup at hz
  split at hz
  · rename_i ds hv
    obtain ⟨a, xs, rfl, hs, r⟩ := (vw_ok R rp hv).tup
    exact ⟨a, xs, rfl, hs, r.len.symm.trans (h.bds.len hz), bEach_u h R r hz q⟩
  · cases hz
/-! ### slots forgotten, brought back -/
def wipeE : List Nat → DEnv → DEnv
  | [], e => e
  | v :: vs, e => (wipeE vs e).set v .no
def frOnly : Option Sl → Sl
  | some (.fr d) => .fr d
  | _ => .no
def restE (e0 : DEnv) : List Nat → DEnv → DEnv
  | [], e => e
  | v :: vs, e => (restE e0 vs e).set v (frOnly e0[v]?)
theorem wipeE_len (e : DEnv) : ∀ vs : List Nat, (wipeE vs e).length = e.length
  | [] => rfl
  | v :: vs => by show ((wipeE vs e).set v .no).length = _; rw [List.length_set, wipeE_len e vs]
theorem restE_len (e0 e : DEnv) : ∀ vs : List Nat, (restE e0 vs e).length = e.length
  | [] => rfl
  | v :: vs => by show ((restE e0 vs e).set v _).length = _; rw [List.length_set, restE_len e0 e vs]
theorem set_at {α : Type} (l : List α) (i j : Nat) (x : α) : (l.set i x)[j]? = if j = i then (if j < l.length then some x else none) else l[j]? := by
  by_cases e : j = i
  · subst e
    rw [if_pos rfl]
    by_cases q : j < l.length
    · rw [if_pos q, List.getElem?_set_self q]
    · rw [if_neg q, List.getElem?_eq_none (by simpa using q)]
  · rw [if_neg e, List.getElem?_set_ne (Ne.symm e)]
theorem wipeE_at (e : DEnv) (j : Nat) : ∀ vs : List Nat, (wipeE vs e)[j]? = if j ∈ vs then (if j < e.length then some .no else none) else e[j]?
  | [] => by simp [wipeE]
  | v :: vs => by
    show ((wipeE vs e).set v .no)[j]? = _
    rw [set_at, wipeE_len]
    by_cases q : j = v
    · subst q
      rw [if_pos rfl, if_pos List.mem_cons_self]
    · rw [if_neg q, wipeE_at e j vs]
      have : j ∈ v :: vs ↔ j ∈ vs := by simp [q]
      simp only [this]
theorem restE_at (e0 e : DEnv) (j : Nat) : ∀ vs : List Nat, (restE e0 vs e)[j]? = if j ∈ vs then (if j < e.length then some (frOnly e0[j]?) else none) else e[j]?
  | [] => by simp [restE]
  | v :: vs => by
    show ((restE e0 vs e).set v _)[j]? = _
    rw [set_at, restE_len]
    by_cases q : j = v
    · subst q
      rw [if_pos rfl, if_pos List.mem_cons_self]
    · rw [if_neg q, restE_at e0 e j vs]
      have : j ∈ v :: vs ↔ j ∈ vs := by simp [q]
      simp only [this]
theorem wipe_at (σ : L2.St) (j : Nat) : ∀ vs : List Nat, (wipe σ vs)[j]? = if j ∈ vs then (if j < σ.length then some none else none) else σ[j]?
  | [] => by simp [wipe]
  | v :: vs => by
    show ((wipe σ vs).set v none)[j]? = _
    rw [set_at, wipe_length]
    by_cases q : j = v
    · subst q
      rw [if_pos rfl, if_pos List.mem_cons_self]
    · rw [if_neg q, wipe_at σ j vs]
      have : j ∈ v :: vs ↔ j ∈ vs := by simp [q]
      simp only [this]
theorem wipe_up {js vs : List Nat} {σ σ' : L2.St} (h : UpS js (wipe σ vs) σ') (k : ∀ j, j ∈ js → j ∈ vs) : wipe σ' vs = wipe σ vs := by
  apply List.ext_getElem?
  intro j
  have hl : σ'.length = σ.length := h.len.trans (wipe_length σ vs)
  rw [wipe_at, wipe_at, hl]
  by_cases m : j ∈ vs
  · rw [if_pos m, if_pos m]
  · rw [if_neg m, if_neg m, h.at_ j fun z => m (k j z), wipe_at, if_neg m]
section
variable {g : G} {b : Bas} {H : Hp} {O : List Addr} {σ : L2.St} {env : DEnv}
theorem REnv.wipe (R : REnv g b H O σ env) (vs : List Nat) : REnv g b H O (L2.wipe σ vs) (wipeE vs env) := by
  have get : ∀ {j : Nat} {s : Sl}, (wipeE vs env)[j]? = some s → s ≠ .no → j ∉ vs ∧ env[j]? = some s := fun {j s} h n => by
    rw [wipeE_at] at h
    by_cases m : j ∈ vs
    · rw [if_pos m] at h
      split at h
      · cases h; exact absurd rfl n
      · cases h
    · rw [if_neg m] at h; exact ⟨m, h⟩
  have at_ : ∀ {j : Nat}, j ∉ vs → (L2.wipe σ vs)[j]? = σ[j]? := fun {j} m => by rw [wipe_at, if_neg m]
  refine ⟨by rw [wipeE_len, wipe_length]; exact R.len, R.pro, R.out, R.hd, fun j d h => ?_, fun j d h => ?_, fun i j d e a h1 h2 h3 h4 => ?_, fun a d hI h => ?_⟩
  · obtain ⟨m, h⟩ := get h fun z => by cases z
    rw [at_ m]; exact R.fr j d h
  · obtain ⟨m, h⟩ := get h fun z => by cases z
    rw [at_ m]; exact R.ow j d h
  · obtain ⟨m1, h1⟩ := get h1 fun z => by cases z
    obtain ⟨m2, h2⟩ := get h2 fun z => by cases z
    rw [at_ m1] at h3
    rw [at_ m2] at h4
    exact R.sep i j d e a h1 h2 h3 h4
  · obtain ⟨m, h⟩ := get h fun z => by cases z
    rw [at_ m]; exact R.io a d hI h
/-- behind a block: its own names are what they were -/
theorem REnv.rest {H0 : Hp} {O0 : List Addr} {e0 : DEnv} {vs : List Nat} (R0 : REnv g b H0 O0 σ e0) (R : REnv g b H O (L2.wipe σ vs) env) (l : Le (hide H0 O0) (hide H O)) : REnv g b H O σ (restE e0 vs env) := by
  have at_ : ∀ {j : Nat}, j ∉ vs → (L2.wipe σ vs)[j]? = σ[j]? := fun {j} m => by rw [wipe_at, if_neg m]
  have own : ∀ {j : Nat} {d : D}, (restE e0 vs env)[j]? = some (.ow d) → j ∉ vs ∧ env[j]? = some (.ow d) := fun {j d} h => by
    rw [restE_at] at h
    by_cases m : j ∈ vs
    · rw [if_pos m] at h
      split at h
      · unfold frOnly at h; split at h <;> cases h
      · cases h
    · rw [if_neg m] at h; exact ⟨m, h⟩
  refine ⟨by rw [restE_len, R.len, wipe_length], R.pro, R.out, R.hd, fun j d h => ?_, fun j d h => ?_, fun i j d e a h1 h2 h3 h4 => ?_, fun a d hI h => ?_⟩
  · rw [restE_at] at h
    by_cases m : j ∈ vs
    · rw [if_pos m] at h
      split at h
      · unfold frOnly at h
        split at h
        · rename_i x hx
          cases h
          obtain ⟨v, z1, z2⟩ := R0.fr j _ hx
          exact ⟨v, z1, z2.le l⟩
        · cases h
      · cases h
    · rw [if_neg m] at h
      rw [← at_ m]
      exact R.fr j d h
  · obtain ⟨m, h⟩ := own h
    rw [← at_ m]; exact R.ow j d h
  · obtain ⟨m1, h1⟩ := own h1
    obtain ⟨m2, h2⟩ := own h2
    rw [← at_ m1] at h3
    rw [← at_ m2] at h4
    exact R.sep i j d e a h1 h2 h3 h4
  · obtain ⟨m, h⟩ := own h
    rw [← at_ m]; exact R.io a d hI h
/-- an own object that no name holds -/
structure Held (g : G) (b : Bas) (H : Hp) (O : List Addr) (σ : L2.St) (env : DEnv) (a : Addr) : Prop where
  hid : a ∈ O
  nob : a ∉ b.O
  frs : b.B a = none
  sep : ∀ (j : Nat) (e : D), env[j]? = some (Sl.ow e) → σ[j]? ≠ some (some (V.ref a))
/-- .. stays while the rest runs -/
def Bas.grd (b : Bas) (a : Addr) (o : HO) : Bas := ⟨upd b.B a o, a :: b.O, b.I⟩
theorem REnv.guard {a : Addr} {o : HO} (R : REnv g b H O σ env) (h : Held g b H O σ env a) (e : H a = some o) : REnv g (b.grd a o) H O σ env := by
  refine ⟨R.len, fun c u q => ?_, fun c hc => ?_, R.hd, R.fr, fun j f q => ?_, R.sep, R.io⟩
  · have q' : upd b.B a o c = some u := q
    by_cases z : c = a
    · subst z; rw [upd_same] at q'; rw [e]; exact q'
    · rw [upd_ne z] at q'; exact R.pro c u q'
  · rcases List.mem_cons.mp hc with rfl | hc
    · exact h.hid
    · exact R.out c hc
  · obtain ⟨c, z1, z2, z3, z4, z5⟩ := R.ow j f q
    have n : c ≠ a := fun z => h.sep j f q (by rw [← z]; exact z1)
    refine ⟨c, z1, z2, fun m => ?_, by show upd b.B a o c = none; rw [upd_ne n]; exact z4, z5⟩
    rcases List.mem_cons.mp m with z | m
    · exact n z
    · exact z3 m
theorem REnv.unguard {a : Addr} {o : HO} (R : REnv g (b.grd a o) H O σ env) (nb : a ∉ b.O) (fb : b.B a = none) : REnv g b H O σ env ∧ Held g b H O σ env a ∧ H a = some o := by
  have out : a ∈ O := R.out a List.mem_cons_self
  refine ⟨⟨R.len, fun c u q => R.pro c u ?_, fun c hc => R.out c (List.mem_cons_of_mem _ hc), R.hd, R.fr, fun j f q => ?_, R.sep, R.io⟩, ⟨out, nb, fb, fun j f q z => ?_⟩, R.pro a o upd_same⟩
  · show upd b.B a o c = some u
    rw [upd_ne fun (z : c = a) => by rw [z, fb] at q; cases q]
    exact q
  · obtain ⟨c, z1, z2, z3, z4, z5⟩ := R.ow j f q
    have n : c ≠ a := fun z => z3 (z ▸ List.mem_cons_self)
    have z4' : upd b.B a o c = none := z4
    rw [upd_ne n] at z4'
    exact ⟨c, z1, z2, fun m => z3 (List.mem_cons_of_mem _ m), z4', z5⟩
  · obtain ⟨c, z1, _, z3, _, _⟩ := R.ow j f q
    rw [z] at z1
    cases z1
    exact z3 List.mem_cons_self
theorem Held.poke {a : Addr} {o : HO} (h : Held g b H O σ env a) (R : REnv g b H O σ env) (ho : Hid (some o)) : REnv g b (upd H a o) O σ env ∧ hide (upd H a o) O = hide H O := by
  have he : hide (upd H a o) O = hide H O := hide_upd h.hid
  refine ⟨⟨R.len, fun c u q => ?_, R.out, fun c hc => ?_, fun j f q => ?_, fun j f q => ?_, R.sep, R.io⟩, he⟩
  · rw [upd_ne fun (z : c = a) => by rw [z, h.frs] at q; cases q]; exact R.pro c u q
  · by_cases z : c = a
    · subst z; rw [upd_same]; exact ho
    · rw [upd_ne z]; exact R.hd c hc
  · rw [he]; exact R.fr j f q
  · obtain ⟨c, z1, z2, z3, z4, z5⟩ := R.ow j f q
    refine ⟨c, z1, z2, z3, z4, z5.le (by rw [he]; exact Le.refl _) fun u hu => ?_⟩
    rw [upd_ne fun (z : c = a) => h.sep j f q (by rw [← z]; exact z1)]
    exact hu
theorem Held.wipe {a : Addr} {vs : List Nat} (h : Held g b H O σ env a) : Held g b H O (L2.wipe σ vs) (wipeE vs env) a := ⟨h.hid, h.nob, h.frs, fun j e q z => by
  rw [wipeE_at] at q
  rw [wipe_at] at z
  by_cases m : j ∈ vs
  · rw [if_pos m] at q
    split at q <;> cases q
  · rw [if_neg m] at q z
    exact h.sep j e q z⟩
end
end MM

set_option maxHeartbeats 2000000
namespace MM
open PySem PySem.Spec PyProof.Rows L2

/-! ### list comprehensions: within a block nothing is raised -/
def lcD (vs : List Nat) (bd : BDn) (t : TDen) (m : EDen) : List D → DEnv → List D → Option (List D × DEnv)
  | [], e, acc => some (acc, e)
  | d :: ds, e, acc => (bd (.d d) e).bind fun e1 => match t e1 with
    | .ok (true, e2) => match m e2 with
      | .ok (p, e3) => (p.frz e3).bind fun z => if acc.length < 16777216 then lcD vs bd t m ds (wipeE vs z.2) (acc ++ [z.1]) else none
      | _ => none
    | .ok (false, e2) => lcD vs bd t m ds (wipeE vs e2) acc
    | _ => none
def tYs : TDen := fun e => .ok (true, e)
theorem pts_yes {X : Cx} {g : G} {W : WX} : PTs X [] (rT g W tYs) := ⟨fun pins s σ H Q I ⟨b, O, env, R, h⟩ => pts_nil.run pins s σ H Q I (h H O (Le.refl _) R)⟩
theorem Held.own {g : G} {b : Bas} {H : Hp} {O : List Addr} {σ : L2.St} {e0 env : DEnv} {a : Addr} {vs : List Nat} {d : D} (h : Held g b H O (L2.wipe σ vs) env a) (w : OwnAt g H O d a) : New g b H O σ (restE e0 vs env) d a := ⟨h.hid, h.nob, h.frs, w, fun j f q z => by
  rw [restE_at] at q
  by_cases m : j ∈ vs
  · rw [if_pos m] at q
    split at q
    · unfold frOnly at q; split at q <;> cases q
    · cases q
  · rw [if_neg m] at q
    exact h.sep j f q (by rw [wipe_at, if_neg m]; exact z)⟩
section
variable {g : G} {W : WX} {X : Cx} {pos : Pos}
/-- a block's loop over J: the new list stands at a, F is what the end is to reach -/
def LcLoop (J : It) (gt : TG) (tt : TT) (te : TE) (vs : List Nat) (σ : L2.St) (a : Addr) (H0 : Hp) (F : Hp → Prop) : Prop :=
  ∃ Wl : Nat → Nat → Hp → Prop, (∃ k, Wl 0 k H0) ∧
    ∀ j k Hj, Wl j k Hj → (J.stop j Hj ∧ F Hj) ∨ (J.go j Hj ∧
      ∃ Ny : Hp → Prop, (∀ H', Ny H' → ∃ k', k' < k ∧ Wl (j + 1) k' H') ∧
        ∀ y H', J.yld j Hj y H' →
          gt y (L2.wipe σ vs) H' fun σ2 H2 => L2.wipe σ2 vs = L2.wipe σ vs ∧
            tt σ2 H2 fun c H3 => if c = true then te σ2 H3 fun z H4 => ∃ ys, H4 a = some (.lst ys) ∧ ys.length < sizeLine ∧ Ny (upd H4 a (.lst (ys ++ [z]))) else Ny H3)
theorem lc_loop {vs js : List Nat} {bd : BDn} {t : TDen} {m : EDen} {gt : TG} {b : Bas} {J : It} {ds acc0 res : List D} {H1 : Hp} {O1 : List Addr} {σ : L2.St} {e1 e9 : DEnv} {a : Addr} {xs0 : List V} {F : Hp → Prop} (hb : BdU g js gt bd) (hj : ∀ j, j ∈ js → j ∈ vs) (R1 : REnv g b H1 O1 (L2.wipe σ vs) e1) (h1 : Held g b H1 O1 (L2.wipe σ vs) e1 a)
    (ha1 : H1 a = some (.lst xs0)) (ra1 : Reps g (hide H1 O1) acc0 xs0) (Y : YldB g b.B J ds (hide H1 O1)) (h : lcD vs bd t m ds e1 acc0 = some (res, e9))
    (q : ∀ H' O' xs, Le (hide H1 O1) (hide H' O') → REnv g b H' O' (L2.wipe σ vs) e9 → Held g b H' O' (L2.wipe σ vs) e9 a → H' a = some (.lst xs) → Reps g (hide H' O') res xs → F H') :
    LcLoop J gt (rT g W0 t) (rE g W0 m) vs σ a H1 F := by
  refine ⟨fun i k H => k = ds.length - i ∧ i ≤ ds.length ∧ ∃ O e xs acc, Le (hide H1 O1) (hide H O) ∧ REnv g b H O (L2.wipe σ vs) e ∧ Held g b H O (L2.wipe σ vs) e a ∧ H a = some (.lst xs) ∧ Reps g (hide H O) acc xs ∧ lcD vs bd t m (ds.drop i) e acc = some (res, e9),
    ⟨ds.length, rfl, Nat.zero_le _, O1, e1, xs0, acc0, Le.refl _, R1, h1, ha1, ra1, h⟩, ?_⟩
  rintro i k H2 ⟨rfl, hi, O2, e2, xs, acc, l2, R2, h2, ha, ra, hl⟩
  obtain ⟨y1, y2⟩ := Y H2 O2 l2 R2.hd R2.pro i
  cases hd : ds[i]? with
  | none =>
    have hge : ds.length ≤ i := List.getElem?_eq_none_iff.mp hd
    rw [List.drop_of_length_le hge] at hl
    cases hl
    exact .inl ⟨y2 hd, q H2 O2 xs l2 R2 h2 ha ra⟩
  | some d =>
    obtain ⟨hlt, hget⟩ := List.getElem?_eq_some_iff.mp hd
    obtain ⟨go, yl⟩ := y1 d hd
    have hdr : ds.drop i = d :: ds.drop (i + 1) := by rw [List.drop_eq_getElem_cons hlt, hget]
    rw [hdr] at hl
    simp only [lcD] at hl
    refine .inr ⟨go, fun H => ∃ O e xs acc, Le (hide H1 O1) (hide H O) ∧ REnv g b H O (L2.wipe σ vs) e ∧ Held g b H O (L2.wipe σ vs) e a ∧ H a = some (.lst xs) ∧ Reps g (hide H O) acc xs ∧ lcD vs bd t m (ds.drop (i + 1)) e acc = some (res, e9),
      fun H' z => ⟨ds.length - (i + 1), by omega, rfl, hlt, z⟩, fun x H3 hy => ?_⟩
    obtain ⟨ex, rp⟩ := yl x H3 hy
    have R3 := R2.ext ex
    have h3 : Held g b H3 O2 (L2.wipe σ vs) e2 a := ⟨h2.hid, h2.nob, h2.frs, h2.sep⟩
    have ha3 := ex a _ ha
    have l3 : Le (hide H2 O2) (hide H3 O2) := (hide_ext ex).le
    cases hz : bd (.d d) e2 with
    | none => rw [hz] at hl; cases hl
    | some e3 =>
      rw [hz] at hl
      simp only [Option.bind_some] at hl
      refine hb (b.grd a (.lst xs)) H3 O2 (L2.wipe σ vs) e2 (.d d) x _ (R3.guard h3 ha3) rp ⟨e3, hz, fun σ4 H4 O4 l4 R4 up => ?_⟩
      have hw : L2.wipe σ4 vs = L2.wipe σ vs := wipe_up up hj
      refine ⟨hw, _, O4, e3, R4, ?_⟩
      revert hl
      cases ht : t e3 with
      | err c f e => exact fun z => by cases z
      | stuck => exact fun z => by cases z
      | ok r =>
        obtain ⟨k, e5⟩ := r
        intro hl H5 O5 l5 R5
        have l25 : Le (hide H2 O2) (hide H5 O5) := (l3.trans l4).trans l5
        cases k with
        | false =>
          refine iteF ?_
          obtain ⟨R6, h6, ha6⟩ := R5.unguard h2.nob h2.frs
          have R7 := R6.wipe vs
          have h7 := h6.wipe (vs := vs)
          rw [hw] at R7 h7
          exact ⟨O5, wipeE vs e5, xs, acc, l2.trans l25, R7, h7, ha6, ra.le l25, hl⟩
        | true =>
          refine iteT ⟨_, O5, e5, R5, ?_⟩
          simp only at hl
          revert hl
          cases hm : m e5 with
          | err c f e => exact fun z => by cases z
          | stuck => exact fun z => by cases z
          | ok r =>
            obtain ⟨p, e6⟩ := r
            intro hl y H6 O6 l6 R6 rp6
            simp only at hl
            cases hf : p.frz e6 with
            | none => rw [hf] at hl; cases hl
            | some z =>
              obtain ⟨dz, e7⟩ := z
              rw [hf] at hl
              simp only [Option.bind_some] at hl
              obtain ⟨O7, x7, R7, r7⟩ := frz_ok R6 rp6 hf
              obtain ⟨R8, h8, ha8⟩ := R7.unguard h2.nob h2.frs
              by_cases hlen : acc.length < 16777216
              · rw [if_pos hlen] at hl
                have l27 : Le (hide H2 O2) (hide H6 O7) := (l25.trans l6).trans x7.le
                obtain ⟨R9, he⟩ := h8.poke (o := .lst (xs ++ [y])) R8 trivial
                have h9 : Held g b (upd H6 a (.lst (xs ++ [y]))) O7 σ4 e7 a := ⟨h8.hid, h8.nob, h8.frs, h8.sep⟩
                have R10 := R9.wipe vs
                have h10 := h9.wipe (vs := vs)
                rw [hw] at R10 h10
                refine ⟨xs, ha8, by rw [sizeLine_eq, ← ra.len]; exact hlen, O7, wipeE vs e7, xs ++ [y], acc ++ [dz], ?_, R10, h10, upd_same, ?_, hl⟩
                · rw [he]; exact l2.trans l27
                · rw [he]; exact (ra.le l27).append (.cons r7 .nil)
              · rw [if_neg hlen] at hl; cases hl
theorem lc_read {vs js : List Nat} {bd : BDn} {t : TDen} {m : EDen} {gt : TG} {b : Bas} {J : It} {ds res : List D} {H1 : Hp} {O1 : List Addr} {σ : L2.St} {e0 e9 : DEnv} {Q : VK} (hb : BdU g js gt bd) (hj : ∀ j, j ∈ js → j ∈ vs) (R0 : REnv g b H1 O1 σ e0) (Y : YldB g b.B J ds (hide H1 O1))
    (h : lcD vs bd t m ds (wipeE vs e0) [] = some (res, e9)) (q : ∀ a H' O', Le (hide H1 O1) (hide H' O') → REnv g b H' O' σ (restE e0 vs e9) → New g b H' O' σ (restE e0 vs e9) (.lst res) a → Q (.ref a) H') :
    tLc (fun _ H R => R J H) gt (rT g W0 t) (rE g W0 m) vs σ H1 Q := by
  intro a na
  have n0 := R0.layNew (o := .lst []) (d := .lst []) na ⟨[], upd_same, .nil⟩
  have R1 : REnv g b (upd H1 a (.lst [])) (a :: O1) σ e0 := R0.lay na trivial
  exact lc_loop hb hj (R1.wipe vs) (Held.mk n0.hid n0.nob n0.frs n0.sep).wipe upd_same .nil (fun H2 O2 l => Y H2 O2 ((lay_le na).le.trans l)) h
    fun H' O' xs l R' h' ha ra => q a H' O' ((lay_le na).le.trans l) (R0.rest R' ((lay_le na).le.trans l)) (h'.own ⟨xs, ha, ra⟩)
def eLc (vs : List Nat) (mi : IDen) (bd : BDn) (t : TDen) (m : EDen) : EDen := fun e => (mi e).bind fun a => (ofO (lcD vs bd t m a.1 (wipeE vs a.2) [])).bind fun z => .ok (.n (.lst z.1), restE a.2 vs z.2)
theorem lc_weak {vs js : List Nat} {mi : IDen} {bd : BDn} {t : TDen} {m : EDen} {gt : TG} {σ : L2.St} {H : Hp} {Q : VK} (hb : BdU g js gt bd) (hj : ∀ j, j ∈ js → j ∈ vs) (h : rE g W (eLc vs mi bd t m) σ H Q) : tLc (rI g W mi) gt (rT g W0 t) (rE g W0 m) vs σ H Q := by
  obtain ⟨b, O, env, R, h⟩ := h
  refine ⟨b, O, env, R, ?_⟩
  unfold eLc at h
  revert h
  cases mi env with
  | err c f e => exact fun z => z
  | stuck => exact fun z => z
  | ok a =>
    obtain ⟨ds, e0⟩ := a
    intro h J H1 O1 l1 R1 Y
    obtain ⟨⟨res, e9⟩, hz, h2⟩ := h.ofO
    exact lc_read hb hj R1 Y.b hz fun a H' O' l R' n => h2 (.ref a) H' O' (l1.trans l) R' ⟨a, rfl, n⟩
abbrev blkX (X : Cx) (s : Shared) (H : Hp) (scope : Scope) (cl : List (Str × Addr)) (C : Addr) (fp : List Addr) : Cx := X.blk s H scope (compEnvC scope cl C X.env) fp
theorem x_lc {elt tg iter : Expr} {ifs : List Expr} {scope : Scope} {own : List (Str × Nat)} {mi : IDen} {js : List Nat} {bd : BDn} {t : TDen} {m : EDen} {gt : TG} (hc : X.calm = true) (hN : X.N.Nodup) (hi : PI X tg iter (rI g W mi)) (hb : BdU g js gt bd) (hj : ∀ j, j ∈ js → j ∈ own.map (·.2)) (ok : BlkOk X.N X.env.scope scope own)
    (hg : ∀ (s : Shared) (H : Hp) (C : Addr) (cl : List (Str × Addr)) (fp : List Addr), PG (blkX X s H scope cl C fp) tg gt) (ht : ∀ (s : Shared) (H : Hp) (C : Addr) (cl : List (Str × Addr)) (fp : List Addr), PTs (blkX X s H scope cl C fp) ifs (rT g W0 t))
    (he : ∀ (s : Shared) (H : Hp) (C : Addr) (cl : List (Str × Addr)) (fp : List Addr), PE (blkX X s H scope cl C fp) elt (rE g W0 m)) (hs : ∀ x, foldedSetIterable iter X.env x = pure x := by intro _; rfl) :
    PE X (.ListComp elt [⟨tg, iter, ifs, 0⟩] scope pos) (rE g W (eLc (own.map (·.2)) mi bd t m)) := pe_weak (pe_lc hc hN hi ok hg ht he hs) fun σ H Q h => lc_weak hb hj h
theorem s_setLc {i : Nat} {y : Str} {py spos : Pos} {elt tg iter : Expr} {ifs : List Expr} {scope : Scope} {own : List (Str × Nat)} {mi : IDen} {js : List Nat} {bd : BDn} {t : TDen} {m : EDen} {gt : TG} (hc : X.calm = true) (hN : X.N.Nodup) (hy : X.N[i]? = some y) (hyl : X.env.scope.names.lookup y = some .local)
    (hsw : swapsWith (.ListComp elt [⟨tg, iter, ifs, 0⟩] scope pos) (some (.Name y py)) spos.line X.env = pure true) (hi : PI X tg iter (rI g W mi)) (hb : BdU g js gt bd) (hj : ∀ j, j ∈ js → j ∈ own.map (·.2)) (ok : BlkOk X.N X.env.scope scope own)
    (hg : ∀ (s : Shared) (H : Hp) (C : Addr) (cl : List (Str × Addr)) (fp : List Addr), PG (blkX X s H scope cl C fp) tg gt) (ht : ∀ (s : Shared) (H : Hp) (C : Addr) (cl : List (Str × Addr)) (fp : List Addr), PTs (blkX X s H scope cl C fp) ifs (rT g W0 t))
    (he : ∀ (s : Shared) (H : Hp) (C : Addr) (cl : List (Str × Addr)) (fp : List Addr), PE (blkX X s H scope cl C fp) elt (rE g W0 m)) (hs : ∀ x, foldedSetIterable iter X.env x = pure x := by intro _; rfl) :
    PS X (.Assign [.Name y py] (.ListComp elt [⟨tg, iter, ifs, 0⟩] scope pos) spos) (rS g W (sAsg (eLc (own.map (·.2)) mi bd t m) (asg i))) :=
  ps_weak (ps_setLc hc hN hy hyl hsw hi ok hg ht he hs) fun Dd σ H h => lc_weak hb hj (rS_asg asg_ok h)
/-! over a dict -/
theorem lck_end {b : Bas} {σ : L2.St} {H H' : Hp} {O O' : List Addr} {a : Addr} {u : HO} {od : Obj} {e : DEnv} (n : a ∉ O) (h : H a = some u) (nf : ∀ o w, u ≠ .frz o w) (ns : ¬ Solid u) (hb : b.B a = none ∨ b.B a = some u) (hu : Hid (some u))
    (l : Le (hide (upd H a (.frz od u)) O) (hide H' O')) (R : REnv g (b.at_ a (.frz od u)) H' O' σ e) :
    H' a = some (.frz od u) ∧ Le (hide H O) (hide (upd H' a u) O') ∧ REnv g b (upd H' a u) O' σ e ∧ ∀ d c, New g (b.at_ a (.frz od u)) H' O' σ e d c → New g b (upd H' a u) O' σ e d c := by
  have le0 : Le (hide H O) (hide (upd H a (.frz od u)) O) := by
    rw [hide_upd_out n]
    exact lock_le (by rw [hide_out n]; exact h) nf ns
  have e1 : H' a = some (.frz od u) := R.pro a _ upd_same
  have vis : a ∉ O' := fun z => by
    have : Rd (hide (upd H a (.frz od u)) O) a u := .inr ⟨od, by rw [hide_out n, upd_same]⟩
    rcases l.rd a u nf this with q | ⟨o, q⟩ <;> (rw [hide_in z] at q; cases q)
  refine ⟨e1, (le0.trans l).trans (unlock_hide e1), (R.unlock hb hu (.inl vis)).2, fun d c nn => ?_⟩
  have nca : c ≠ a := fun z => vis (z ▸ nn.hid)
  refine ⟨nn.hid, nn.nob, ?_, nn.own.le (unlock_hide e1) fun o q => by rw [upd_ne nca]; exact q, nn.sep⟩
  have z4 : upd b.B a (.frz od u) c = none := nn.frs
  rw [upd_ne nca] at z4
  exact z4
theorem New.unat {b : Bas} {σ : L2.St} {H : Hp} {O : List Addr} {a c : Addr} {o : HO} {e : DEnv} {d : D} (nn : New g (b.at_ a o) H O σ e d c) : New g b H O σ e d c := by
  refine ⟨nn.hid, nn.nob, ?_, nn.own, nn.sep⟩
  have z4 : upd b.B a o c = none := nn.frs
  by_cases e : c = a
  · subst e; rw [upd_same] at z4; cases z4
  · rw [upd_ne e] at z4; exact z4
/-- a statement, an expression that reads a dict's keys, with the dict locked or not -/
structure Dct (g : G) (X : Cx) (b : Bas) (H : Hp) (O : List Addr) (σ : L2.St) (env : DEnv) (te : TE) (ks : List D) (a : Addr) (u : HO) (b1 : Bas) (H1 : Hp) (od : Obj) (J : It) : Prop where
  env : REnv g b1 H1 O σ env
  yld : YldB g b1.B J ks (hide H1 O)
  it : ∀ R : It → Hp → Prop, R J H1 → iKeys te σ H1 R
/-- the two ways to a dict's keys -/
theorem dct_ways {b : Bas} {H : Hp} {O : List Addr} {σ : L2.St} {env : DEnv} {e : Expr} {pth : DEnv → Option D} {te : TE} {d : D} {ks : List D} (L : Lct g X e pth te) (R : REnv g b H O σ env) (hd : pth env = some d) (hk : keysD d = some ks) :
    (∃ a u, H a = some u ∧ Mut (some u) ∧ a ∉ O ∧ (∀ o w, u ≠ .frz o w) ∧ ¬ Solid u ∧ (b.B a = none ∨ b.B a = some u) ∧ Hid (some u) ∧ ∀ od, ∃ J, Dct g X b H O σ env te ks a u (b.at_ a (.frz od u)) (upd H a (.frz od u)) od J) ∨
    (∃ a u od J, H a = some (.frz od u) ∧ (b.B a = none ∨ b.B a = some (.frz od u)) ∧ Dct g X b H O σ env te ks a u (b.at_ a (.frz od u)) H od J) := by
  obtain ⟨v, rv, run⟩ := L.at_ b H O σ env d R hd
  obtain ⟨a, u, ev, rd, mu, ns, nf, hu, its⟩ := keys_it rv hk
  rcases rd with rd | ⟨od, rd⟩
  · obtain ⟨n, ha⟩ := hide_some rd
    refine .inl ⟨a, u, ha, mu, n, nf, ns, ?_, hu, fun od => ?_⟩
    · cases z : b.B a with
      | none => exact .inl rfl
      | some o => rw [R.pro a o z] at ha; cases ha; exact .inr rfl
    · obtain ⟨J, j1, j2⟩ := its od
      refine ⟨J, R.lock n ha nf ns, j2 _ _ upd_same, fun Rr q => run _ (fun c o so q => ?_) _ ⟨a, od, ev, j1 Rr _ upd_same q⟩⟩
      rw [upd_ne fun (z : c = a) => by rw [z, ha] at q; cases q; exact ns so]
      exact q
  · obtain ⟨n, ha⟩ := hide_some rd
    obtain ⟨J, j1, j2⟩ := its od
    refine .inr ⟨a, u, od, J, ha, ?_, R.locked n ha, j2 _ _ upd_same, fun Rr q => run H (fun _ _ _ q => q) _ ⟨a, od, ev, j1 Rr _ ha q⟩⟩
    cases z : b.B a with
    | none => exact .inl rfl
    | some o => rw [R.pro a o z] at ha; cases ha; exact .inr rfl
def eLcD (vs : List Nat) (pth : DEnv → Option D) (bd : BDn) (t : TDen) (m : EDen) : EDen := fun e => (ofO (pth e)).bind fun d => (ofO (keysD d)).bind fun ks => (ofO (lcD vs bd t m ks (wipeE vs e) [])).bind fun z => .ok (.n (.lst z.1), restE e vs z.2)
theorem x_lcD {elt tg iter : Expr} {ifs : List Expr} {scope : Scope} {own : List (Str × Nat)} {pth : DEnv → Option D} {te : TE} {js : List Nat} {bd : BDn} {t : TDen} {m : EDen} {gt : TG} (hc : X.calm = true) (hN : X.N.Nodup) (L : Lct g X iter pth te) (hb : BdU g js gt bd) (hj : ∀ j, j ∈ js → j ∈ own.map (·.2)) (ok : BlkOk X.N X.env.scope scope own)
    (hg : ∀ (s : Shared) (H : Hp) (C : Addr) (cl : List (Str × Addr)) (fp : List Addr), PG (blkX X s H scope cl C fp) tg gt) (ht : ∀ (s : Shared) (H : Hp) (C : Addr) (cl : List (Str × Addr)) (fp : List Addr), PTs (blkX X s H scope cl C fp) ifs (rT g W0 t))
    (he : ∀ (s : Shared) (H : Hp) (C : Addr) (cl : List (Str × Addr)) (fp : List Addr), PE (blkX X s H scope cl C fp) elt (rE g W0 m)) (hs : ∀ x, foldedSetIterable iter X.env x = pure x := by intro _; rfl) :
    PE X (.ListComp elt [⟨tg, iter, ifs, 0⟩] scope pos) (rE g W (eLcD (own.map (·.2)) pth bd t m)) := by
  refine ⟨fun pins s σ H Q I hw => ?_⟩
  obtain ⟨b, O, env, R, h⟩ := hw
  obtain ⟨d, hd, h⟩ := h.ofO
  obtain ⟨ks, hk, h⟩ := h.ofO
  obtain ⟨⟨res, e9⟩, hz, h⟩ := h.ofO
  have P := pe_lc (pos := pos) hc hN (pi_keys L.pe) ok hg ht he hs
  rcases dct_ways L R hd hk with ⟨a, u, ha, mu, n, nf, ns, hB, hu, way⟩ | ⟨a, u, od, J, ha, hB, way⟩
  · refine (pe_lock P).run pins s σ H Q I ⟨a, u, ha, mu, fun od => ?_⟩
    obtain ⟨J, w⟩ := way od
    refine w.it (fun J H1 => tLc (fun _ H R => R J H) gt (rT g W0 t) (rE g W0 m) (own.map (·.2)) σ H1 fun v H' => H' a = some (.frz od u) ∧ Q v (upd H' a u)) (lc_read hb hj w.env w.yld hz fun c H' O' l R' nn => ?_)
    obtain ⟨e1, l1, R1, n1⟩ := lck_end n ha nf ns hB hu l R'
    exact ⟨e1, h (.ref c) _ O' l1 R1 ⟨c, rfl, n1 _ _ nn⟩⟩
  · refine P.run pins s σ H Q I ?_
    refine way.it (fun J H1 => tLc (fun _ H R => R J H) gt (rT g W0 t) (rE g W0 m) (own.map (·.2)) σ H1 Q) (lc_read hb hj way.env way.yld hz fun c H' O' l R' nn => ?_)
    exact h (.ref c) _ O' l (R'.unat hB) ⟨c, rfl, nn.unat⟩
end
end MM

set_option maxHeartbeats 2000000
namespace MM
open PySem PySem.Spec PyProof.Rows L2

/-! ### raise: an own class, called with nothing -/
section
variable {X : Cx} {C : Addr} {bmB : List Value} {B newId initId : String}
theorem pmk0 {x : Str} {p pos : Pos} (F : ExcBaseFacts B newId initId bmB) (q : PySem.W.excIn X.K C bmB newId = true) (gC : X.mg x = some (.ref C)) (kC : PySem.W.keepIn X.K (.ref C) = true) (r : Raises X (.ref C)) (hg : Gl X x)
    (hdb : (x == ("__debug__" : Str)) = false := by decide) : PMk X (.Call (.Name x p) [] [] pos) (fun _ H Q => Q (.ref C) none H) := by
  intro pins s σ H Q I h
  refine wpAny_Call_Name_kw (ld_glob I hg gC (PySem.W.callWith_K0 I.kIn kC ?_) hdb)
  obtain ⟨bm, N, nm, qn, bs, hdct, sn, sub, ab, col, dd, k0, k1, k2, k3, k5, mN, hC, hN, hni, T⟩ := exc_obj I.kIn q
  exact wpAny_call_exc_subT F T hC hN hni (fun h' e hm => mk_of I hm r h (I.hok.gone hm.new)) (Nat.zero_le _)
end
def sRaise (c : Nat) : SDen := fun e => .err c none e
/-- what the top says of an own class of errors -/
structure ExcF (g : G) (mg : Str → Option Value) (x : Str) (c : Nat) : Prop where
  mg : mg x = some (.ref (g.X c))
  ex : PySem.W.excIn g.K (g.X c) He.veBase "ValueError.__new__" = true
  kp : PySem.W.keepIn g.K (.ref (g.X c)) = true
  sb : PySem.W.subIn g.K (.ref (g.X c)) (.type "BaseException") = some true
  ty : PySem.W.typeIn g.K (.ref (g.X c)) = some (.type "type")
section
variable {g : G} {W : WX} {X : Cx} {pos p pos' : Pos}
theorem s_raise {x : Str} {c : Nat} (hK : X.K = g.K) (hc : X.calm = true) (tk : Takes X W) (hx : ExcF g X.mg x c) (hg : Gl X x := by rfl) (hdb : (x == ("__debug__" : Str)) = false := by decide) : PS X (.Raise (some (.Call (.Name x p) [] [] pos')) none pos) (rS g W (sRaise c)) :=
  ps_weak (ps_raise hc tk (pmk0 PySem.F.excBase_ValueError (by rw [hK]; exact hx.ex) hx.mg (by rw [hK]; exact hx.kp) (raises_own (by rw [hK]; exact hx.sb) (by rw [hK]; exact hx.ty)) hg hdb)) fun Dd σ H ⟨b, O, env, R, h⟩ => h σ _ _ H O (Le.refl _) R.drop ⟨rfl, rfl⟩
end
/-! ### try, clauses without a name -/
/-- a clause's suite raises nothing -/
def noE (r : Res (Fl × DEnv)) : Res (Fl × DEnv) := match r with
  | .err _ _ _ => .stuck
  | r => r
/-- what the clauses make of an error: which classes they take -/
def pick (c : Nat) (e : DEnv) (r : Res (Fl × DEnv)) : List ((Nat → Option Bool) × SDen) → Res (Fl × DEnv)
  | [] => r
  | (t, m) :: hs => match t c with
    | some true => noE (m e)
    | some false => pick c e r hs
    | none => .stuck
def sTry (mb : SDen) (hs : List ((Nat → Option Bool) × SDen)) : SDen := fun e => match mb e with
  | .err c f e' => pick c (dropOwn e') (.err c f e') hs
  | r => r
/-- the clauses' judgements -/
inductive Hds (g : G) (X : Cx) : List ExceptHandler → List ((Nat → Option Bool) × SDen) → List (Value × (Addr → Value → Option Addr → TS)) → Prop
  | nil : Hds g X [] [] []
  | cons {x : Str} {cv : Value} {t : Nat → Option Bool} {m : SDen} {b₀ : Stmt} {suite : List Stmt} {np pos' : Pos} {hds : List ExceptHandler} {l : List ((Nat → Option Bool) × SDen)} {l' : List (Value × (Addr → Value → Option Addr → TS))} (hc : Names X x cv)
      (ht : ∀ c b, t c = some b → PySem.W.exmOne X.K (.ref (g.X c)) cv = some b)
      (hsu : ∀ (a : Addr) (oe : Obj) (pn : List (Addr × Obj)), PSs (X.suite a ((a, oe) :: pn)) (b₀ :: suite) (rS g W0 m)) (r : Hds g X hds l l') :
      Hds g X (.ExceptHandler (some (.Name x np)) none (b₀ :: suite) pos' :: hds) ((t, m) :: l) ((cv, fun _ _ _ => rS g W0 m) :: l')
section
variable {g : G} {W : WX} {X : Cx} {pos p pos' : Pos}
theorem Hds.ok {hds : List ExceptHandler} {l : List ((Nat → Option Bool) × SDen)} {l' : List (Value × (Addr → Value → Option Addr → TS))} (h : Hds g X hds l l') : HdsOk X hds l' := by
  induction h with
  | nil => exact .nil
  | cons hc ht hsu _ ih => exact .cons hc (fun a oe cls d pn _ _ => hsu a oe pn) ih
theorem pick_ok {b : Bas} {H H' : Hp} {O O' : List Addr} {D : Ends} {σ : L2.St} {c : Nat} {f : Option (Str × MM.D)} {e : DEnv} {cls : Value} {dd : Option Addr} (le : Le (hide H O) (hide H' O')) (R : REnv g b H' O' σ (dropOwn e)) (hx : ExcAt g c f cls dd H') {hds : List ExceptHandler} {l : List ((Nat → Option Bool) × SDen)} {l' : List (Value × (Addr → Value → Option Addr → TS))}
    (h : Hds g X hds l l') (q : PostS g W b H O (pick c (dropOwn e) (.err c f e) l) D) : wMany X.K W D l' cls dd σ H' := by
  induction h with
  | nil => exact q σ cls dd H' O' le R hx
  | @cons x cv t m b₀ suite np pos' hds l l' hc ht hsu hr ih =>
    obtain ⟨ec, _⟩ := hx
    simp only [pick] at q
    cases hb : t c with
    | none => rw [hb] at q; exact q.elim
    | some k =>
      rw [hb] at q
      refine ⟨k, by rw [ec]; exact ht c k hb, fun ek a na => ?_, fun ek => ?_⟩
      · subst ek
        refine ⟨b, O', dropOwn e, R, ?_⟩
        have q' : PostS g W b H' O' (noE (m (dropOwn e))) D := PostS.le le q
        revert q'
        cases m (dropOwn e) with
        | err c f e => exact fun z => z.elim
        | stuck => exact fun z => z
        | ok r =>
          obtain ⟨fl, e2⟩ := r
          cases fl with
          | nx => exact fun z => z
          | bk => exact fun z => z
          | ct => exact fun z => z
          | rt p => exact fun z => z
      · subst ek
        exact ih q
theorem s_try {body : List Stmt} {mb : SDen} {h₀ : ExceptHandler} {hds : List ExceptHandler} {l : List ((Nat → Option Bool) × SDen)} {l' : List (Value × (Addr → Value → Option Addr → TS))} (hs : X.stack = X.env :: X.outer) (hf : X.env.frame = some X.env.locals) (tk : Takes X W)
    (hb : ∀ (W : WX) (pn : List (Addr × Obj)) (xe : Value → Shared → Prop), Takes (X.tr pn xe) W → PassesOwn (model X.prog X.w) X.A X.env xe → PSs (X.tr pn xe) body (rS g W mb))
    (hh : Hds g X (h₀ :: hds) l l') : PS X (.Try body (h₀ :: hds) [] [] pos) (rS g W (sTry mb l)) :=
  ps_weak (ps_try_many (tb := fun W => rS g W mb) hs hf tk hb hh.ok) fun Dd σ H ⟨b, O, env, R, h⟩ => by
    refine ⟨b, O, env, R, ?_⟩
    unfold sTry at h
    revert h
    cases mb env with
    | stuck => exact fun h => h
    | err c f e => exact fun h σ' cls dd H' O' le R' hx => pick_ok le R' hx hh h
    | ok r =>
      obtain ⟨fl, e2⟩ := r
      cases fl with
      | nx => exact fun z => z
      | bk => exact fun z => z
      | ct => exact fun z => z
      | rt p => exact fun z => z
end
/-! ### isinstance -/
inductive Tag where
  | ty (n : String) | cl (c : Nat)
def Tag.v (g : G) : Tag → Value
  | .ty n => .type n
  | .cl c => .ref (g.C c)
def Tag.w (g : G) : Tag → V
  | .ty n => .ty n
  | .cl c => .ref (g.C c)
def tagOf : D → Option Tag
  | .non => some (.ty "NoneType")
  | .bl _ => some (.ty "bool")
  | .int _ => some (.ty "int")
  | .str _ => some (.ty "str")
  | .tup _ => some (.ty "tuple")
  | .lst _ => some (.ty "list")
  | .scr _ => some (.ty "list")
  | .dK _ => some (.ty "dict")
  | .dT _ => some (.ty "dict")
  | .obj c _ => some (.cl c)
  | .fn _ => none
/-- what the top says of an own class for isinstance -/
structure ClsF (g : G) (c : Nat) : Prop where
  cl : Cls g.K (g.C c)
  ha : PySem.W.findIn g.K (.ref (g.C c)) "__class__" = some (some (.builtin "object.__class__"))
  hn : PySem.W.specialIn g.K (.builtin "object.__class__") "__get__" = some (some (.builtin "getset_descriptor.__get__"))
  ht : PySem.W.takesIn g.K (.builtin "object.__class__") = some true
  hm : PySem.W.mroIn g.K (g.C c) (.type "object") = some true
theorem tyx_tup {g : G} {H : Hp} {a : Addr} {xs : List V} (h : SqT g.K H a xs) : TyX g.K H (.ref a) (.type "tuple") := by
  rcases h with (h | ⟨o, h⟩) | ⟨o, its, n, h, h2, _⟩
  · exact .base (.tup h)
  · exact .fTuple h
  · exact .kTuple h h2
theorem tyx_lst {g : G} {H : Hp} {a : Addr} {xs : List V} (h : SqL g.K H a xs) : TyX g.K H (.ref a) (.type "list") := by
  rcases h with (h | ⟨o, h⟩) | ⟨o, its, n, h, h2, _⟩
  · exact .base (.lst h)
  · exact .base (.frz h)
  · exact .kList h h2
/-- the class tag t is asked for; the table tells the answer for each tag that may come -/
def kIsi (tb : Tag → Option Bool) (d : D) : Option D := (tagOf d).bind fun t => (tb t).map .bl
structure IsiF (g : G) (t : Tag) (tb : Tag → Option Bool) : Prop where
  one : ∀ s b, tb s = some b → PySem.W.kitOne g.K (s.v g) (t.v g) = some b
  cls : ∀ c b, tb (.cl c) = some b → ClsF g c
def rIsiD (K : PySem.W.Frag) : List V → Hp → VK → Prop := fun xs H Q => ∃ (a : Addr) (kvs : List (List Key × V)) (c : V) (u : Value) (b : Bool), xs = [.ref a, c] ∧ ClsV c u ∧ Rd H a (.dT kvs) ∧ PySem.W.kitOne K (.type "dict") u = some b ∧ Q (.bl b) H
theorem call_isiD {X : Cx} : CallR X (.builtin "isinstance") (rIsiD X.K) := by
  intro pins s σ H xs us Q I r h
  obtain ⟨a, kvs, c, u, b, rfl, k, rd, e, q⟩ := h
  obtain ⟨u1, u2, rfl, r1, r2⟩ := vals2 r
  have e2 := k.eq r2
  subst e2
  cases (show u1 = Value.ref a from r1)
  obtain ⟨_, _, xs, _, o, es, ep, h1, h2, _⟩ := dt_rd I.hok rd
  exact PySem.W.kia_one PySem.W.kitx_dict I.kIn ⟨o, h1, h2.1⟩ e (fun z => nomatch z) fun tk => ⟨.bl b, H, I.tok tk, rfl, q⟩
theorem isi_op {g : G} {t : Tag} {tb : Tag → Option Bool} (F : IsiF g t tb) : Op1 g (fun x H Q => (∃ tv b, TyX g.K H x tv ∧ PySem.W.kitOne g.K tv (t.v g) = some b ∧ Q (.bl b) H) ∨ ∃ a kvs b, x = .ref a ∧ Rd H a (.dT kvs) ∧ PySem.W.kitOne g.K (.type "dict") (t.v g) = some b ∧ Q (.bl b) H) (f1 (kIsi tb)) := f1_op fun H O d z x Q _ hx hz q => by
  unfold kIsi at hz
  cases ht : tagOf d with
  | none => rw [ht] at hz; cases hz
  | some s =>
    rw [ht] at hz
    simp only [Option.bind_some] at hz
    cases hb : tb s with
    | none => rw [hb] at hz; cases hz
    | some b =>
      rw [hb] at hz
      cases hz
      have hk := F.one s b hb
      have fin : Q (.bl b) H := q _ _ (Ext.refl _) .bl
      cases d <;> simp only [tagOf] at ht <;> cases ht
      · rw [hx.non]; exact .inl ⟨_, b, .base .non, hk, fin⟩
      · rw [hx.bl]; exact .inl ⟨_, b, .base (.bl _), hk, fin⟩
      · rw [hx.int]; exact .inl ⟨_, b, .base (.int _), hk, fin⟩
      · rw [hx.str]; exact .inl ⟨_, b, .base (.str _), hk, fin⟩
      · obtain ⟨a, xs, rfl, h1, _⟩ := hx.tup
        exact .inl ⟨_, b, tyx_tup h1, hk, fin⟩
      · obtain ⟨a, xs, rfl, h1, _⟩ := hx.asL (l := _) rfl
        exact .inl ⟨_, b, tyx_lst h1, hk, fin⟩
      · obtain ⟨a, kvs, rfl, h1, _⟩ := hx.dK
        refine .inl ⟨_, b, ?_, hk, fin⟩
        rcases h1 with h1 | ⟨o, h1⟩
        · exact .base (.dK h1)
        · exact .fDict h1
      · obtain ⟨a, kvs, rfl, h1, _⟩ := hx.dT
        exact .inr ⟨a, kvs, b, rfl, h1, hk, fin⟩
      · obtain ⟨a, dx, gs, rfl, h1, _⟩ := hx.obj
        have c := F.cls _ b hb
        exact .inl ⟨_, b, .base (.ins h1 c.cl c.ha c.hn c.ht c.hm), hk, fin⟩
      · obtain ⟨a, rfl, h1⟩ := hx.scr
        exact .inl ⟨_, b, tyx_lst h1, hk, fin⟩
def eIsi (tb : Tag → Option Bool) (m : EDen) : EDen := un1 m (f1 (kIsi tb))
section
variable {g : G} {W : WX} {X : Cx} {pos p p2 : Pos} {e : Expr} {m : EDen}
theorem pe_blt {x : Str} {T : String} (hg : Gl X x) (hm : X.mg x = none) (hv : bootBuiltins x = some (.type T)) (hn : x ≠ "__name__" := by decide) (hdb : (x == ("__debug__" : Str)) = false := by decide) : PE X (.Name x pos) (tC (.ty T)) :=
  ⟨fun pins s σ H Q I h => ld_blt I hg hm hv ⟨.ty T, H, I, rfl, h⟩ hn hdb⟩
theorem isi_read {t : Tag} {tb : Tag → Option Bool} (F : IsiF g t tb) (hK : X.K = g.K) {σ : L2.St} {H : Hp} {Q : VK} (h : rE g W (eIsi tb m) σ H Q) : tCB (fun xs H Q => rIsi X.K xs H Q ∨ rIsiD X.K xs H Q) (tCons (rE g W m) (tCons (tC (t.w g)) tNil)) σ H Q := by
  have h := sim1 (isi_op F) h
  refine rE.mono h fun v H1 h1 => ?_
  have hc : ClsV (t.w g) (t.v g) := by
    cases t with
    | ty n => exact .ty n
    | cl c => exact .own _
  rw [hK]
  rcases h1 with ⟨tv, b, h1, h2, q⟩ | ⟨a, kvs, b, h1, h2, h3, q⟩
  · exact .inl ⟨v, t.w g, tv, t.v g, b, rfl, hc, h1, h2, q⟩
  · subst h1
    exact .inr ⟨a, kvs, t.w g, t.v g, b, rfl, hc, h2, h3, q⟩
/-- isinstance(e, T), T a name -/
theorem x_isiT {x : Str} {n : String} {tb : Tag → Option Bool} (F : IsiF g (.ty n) tb) (hK : X.K = g.K) (hm : X.mg "isinstance" = none) (hv : bootBuiltins "isinstance" = some (.builtin "isinstance")) (hn : X.mg x = none) (hT : bootBuiltins x = some (.type n)) (he : PE X e (rE g W m)) (hg : Gl X "isinstance" := by rfl) (hgx : Gl X x := by rfl) (hnx : x ≠ "__name__" := by decide) (hdx : (x == ("__debug__" : Str)) = false := by decide)
    (hs : starEach [e, .Name x p2] X.env = (false, eval e X.env) :: starEach [.Name x p2] X.env := by rfl) (hs2 : starEach [.Name x p2] X.env = (false, eval (.Name x p2) X.env) :: starEach [] X.env := by rfl) (hpl : (backTo pos (starEach [.Name x p2] X.env)).any (·.1) = false := by rfl) :
    PE X (.Call (.Name "isinstance" p) [e, .Name x p2] [] pos) (rE g W (eIsi tb m)) :=
  pe_weak (pe_callB (call_isi.or call_isiD) hg hm hv (pa_cons he (pa_cons (pe_blt hgx hn hT hnx hdx) pa_nil hs2) hs) (by decide) (by decide) hs hpl) fun σ H Q h => isi_read F hK h
theorem x_isiC {x : Str} {c : Nat} {tb : Tag → Option Bool} (F : IsiF g (.cl c) tb) (hK : X.K = g.K) (hm : X.mg "isinstance" = none) (hv : bootBuiltins "isinstance" = some (.builtin "isinstance")) (hn : X.mg x = some (.ref (g.C c))) (he : PE X e (rE g W m)) (hg : Gl X "isinstance" := by rfl) (hgx : Gl X x := by rfl) (hdx : (x == ("__debug__" : Str)) = false := by decide)
    (hs : starEach [e, .Name x p2] X.env = (false, eval e X.env) :: starEach [.Name x p2] X.env := by rfl) (hs2 : starEach [.Name x p2] X.env = (false, eval (.Name x p2) X.env) :: starEach [] X.env := by rfl) (hpl : (backTo pos (starEach [.Name x p2] X.env)).any (·.1) = false := by rfl) :
    PE X (.Call (.Name "isinstance" p) [e, .Name x p2] [] pos) (rE g W (eIsi tb m)) :=
  pe_weak (pe_callB (call_isi.or call_isiD) hg hm hv (pa_cons he (pa_cons (pe_glob (v := .ref (g.C c)) hgx hn rfl hdx) pa_nil hs2) hs) (by decide) (by decide) hs hpl) fun σ H Q h => isi_read F hK h
end
end MM

set_option maxHeartbeats 2000000
namespace MM
open PySem PySem.Spec PyProof.Rows L2

/-! ### operators of own classes -/
/-- by values, with what an error is wished for at the slots -/
def OpS (X : Cx) (f : Value → Value → Sem Value) (r : L2.St → R2) : Prop :=
  ∀ (pins : List (Addr × Obj)) (s : Shared) (σ : L2.St) (H : Hp) (x y : V) (v u : Value) (Q : VK), Inv X pins σ H s → RelV x v → RelV y u → r σ x y H Q → wpAny (model X.prog X.w) X.A (f v u) (EP X pins σ Q) X.xe s
def tOpS (r : L2.St → R2) (ta tb : TE) : TE := fun σ H Q => ta σ H fun x H1 => tb σ H1 fun y H2 => r σ x y H2 Q
section
variable {X : Cx} {a b : Expr} {ta tb : TE} {pos : Pos} {r : L2.St → R2}
theorem pe_opS {op : Operator} (ho : OpS X (binaryOp op) r) (ha : PE X a ta) (hb : PE X b tb) : PE X (.BinOp a op b pos) (tOpS r ta tb) :=
  ⟨fun pins s σ H Q I h => wpAny_BinOp (thn (ha.run pins s σ H _ I h) fun v s1 ⟨x, H1, I1, r1, q1⟩ => thn (hb.run pins s1 σ H1 _ I1 q1) fun u s2 ⟨y, H2, I2, r2, q2⟩ => ho pins s2 σ H2 x y v u Q I2 r1 r2 q2)⟩
theorem pe_cmpS {op : CmpOp} (ho : OpS X (compareOp op) r) (ha : PE X a ta) (hb : PE X b tb) (hm : behindInMarks op b = false) : PE X (.Compare a [op] [b] pos) (tOpS r ta tb) :=
  ⟨fun pins s σ H Q I h => wpAny_Compare1 (thn (ha.run pins s σ H _ I h) fun v s1 ⟨x, H1, I1, r1, q1⟩ => thn (hb.run pins s1 σ H1 _ I1 q1) fun u s2 ⟨y, H2, I2, r2, q2⟩ => ho pins s2 σ H2 x y v u Q I2 r1 r2 q2) hm⟩
theorem pt_cmpS {op : CmpOp} (ho : OpS X (compareOp op) r) (ha : PE X a ta) (hb : PE X b tb) (hm : behindInMarks op b = false) : PT X (.Compare a [op] [b] pos) (tTest (tOpS r ta tb)) := by
  refine ⟨fun pins s σ H Q I h => ?_⟩
  refine wpAny_isTrue_Compare1 (thn (ha.run pins s σ H _ I h) fun v s1 ⟨x, H1, I1, r1, q1⟩ => thn (hb.run pins s1 σ H1 _ I1 q1) fun u s2 ⟨y, H2, I2, r2, q2⟩ =>
    thn (ho pins s2 σ H2 x y v u _ I2 r1 r2 q2) fun c s3 ⟨z, H3, I3, r3, k, e, q3⟩ => ?_) hm
  subst e
  cases r3
  exact wpAny_truthy_bool ⟨H3, I3, q3⟩
end
/-- as Op2, at the slots of the caller -/
def Op2S (g : G) (W : WX) (r : L2.St → R2) (f : P → P → DEnv → Res (P × DEnv)) : Prop := ∀ b H O σ e p q x y Q, REnv g b H O σ e → RP g b H O σ e p x → RP g b H O σ e q y → PostE g W b σ H O (f p q e) Q → r σ x y H Q
theorem sim2S {g : G} {W : WX} {ma mb : EDen} {r : L2.St → R2} {f : P → P → DEnv → Res (P × DEnv)} (hr : Op2S g W r f) {σ : L2.St} {H : Hp} {Q : VK} (h : rE g W (bin2 ma mb f) σ H Q) : tOpS r (rE g W ma) (rE g W mb) σ H Q := by
  obtain ⟨b, O, env, R, h⟩ := h
  refine (rE.bindE (m := ma) R h).mono fun v H1 ⟨O1, p, e1, M, h1⟩ => ?_
  obtain ⟨O2, x2, R2, r2⟩ := fz_ok M.env M.rep
  refine (rE.bindE (m := mb) R2 (h1.le x2.le)).mono fun u H3 ⟨O3, q, e3, M3, h3⟩ => ?_
  exact hr b H3 O3 σ e3 p.fz q v u Q M3.env (r2.move p.fz_old M3.le) M3.rep h3
/-- a def called by an operator: both data -/
def ownF (chk : D → D → Bool) (mf : List D → Res (P × D)) (p q : P) (e : DEnv) : Res (P × DEnv) := (ofO (p.vw e)).bind fun d => (ofO (q.vw e)).bind fun d' => if chk d d' then (ofO (frzs [p.fz, q.fz] e)).bind fun z => outV (mf z.1) z.2 else .stuck
/-- .. the second before the first (in) -/
def ownR (chk : D → D → Bool) (mf : List D → Res (P × D)) (p q : P) (e : DEnv) : Res (P × DEnv) := ownF chk mf q p e
theorem REnv.fz2 {g : G} {b : Bas} {H : Hp} {O : List Addr} {σ : L2.St} {e : DEnv} {p q : P} {x y : V} (R : REnv g b H O σ e) (hx : RP g b H O σ e p x) (hy : RP g b H O σ e q y) (hp : p.old) : ∃ O', Ext (hide H O) (hide H O') ∧ REnv g b H O' σ e ∧ RPs g b H O' σ e [p.fz, q.fz] [x, y] ∧ RPs g b H O' σ e [q.fz, p.fz] [y, x] := by
  obtain ⟨O1, x1, R1, r1⟩ := fz_ok R hy
  have rp : RP g b H O1 σ e p x := hx.move hp x1.le
  obtain ⟨O2, x2, R2, r2⟩ := fz_ok R1 rp
  have ry := r1.move (env' := e) q.fz_old x2.le
  exact ⟨O2, x1.trans x2, R2, .cons p.fz_old r2 (.cons q.fz_old ry .nil), .cons q.fz_old ry (.cons p.fz_old r2 .nil)⟩
section
variable {g : G} {W : WX} {mf : Nat → List D → Res (P × D)} {N : Nat}
/-- what the def is asked for -/
theorem ownF_ok {chk : D → D → Bool} {r : L2.St → R2} (h : ∀ σ H O d d' x y Q, View g H O d x → View g H O d' y → chk d d' = true → spF g 2 mf [x, y] H Q (WE W σ) → r σ x y H Q) (hold : ∀ d d', chk d d' = true → True) :
    ∀ b H O σ e p q x y Q, p.old → REnv g b H O σ e → RP g b H O σ e p x → RP g b H O σ e q y → PostE g W b σ H O (ownF chk (mf N) p q e) Q → r σ x y H Q := fun b H O σ e p q x y Q ho R hx hy hq => by
  unfold ownF at hq
  obtain ⟨d, hd, hq⟩ := hq.ofO
  obtain ⟨d', hd', hq⟩ := hq.ofO
  obtain ⟨hc, hq⟩ := hq.iff
  refine h σ H O d d' x y Q (vw_ok R hx hd) (vw_ok R hy hd') hc ?_
  obtain ⟨O1, x1, R1, r1, _⟩ := R.fz2 hx hy ho
  obtain ⟨⟨ds, e2⟩, hz, hq⟩ := hq.ofO
  obtain ⟨O2, x2, R2, r2⟩ := frzs_ok R1 r1 hz
  have hl : ds.length = 2 := r2.len
  exact ⟨rfl, N, sp_of_post R2 r2 (hq.le (x1.trans x2).le)⟩
end
/-- both of the class c -/
def bothC (c : Nat) : D → D → Bool
  | .obj c1 _, .obj c2 _ => decide (c1 = c) && decide (c2 = c)
  | _, _ => false
/-- the first of the class c, the second an int -/
def ownInt (c : Nat) : D → D → Bool
  | .obj c1 _, .int _ => decide (c1 = c)
  | _, _ => false
/-- a method at an operator's name -/
structure OpF (P : Program) (w : World) (g : G) (mg : Str → Option Value) (base : Heap) (c : Nat) (m : Str) (n k : Nat) (sp : Sp) (f : Addr) : Prop where
  at_ : PySem.W.findIn g.K (.ref (g.C c)) m = some (some (.ref f))
  fn : PySem.W.isFn g.K (.ref f) = true
  self : PySem.W.selfFirst g.K (g.C c) = true
  run : ∃ fd ps, ps.length = n ∧ FnOk P w g.K mg base (L2.CX P w) k f fd ps sp ∧ Binds g.K fd ps []
section
variable {g : G} {W : WX} {X : Cx} {pos : Pos} {c n k : Nat} {m : Str} {sp : Sp} {f : Addr}
theorem OpF.go (F : OpF X.prog X.w g X.mg X.base c m n k sp f) (hK : X.K = g.K) (hr : Room k X.A) (hx : Takes X W) {pins : List (Addr × Obj)} {σ : L2.St} {H : Hp} {s : Shared} {Q : VK} {us : List Value} {vs : List V} (I : Inv X pins σ H s) (r : Vals vs us) (h : sp vs H Q (WE W σ)) :
    wpAny (model X.prog X.w) X.A (call (.ref f) us) (EP X pins σ Q) X.xe s := by
  obtain ⟨fd, ps, _, F, hb⟩ := F.run
  exact run_fnS (by rw [hK]; exact F) hr (by rw [hK]; exact hb) (passAt hx σ) I r h
theorem OpF.go2 (F : OpF X.prog X.w g X.mg X.base c m n k sp f) (hK : X.K = g.K) (hr : Room k X.A) (hx : Takes X W) {pins : List (Addr × Obj)} {σ : L2.St} {H : Hp} {s : Shared} {Q : VK} {us : List Value} {vs : List V} (I : Inv X pins σ H s) (r : Vals vs us) (h : sp vs H Q (WE W σ)) :
    wpAny (model X.prog X.w) X.A (call (.ref f) us) (PySem.W.CmpBack (EP X pins σ Q)) X.xe s :=
  wpAny_mono (F.go hK hr hx I r h) (fun v s' z => by
    obtain ⟨y, H', I', ry, q⟩ := z
    exact SlX.cmpback ry ⟨y, H', I', ry, q⟩) fun _ _ z => z
/-- x op y, both of the class -/
theorem own_bin {op : Operator} (F : OpF X.prog X.w g X.mg X.base c (PySem.dunder op.info.2) 2 k sp f) (hK : X.K = g.K) (hr : Room k X.A) (hx : Takes X W) : OpS X (binaryOp op) fun σ x y H Q => ∃ a dx fs b dy gs, x = .ref a ∧ y = .ref b ∧ H a = some (.ins (g.C c) dx fs) ∧ H b = some (.ins (g.C c) dy gs) ∧ sp [x, y] H Q (WE W σ) := by
  intro pins s σ H x y v u Q I rx ry h
  obtain ⟨a, dx, fs, b, dy, gs, rfl, rfl, ha, hb, q⟩ := h
  cases (show v = Value.ref a from rx)
  cases (show u = Value.ref b from ry)
  obtain ⟨mA, J, _⟩ := ins_get I.hok ha
  obtain ⟨mB, J', _⟩ := ins_get I.hok hb
  obtain ⟨od, J, _⟩ := J.look
  obtain ⟨od', J', _⟩ := J'.look
  obtain ⟨m, hF⟩ := I.fr
  exact PySem.W.binop_K hF I.ok.mod.kin J J'.type (by rw [hK]; exact F.self) (by rw [hK]; exact F.at_) (by rw [hK]; exact F.fn) (F.go2 hK hr hx I (.cons rx (.cons ry .nil)) q)
/-- x op i, i an int -/
theorem own_int {op : Operator} {fo ro rc : Option Value} (F : OpF X.prog X.w g X.mg X.base c (PySem.dunder op.info.2) 2 k sp f) (hK : X.K = g.K) (hr : Room k X.A) (hx : Takes X W) (hrc : PySem.W.findIn g.K (.ref (g.C c)) (PySem.dunderR op.info.2) = some rc) (hp : rc = none ∨ ∃ g' : Addr, rc = some (.ref g'))
    (h1 : PySem.W.findIn g.K (.type "int") (PySem.dunder op.info.2) = some fo) (h2 : PySem.W.findIn g.K (.type "int") (PySem.dunderR op.info.2) = some ro) (hsub : PySem.W.subIn g.K (.type "int") (.ref (g.C c)) = some false) :
    OpS X (binaryOp op) fun σ x y H Q => ∃ a dx fs i, x = .ref a ∧ y = .int i ∧ H a = some (.ins (g.C c) dx fs) ∧ sp [x, y] H Q (WE W σ) := by
  intro pins s σ H x y v u Q I rx ry h
  obtain ⟨a, dx, fs, i, rfl, rfl, ha, q⟩ := h
  cases (show v = Value.ref a from rx)
  obtain ⟨t, rfl⟩ := (show ∃ t, u = Value.int i t from ry)
  obtain ⟨mA, J, _⟩ := ins_get I.hok ha
  obtain ⟨od, J, _⟩ := J.look
  obtain ⟨m, hF⟩ := I.fr
  exact PySem.W.ksp_binT hF I.ok.mod.kin J rfl (by rw [hK]; exact F.self) (by rw [hK]; exact F.at_) (by rw [hK]; exact F.fn) (by rw [hK]; exact hrc) hp (by rw [hK]; exact h1) (by rw [hK]; exact h2) (by rw [hK]; exact hsub) (F.go2 hK hr hx I (.cons rx (.cons ry .nil)) q)
/-- -x -/
theorem own_neg (F : OpF X.prog X.w g X.mg X.base c "__neg__" 1 k sp f) (hK : X.K = g.K) (hr : Room k X.A) (hx : Takes X W) {pins : List (Addr × Obj)} {σ : L2.St} {H : Hp} {s : Shared} {Q : VK} {a dx : Addr} {fs : List (Str × V)} (I : Inv X pins σ H s) (ha : H a = some (.ins (g.C c) dx fs)) (q : sp [.ref a] H Q (WE W σ)) :
    wpAny (model X.prog X.w) X.A (unaryOp .USub (.ref a)) (EP X pins σ Q) X.xe s := by
  obtain ⟨mA, J, _⟩ := ins_get I.hok ha
  obtain ⟨od, J, _⟩ := J.look
  obtain ⟨m, hF⟩ := I.fr
  exact PySem.W.ksp_neg hF I.ok.mod.kin J (by rw [hK]; exact F.at_) (by rw [hK]; exact F.fn) (F.go hK hr hx I (.cons (show RelV (V.ref a) (Value.ref a) from rfl) .nil) q)
/-- comparisons by an own def -/
theorem own_cmp {op : CmpOp} (hop : ∀ a b, compareOp op a b = richCompare op a b) (F : OpF X.prog X.w g X.mg X.base c (cmpInfo op).2.1 2 k sp f) (hK : X.K = g.K) (hr : Room k X.A) (hx : Takes X W) : OpS X (compareOp op) fun σ x y H Q => ∃ a dx fs b dy gs, x = .ref a ∧ y = .ref b ∧ H a = some (.ins (g.C c) dx fs) ∧ H b = some (.ins (g.C c) dy gs) ∧ sp [x, y] H Q (WE W σ) := by
  intro pins s σ H x y v u Q I rx ry h
  obtain ⟨a, dx, fs, b, dy, gs, rfl, rfl, ha, hb, q⟩ := h
  cases (show v = Value.ref a from rx)
  cases (show u = Value.ref b from ry)
  obtain ⟨mA, J, _⟩ := ins_get I.hok ha
  obtain ⟨mB, J', _⟩ := ins_get I.hok hb
  obtain ⟨od, J, _⟩ := J.look
  obtain ⟨od', J', _⟩ := J'.look
  obtain ⟨m, hF⟩ := I.fr
  rw [hop]
  exact PySem.W.cmp_K (tb := .ref (g.C c)) hr.units0 hF I.ok.mod.kin J J'.type (by simp [PySem.W.notFirst]) (by rw [hK]; exact F.at_) (by rw [hK]; exact F.fn) (F.go2 hK hr hx I (.cons rx (.cons ry .nil)) q)
/-- .. with an int -/
theorem own_cmpI {op : CmpOp} (hop : ∀ a b, compareOp op a b = richCompare op a b) (F : OpF X.prog X.w g X.mg X.base c (cmpInfo op).2.1 2 k sp f) (hK : X.K = g.K) (hr : Room k X.A) (hx : Takes X W) (hsub : PySem.W.subIn g.K (.type "int") (.ref (g.C c)) = some false) : OpS X (compareOp op) fun σ x y H Q => ∃ a dx fs i, x = .ref a ∧ y = .int i ∧ H a = some (.ins (g.C c) dx fs) ∧ sp [x, y] H Q (WE W σ) := by
  intro pins s σ H x y v u Q I rx ry h
  obtain ⟨a, dx, fs, i, rfl, rfl, ha, q⟩ := h
  cases (show v = Value.ref a from rx)
  obtain ⟨t, rfl⟩ := (show ∃ t, u = Value.int i t from ry)
  obtain ⟨mA, J, _⟩ := ins_get I.hok ha
  obtain ⟨od, J, _⟩ := J.look
  obtain ⟨m, hF⟩ := I.fr
  rw [hop]
  exact PySem.W.cmp_K (tb := .type "int") hr.units0 hF I.ok.mod.kin J (PySem.W.Looks.of_pure rfl) (by unfold PySem.W.notFirst; rw [hK, hsub]; simp) (by rw [hK]; exact F.at_) (by rw [hK]; exact F.fn) (F.go2 hK hr hx I (.cons rx (.cons ry .nil)) q)
/-- y in x: what the def tells is a bool -/
theorem own_in {F0 : Nat → List D → Res (P × D)} (F : OpF X.prog X.w g X.mg X.base c "__contains__" 2 k sp f) (hK : X.K = g.K) (hr : Room k X.A) (hx : Takes X W) : OpS X (compareOp .In) fun σ y x H Q => ∃ a dx fs, x = .ref a ∧ H a = some (.ins (g.C c) dx fs) ∧ sp [x, y] H (fun z H' => ∃ b, z = .bl b ∧ Q z H') (WE W σ) := by
  intro pins s σ H y x u v Q I ry rx h
  obtain ⟨a, dx, fs, rfl, ha, q⟩ := h
  cases (show v = Value.ref a from rx)
  obtain ⟨mA, J, _⟩ := ins_get I.hok ha
  obtain ⟨od, J, _⟩ := J.look
  obtain ⟨m, hF⟩ := I.fr
  refine PySem.W.in_K hF I.ok.mod.kin J (by rw [hK]; exact F.at_) (by rw [hK]; exact F.fn) (wpAny_mono (F.go hK hr hx I (.cons rx (.cons ry .nil)) q) (fun w s' z => ?_) fun _ _ z => z)
  obtain ⟨z, H', I', rz, b, ez, q⟩ := z
  subst ez
  cases rz
  exact wpAny_truthy_bool ⟨.bl b, H', I', rfl, q⟩
/-! by mirrors -/
def eOwn (chk : D → D → Bool) (mf : List D → Res (P × D)) (ma mc : EDen) : EDen := bin2 ma mc (ownF chk mf)
theorem P.fz_fz : ∀ p : P, p.fz.fz = p.fz
  | .d _ => rfl
  | .n _ => rfl
  | .s _ => rfl
/-- the first place's value is no new object (bin2 keeps it) -/
theorem sim2O {ma mb : EDen} {r : L2.St → R2} {F : P → P → DEnv → Res (P × DEnv)} (hr : ∀ b H O σ e p q x y Q, p.old → REnv g b H O σ e → RP g b H O σ e p x → RP g b H O σ e q y → PostE g W b σ H O (F p q e) Q → r σ x y H Q) {σ : L2.St} {H : Hp} {Q : VK} (h : rE g W (bin2 ma mb F) σ H Q) : tOpS r (rE g W ma) (rE g W mb) σ H Q := by
  obtain ⟨b, O, env, R, h⟩ := h
  refine (rE.bindE (m := ma) R h).mono fun v H1 ⟨O1, p, e1, M, h1⟩ => ?_
  obtain ⟨O2, x2, R2, r2⟩ := fz_ok M.env M.rep
  refine (rE.bindE (m := mb) R2 (h1.le x2.le)).mono fun u H3 ⟨O3, q, e3, M3, h3⟩ => ?_
  exact hr b H3 O3 σ e3 p.fz q v u Q p.fz_old M3.env (r2.move p.fz_old M3.le) M3.rep h3
theorem both_view {H : Hp} {O : List Addr} {d d' : D} {x y : V} (hx : View g H O d x) (hy : View g H O d' y) (h : bothC c d d' = true) : ∃ a dx fs b dy gs, x = .ref a ∧ y = .ref b ∧ H a = some (.ins (g.C c) dx fs) ∧ H b = some (.ins (g.C c) dy gs) := by
  cases d <;> cases d' <;> simp only [bothC, Bool.and_eq_true, decide_eq_true_eq, Bool.false_eq_true] at h
  obtain ⟨rfl, rfl⟩ := h
  obtain ⟨a, dx, gs, h1, h2, _⟩ := hx.obj
  obtain ⟨b, dy, hs, h3, h4, _⟩ := hy.obj
  exact ⟨a, dx, gs, b, dy, hs, h1, h3, h2, h4⟩
theorem int_view {H : Hp} {O : List Addr} {d d' : D} {x y : V} (hx : View g H O d x) (hy : View g H O d' y) (h : ownInt c d d' = true) : ∃ a dx fs i, x = .ref a ∧ y = .int i ∧ H a = some (.ins (g.C c) dx fs) := by
  cases d <;> cases d' <;> simp only [ownInt, decide_eq_true_eq, Bool.false_eq_true] at h
  subst h
  obtain ⟨a, dx, gs, h1, h2, _⟩ := hx.obj
  exact ⟨a, dx, gs, _, h1, hy.int, h2⟩
section
variable {mf : Nat → List D → Res (P × D)} {a b : Expr} {ma mb : EDen}
theorem x_ownB {op : Operator} (F : OpF X.prog X.w g X.mg X.base c (PySem.dunder op.info.2) 2 k (spF g 2 mf) f) (N : Nat) (hK : X.K = g.K) (hr : Room k X.A) (hx : Takes X W) (ha : PE X a (rE g W ma)) (hb : PE X b (rE g W mb)) : PE X (.BinOp a op b pos) (rE g W (eOwn (bothC c) (mf N) ma mb)) :=
  pe_weak (pe_opS (own_bin F hK hr hx) ha hb) fun σ H Q h => sim2O (ownF_ok (N := N) (fun σ H O d d' x y Q vx vy hc q => by
    obtain ⟨a, dx, fs, b, dy, gs, e1, e2, h1, h2⟩ := both_view vx vy hc
    exact ⟨a, dx, fs, b, dy, gs, e1, e2, h1, h2, q⟩) fun _ _ _ => trivial) h
theorem x_ownI {op : Operator} {fo ro rc : Option Value} (F : OpF X.prog X.w g X.mg X.base c (PySem.dunder op.info.2) 2 k (spF g 2 mf) f) (N : Nat) (hK : X.K = g.K) (hr : Room k X.A) (hx : Takes X W) (hrc : PySem.W.findIn g.K (.ref (g.C c)) (PySem.dunderR op.info.2) = some rc) (hp : rc = none ∨ ∃ g' : Addr, rc = some (.ref g'))
    (h1 : PySem.W.findIn g.K (.type "int") (PySem.dunder op.info.2) = some fo) (h2 : PySem.W.findIn g.K (.type "int") (PySem.dunderR op.info.2) = some ro) (hsub : PySem.W.subIn g.K (.type "int") (.ref (g.C c)) = some false) (ha : PE X a (rE g W ma)) (hb : PE X b (rE g W mb)) : PE X (.BinOp a op b pos) (rE g W (eOwn (ownInt c) (mf N) ma mb)) :=
  pe_weak (pe_opS (own_int F hK hr hx hrc hp h1 h2 hsub) ha hb) fun σ H Q h => sim2O (ownF_ok (N := N) (fun σ H O d d' x y Q vx vy hc q => by
    obtain ⟨a, dx, fs, i, e1, e2, h1⟩ := int_view vx vy hc
    exact ⟨a, dx, fs, i, e1, e2, h1, q⟩) fun _ _ _ => trivial) h
theorem x_ownC {op : CmpOp} (hop : ∀ a b, compareOp op a b = richCompare op a b) (F : OpF X.prog X.w g X.mg X.base c (cmpInfo op).2.1 2 k (spF g 2 mf) f) (N : Nat) (hK : X.K = g.K) (hr : Room k X.A) (hx : Takes X W) (ha : PE X a (rE g W ma)) (hb : PE X b (rE g W mb)) (hm : behindInMarks op b = false) : PE X (.Compare a [op] [b] pos) (rE g W (eOwn (bothC c) (mf N) ma mb)) :=
  pe_weak (pe_cmpS (own_cmp hop F hK hr hx) ha hb hm) fun σ H Q h => sim2O (ownF_ok (N := N) (fun σ H O d d' x y Q vx vy hc q => by
    obtain ⟨a, dx, fs, b, dy, gs, e1, e2, h1, h2⟩ := both_view vx vy hc
    exact ⟨a, dx, fs, b, dy, gs, e1, e2, h1, h2, q⟩) fun _ _ _ => trivial) h
theorem t_ownC {op : CmpOp} (hop : ∀ a b, compareOp op a b = richCompare op a b) (F : OpF X.prog X.w g X.mg X.base c (cmpInfo op).2.1 2 k (spF g 2 mf) f) (N : Nat) (hK : X.K = g.K) (hr : Room k X.A) (hx : Takes X W) (ha : PE X a (rE g W ma)) (hb : PE X b (rE g W mb)) (hm : behindInMarks op b = false) : PT X (.Compare a [op] [b] pos) (rT g W (tst (eOwn (bothC c) (mf N) ma mb))) :=
  pt_weak (pt_cmpS (own_cmp hop F hK hr hx) ha hb hm) fun σ H Q h => sim2O (ownF_ok (N := N) (fun σ H O d d' x y Q vx vy hc q => by
    obtain ⟨a, dx, fs, b, dy, gs, e1, e2, h1, h2⟩ := both_view vx vy hc
    exact ⟨a, dx, fs, b, dy, gs, e1, e2, h1, h2, q⟩) fun _ _ _ => trivial) (rT_tst h)
theorem x_ownCI {op : CmpOp} (hop : ∀ a b, compareOp op a b = richCompare op a b) (F : OpF X.prog X.w g X.mg X.base c (cmpInfo op).2.1 2 k (spF g 2 mf) f) (N : Nat) (hK : X.K = g.K) (hr : Room k X.A) (hx : Takes X W) (hsub : PySem.W.subIn g.K (.type "int") (.ref (g.C c)) = some false) (ha : PE X a (rE g W ma)) (hb : PE X b (rE g W mb)) (hm : behindInMarks op b = false) : PE X (.Compare a [op] [b] pos) (rE g W (eOwn (ownInt c) (mf N) ma mb)) :=
  pe_weak (pe_cmpS (own_cmpI hop F hK hr hx hsub) ha hb hm) fun σ H Q h => sim2O (ownF_ok (N := N) (fun σ H O d d' x y Q vx vy hc q => by
    obtain ⟨a, dx, fs, i, e1, e2, h1⟩ := int_view vx vy hc
    exact ⟨a, dx, fs, i, e1, e2, h1, q⟩) fun _ _ _ => trivial) h
/-- y in x: the instance is the second place, the def's first -/
def inF (c : Nat) (mf : List D → Res (P × D)) (p q : P) (e : DEnv) : Res (P × DEnv) := (ofO (p.vw e)).bind fun d => (ofO (q.vw e)).bind fun d' => if isObj c Str.empty d' then (ofO (frzs [q.fz, p.fz] e)).bind fun z => match mf z.1 with
  | .ok (.d (.bl b), _) => .ok (.d (.bl b), z.2)
  | .err c f _ => .err c f z.2
  | _ => .stuck
  else .stuck
def eOwnIn (c : Nat) (mf : List D → Res (P × D)) (ma mc : EDen) : EDen := bin2 ma mc (inF c mf)
theorem inF_ok (c : Nat) : ∀ b H O σ e p q x y Q, p.old → REnv g b H O σ e → RP g b H O σ e p x → RP g b H O σ e q y → PostE g W b σ H O (inF c (mf N) p q e) Q → ∃ a dx fs, y = .ref a ∧ H a = some (.ins (g.C c) dx fs) ∧ spF g 2 mf [y, x] H (fun z H' => ∃ b, z = .bl b ∧ Q z H') (WE W σ) := fun b H O σ e p q x y Q ho R hx hy hq => by
  unfold inF at hq
  obtain ⟨d, hd, hq⟩ := hq.ofO
  obtain ⟨d', hd', hq⟩ := hq.ofO
  obtain ⟨hc, hq⟩ := hq.iff
  obtain ⟨a, dx, gs, e1, h1, _⟩ := isObj_view hc (vw_ok R hy hd')
  obtain ⟨O1, x1, R1, _, r1⟩ := R.fz2 hx hy ho
  obtain ⟨⟨ds, e2⟩, hz, hq⟩ := hq.ofO
  obtain ⟨O2, x2, R2, r2⟩ := frzs_ok R1 r1 hz
  refine ⟨a, dx, gs, e1, h1, rfl, N, ds, O2, R2.hd, r2, ?_⟩
  have hq := hq.le (x1.trans x2).le
  simp only at hq
  revert hq
  cases mf N ds with
  | stuck => exact fun h => h
  | err c' f' e' => exact fun h cls dd H' x q => h cls dd H' O2 (hide_ext x).le (R2.ext x).drop q
  | ok z =>
    obtain ⟨p', d1⟩ := z
    cases p' with
    | n d => exact fun h => h.elim
    | s j => exact fun h => h.elim
    | d d =>
      cases d with
      | bl k =>
        intro h v H' x rv
        cases (show Rep g (hide H' O2) (.bl k) v from rv)
        exact ⟨k, rfl, h _ H' O2 (hide_ext x).le (R2.ext x) .bl⟩
      | _ => exact fun h => h.elim
theorem x_ownIn (F : OpF X.prog X.w g X.mg X.base c "__contains__" 2 k (spF g 2 mf) f) (N : Nat) (hK : X.K = g.K) (hr : Room k X.A) (hx : Takes X W) (ha : PE X a (rE g W ma)) (hb : PE X b (rE g W mb)) (hm : behindInMarks .In b = false := by rfl) : PE X (.Compare a [.In] [b] pos) (rE g W (eOwnIn c (mf N) ma mb)) :=
  pe_weak (pe_cmpS (own_in (F0 := mf) F hK hr hx) ha hb hm) fun σ H Q h => sim2O (inF_ok (N := N) c) h
theorem t_ownIn (F : OpF X.prog X.w g X.mg X.base c "__contains__" 2 k (spF g 2 mf) f) (N : Nat) (hK : X.K = g.K) (hr : Room k X.A) (hx : Takes X W) (ha : PE X a (rE g W ma)) (hb : PE X b (rE g W mb)) (hm : behindInMarks .In b = false := by rfl) : PT X (.Compare a [.In] [b] pos) (rT g W (tst (eOwnIn c (mf N) ma mb))) :=
  pt_weak (pt_cmpS (own_in (F0 := mf) F hK hr hx) ha hb hm) fun σ H Q h => sim2O (inF_ok (N := N) c) (rT_tst h)
/-- -x -/
def eOwnNeg (c : Nat) (mf : List D → Res (P × D)) (mo : EDen) : EDen := un1 mo fun p e => (ofO (p.vw e)).bind fun d => if isObj c Str.empty d then (ofO (frzs [p.fz] e)).bind fun z => outV (mf z.1) z.2 else .stuck
theorem x_ownNeg (F : OpF X.prog X.w g X.mg X.base c "__neg__" 1 k (spF g 1 mf) f) (N : Nat) (hK : X.K = g.K) (hr : Room k X.A) (hx : Takes X W) (ha : PE X a (rE g W ma)) : PE X (.UnaryOp .USub a pos) (rE g W (eOwnNeg c (mf N) ma)) := by
  refine ⟨fun pins s σ H Q I ⟨b, O, env, R, h⟩ => ?_⟩
  refine UnaryOp_ (thn (ha.run pins s σ H _ I (rE.bindE (m := ma) R h)) fun v s1 ⟨x, H1, I1, r1, O1, p, e1, M, h1⟩ => ?_)
  obtain ⟨d, hd, h1⟩ := h1.ofO
  obtain ⟨hc, h1⟩ := h1.iff
  obtain ⟨a', dx, gs, ev, q1, _⟩ := isObj_view hc (vw_ok M.env M.rep hd)
  subst ev
  cases (show v = Value.ref a' from r1)
  obtain ⟨O2, x2, R2, r2⟩ := fz_ok M.env M.rep
  obtain ⟨⟨ds, e2⟩, hz, hq⟩ := h1.ofO
  obtain ⟨O3, x3, R3, r3⟩ := frzs_ok R2 (.cons p.fz_old r2 .nil) hz
  exact own_neg F hK hr hx I1 q1 ⟨rfl, N, sp_of_post R3 r3 (hq.le (x2.trans x3).le)⟩
end
end
end MM

set_option maxHeartbeats 2000000
namespace MM
open PySem PySem.Spec PyProof.Rows L2

/-! ### dict comprehensions, keys ints or texts -/
def keyOf : D → Option Key
  | .int i => some (.inl i)
  | .str s => some (.inr s)
  | _ => none
def dcD (vs : List Nat) (bd : BDn) (t : TDen) (mk mv : EDen) : List D → DEnv → List (Key × D) → Option (List (Key × D) × DEnv)
  | [], e, acc => some (acc, e)
  | d :: ds, e, acc => (bd (.d d) e).bind fun e1 => match t e1 with
    | .ok (true, e2) => match mk e2 with
      | .ok (.d kd, e3) => (keyOf kd).bind fun k => match mv e3 with
        | .ok (p, e4) => (p.frz e4).bind fun z => if acc.length < 16777216 then dcD vs bd t mk mv ds (wipeE vs z.2) (dput acc k z.1) else none
        | _ => none
      | _ => none
    | .ok (false, e2) => dcD vs bd t mk mv ds (wipeE vs e2) acc
    | _ => none
theorem keyOf_rep {g : G} {H : Hp} {d : D} {k : Key} {v : V} (h : keyOf d = some k) (r : Rep g H d v) : v = kV k := by
  cases d <;> simp only [keyOf] at h <;> cases h
  · cases r; rfl
  · cases r; rfl
section
variable {g : G} {W : WX} {X : Cx} {pos : Pos}
theorem dc_read {vs js : List Nat} {bd : BDn} {t : TDen} {mk mv : EDen} {gt : TG} {b : Bas} {J : It} {ds : List D} {res : List (Key × D)} {H1 : Hp} {O1 : List Addr} {σ : L2.St} {e0 e9 : DEnv} {Q : VK} (hb : BdU g js gt bd) (hj : ∀ j, j ∈ js → j ∈ vs) (R0 : REnv g b H1 O1 σ e0) (Y : YldB g b.B J ds (hide H1 O1))
    (h : dcD vs bd t mk mv ds (wipeE vs e0) [] = some (res, e9)) (q : ∀ a H' O', Le (hide H1 O1) (hide H' O') → REnv g b H' O' σ (restE e0 vs e9) → New g b H' O' σ (restE e0 vs e9) (.dK res) a → Q (.ref a) H') :
    tDc (fun _ H R => R J H) gt (rT g W0 t) (rE g W0 mk) (rE g W0 mv) vs σ H1 Q := by
  intro a na
  have n0 := R0.layNew (o := .dK []) (d := .dK []) na ⟨[], upd_same, rfl, .nil⟩
  have R1 : REnv g b (upd H1 a (.dK [])) (a :: O1) σ e0 := R0.lay na trivial
  refine ⟨fun i k H => k = ds.length - i ∧ i ≤ ds.length ∧ ∃ O e kvs acc, Le (hide H1 O1) (hide H O) ∧ REnv g b H O (L2.wipe σ vs) e ∧ Held g b H O (L2.wipe σ vs) e a ∧ H a = some (.dK kvs) ∧ kvs.map (·.1) = acc.map (·.1) ∧ Reps g (hide H O) (acc.map (·.2)) (kvs.map (·.2)) ∧ dcD vs bd t mk mv (ds.drop i) e acc = some (res, e9),
    ⟨ds.length, rfl, Nat.zero_le _, a :: O1, wipeE vs e0, [], [], (lay_le na).le, R1.wipe vs, (Held.mk n0.hid n0.nob n0.frs n0.sep).wipe, upd_same, rfl, .nil, h⟩, ?_⟩
  rintro i k H2 ⟨rfl, hi, O2, e2, kvs, acc, l2, R2, h2, ha, hm, ra, hl⟩
  obtain ⟨y1, y2⟩ := Y H2 O2 l2 R2.hd R2.pro i
  cases hd : ds[i]? with
  | none =>
    have hge : ds.length ≤ i := List.getElem?_eq_none_iff.mp hd
    rw [List.drop_of_length_le hge] at hl
    cases hl
    exact .inl ⟨y2 hd, q a H2 O2 l2 (R0.rest R2 l2) (h2.own ⟨kvs, ha, hm, ra⟩)⟩
  | some d =>
    obtain ⟨hlt, hget⟩ := List.getElem?_eq_some_iff.mp hd
    obtain ⟨go, yl⟩ := y1 d hd
    have hdr : ds.drop i = d :: ds.drop (i + 1) := by rw [List.drop_eq_getElem_cons hlt, hget]
    rw [hdr] at hl
    simp only [dcD] at hl
    refine .inr ⟨go, fun H => ∃ O e kvs acc, Le (hide H1 O1) (hide H O) ∧ REnv g b H O (L2.wipe σ vs) e ∧ Held g b H O (L2.wipe σ vs) e a ∧ H a = some (.dK kvs) ∧ kvs.map (·.1) = acc.map (·.1) ∧ Reps g (hide H O) (acc.map (·.2)) (kvs.map (·.2)) ∧ dcD vs bd t mk mv (ds.drop (i + 1)) e acc = some (res, e9),
      fun H' z => ⟨ds.length - (i + 1), by omega, rfl, hlt, z⟩, fun x H3 hy => ?_⟩
    obtain ⟨ex, rp⟩ := yl x H3 hy
    have R3 := R2.ext ex
    have h3 : Held g b H3 O2 (L2.wipe σ vs) e2 a := ⟨h2.hid, h2.nob, h2.frs, h2.sep⟩
    have ha3 := ex a _ ha
    have l3 : Le (hide H2 O2) (hide H3 O2) := (hide_ext ex).le
    have len : kvs.length = acc.length := by have := congrArg List.length hm; simpa using this
    cases hz : bd (.d d) e2 with
    | none => rw [hz] at hl; cases hl
    | some e3 =>
      rw [hz] at hl
      simp only [Option.bind_some] at hl
      refine hb (b.grd a (.dK kvs)) H3 O2 (L2.wipe σ vs) e2 (.d d) x _ (R3.guard h3 ha3) rp ⟨e3, hz, fun σ4 H4 O4 l4 R4 up => ?_⟩
      have hw : L2.wipe σ4 vs = L2.wipe σ vs := wipe_up up hj
      refine ⟨hw, _, O4, e3, R4, ?_⟩
      revert hl
      cases ht : t e3 with
      | err c f e => exact fun z => by cases z
      | stuck => exact fun z => by cases z
      | ok r =>
        obtain ⟨k, e5⟩ := r
        intro hl H5 O5 l5 R5
        have l25 : Le (hide H2 O2) (hide H5 O5) := (l3.trans l4).trans l5
        cases k with
        | false =>
          refine iteF ?_
          obtain ⟨R6, h6, ha6⟩ := R5.unguard h2.nob h2.frs
          have R7 := R6.wipe vs
          have h7 := h6.wipe (vs := vs)
          rw [hw] at R7 h7
          exact ⟨O5, wipeE vs e5, kvs, acc, l2.trans l25, R7, h7, ha6, hm, ra.le l25, hl⟩
        | true =>
          refine iteT ⟨_, O5, e5, R5, ?_⟩
          simp only at hl
          revert hl
          cases hmk : mk e5 with
          | err c f e => exact fun z => by cases z
          | stuck => exact fun z => by cases z
          | ok r =>
            obtain ⟨p, e6⟩ := r
            cases p with
            | n _ => exact fun z => by cases z
            | s _ => exact fun z => by cases z
            | d kd =>
              intro hl y H6 O6 l6 R6 rp6
              simp only at hl
              cases hk : keyOf kd with
              | none => rw [hk] at hl; cases hl
              | some key =>
                rw [hk] at hl
                simp only [Option.bind_some] at hl
                have ey : y = kV key := keyOf_rep hk rp6
                refine ⟨_, O6, e6, R6, ?_⟩
                revert hl
                cases hmv : mv e6 with
                | err c f e => exact fun z => by cases z
                | stuck => exact fun z => by cases z
                | ok r =>
                  obtain ⟨p, e7⟩ := r
                  intro hl z H7 O7 l7 R7 rp7
                  simp only at hl
                  cases hf : p.frz e7 with
                  | none => rw [hf] at hl; cases hl
                  | some w =>
                    obtain ⟨dz, e8⟩ := w
                    rw [hf] at hl
                    simp only [Option.bind_some] at hl
                    obtain ⟨O8, x8, R8, r8⟩ := frz_ok R7 rp7 hf
                    obtain ⟨R9, h9, ha9⟩ := R8.unguard h2.nob h2.frs
                    by_cases hlen : acc.length < 16777216
                    · rw [if_pos hlen] at hl
                      have l28 : Le (hide H2 O2) (hide H7 O8) := ((l25.trans l6).trans l7).trans x8.le
                      obtain ⟨R10, he⟩ := h9.poke (o := .dK (putK kvs key z)) R9 trivial
                      have h10 : Held g b (upd H7 a (.dK (putK kvs key z))) O8 σ4 e8 a := ⟨h9.hid, h9.nob, h9.frs, h9.sep⟩
                      have R11 := R10.wipe vs
                      have h11 := h10.wipe (vs := vs)
                      rw [hw] at R11 h11
                      obtain ⟨p1, p2⟩ := dput_reps (k := key) r8 hm (ra.le l28)
                      refine ⟨kvs, key, ey, ha9, by rw [sizeLine_eq, len]; exact hlen, O8, wipeE vs e8, putK kvs key z, dput acc key dz, ?_, R11, h11, upd_same, p1, ?_, hl⟩
                      · rw [he]; exact l2.trans l28
                      · rw [he]; exact p2
                    · rw [if_neg hlen] at hl; cases hl
def eDc (vs : List Nat) (mi : IDen) (bd : BDn) (t : TDen) (mk mv : EDen) : EDen := fun e => (mi e).bind fun a => (ofO (dcD vs bd t mk mv a.1 (wipeE vs a.2) [])).bind fun z => .ok (.n (.dK z.1), restE a.2 vs z.2)
theorem dc_weak {vs js : List Nat} {mi : IDen} {bd : BDn} {t : TDen} {mk mv : EDen} {gt : TG} {σ : L2.St} {H : Hp} {Q : VK} (hb : BdU g js gt bd) (hj : ∀ j, j ∈ js → j ∈ vs) (h : rE g W (eDc vs mi bd t mk mv) σ H Q) : tDc (rI g W mi) gt (rT g W0 t) (rE g W0 mk) (rE g W0 mv) vs σ H Q := by
  obtain ⟨b, O, env, R, h⟩ := h
  refine ⟨b, O, env, R, ?_⟩
  unfold eDc at h
  revert h
  cases mi env with
  | err c f e => exact fun z => z
  | stuck => exact fun z => z
  | ok a =>
    obtain ⟨ds, e0⟩ := a
    intro h J H1 O1 l1 R1 Y
    obtain ⟨⟨res, e9⟩, hz, h2⟩ := h.ofO
    exact dc_read hb hj R1 Y.b hz fun a H' O' l R' n => h2 (.ref a) H' O' (l1.trans l) R' ⟨a, rfl, n⟩
theorem x_dc {kx vx tg iter : Expr} {ifs : List Expr} {scope : Scope} {own : List (Str × Nat)} {mi : IDen} {js : List Nat} {bd : BDn} {t : TDen} {mk mv : EDen} {gt : TG} (hc : X.calm = true) (hN : X.N.Nodup) (hi : PI X tg iter (rI g W mi)) (hb : BdU g js gt bd) (hj : ∀ j, j ∈ js → j ∈ own.map (·.2)) (ok : BlkOk X.N X.env.scope scope own)
    (hg : ∀ (s : Shared) (H : Hp) (C : Addr) (cl : List (Str × Addr)) (fp : List Addr), PG (blkX X s H scope cl C fp) tg gt) (ht : ∀ (s : Shared) (H : Hp) (C : Addr) (cl : List (Str × Addr)) (fp : List Addr), PTs (blkX X s H scope cl C fp) ifs (rT g W0 t))
    (hk : ∀ (s : Shared) (H : Hp) (C : Addr) (cl : List (Str × Addr)) (fp : List Addr), PE (blkX X s H scope cl C fp) kx (rE g W0 mk))
    (he : ∀ (s : Shared) (H : Hp) (C : Addr) (cl : List (Str × Addr)) (fp : List Addr), PE (blkX X s H scope cl C fp) vx (rE g W0 mv)) (hs : ∀ x, foldedSetIterable iter X.env x = pure x := by intro _; rfl) :
    PE X (.DictComp kx vx [⟨tg, iter, ifs, 0⟩] scope pos) (rE g W (eDc (own.map (·.2)) mi bd t mk mv)) := pe_weak (pe_dc hc hN hi ok hg ht hk he hs) fun σ H Q h => dc_weak hb hj h
end
end MM

set_option maxHeartbeats 2000000
namespace MM
open PySem PySem.Spec PyProof.Rows L2

/-! ### list comprehensions of two sources -/
def lc2D (vs vs1 : List Nat) (bd : BDn) (t : TDen) (mi1 : IDen) (bd1 : BDn) (t1 : TDen) (m : EDen) : List D → DEnv → List D → Option (List D × DEnv)
  | [], e, acc => some (acc, e)
  | d :: ds, e, acc => (bd (.d d) e).bind fun e1 => match t e1 with
    | .ok (true, e2) => match mi1 e2 with
      | .ok (ds1, e3) => (lcD vs1 bd1 t1 m ds1 (wipeE vs1 e3) acc).bind fun z => lc2D vs vs1 bd t mi1 bd1 t1 m ds (wipeE vs z.2) z.1
      | _ => none
    | .ok (false, e2) => lc2D vs vs1 bd t mi1 bd1 t1 m ds (wipeE vs e2) acc
    | _ => none
theorem wipe_wipe {vs1 vs : List Nat} (h : ∀ i ∈ vs1, i ∈ vs) (σ : L2.St) : L2.wipe (L2.wipe σ vs1) vs = L2.wipe σ vs := by
  apply List.ext_getElem?
  intro j
  rw [wipe_at (L2.wipe σ vs1) j vs, wipe_at σ j vs, wipe_length]
  by_cases m : j ∈ vs
  · rw [if_pos m, if_pos m]
  · rw [if_neg m, if_neg m, wipe_at, if_neg fun z => m (h j z)]
section
variable {g : G} {W : WX} {X : Cx} {pos : Pos}
theorem lc2_read {vs vs1 js js1 : List Nat} {bd bd1 : BDn} {t t1 : TDen} {mi1 : IDen} {m : EDen} {gt gt1 : TG} {b : Bas} {J : It} {ds res : List D} {H1 : Hp} {O1 : List Addr} {σ : L2.St} {e0 e9 : DEnv} {Q : VK} (hb : BdU g js gt bd) (hj : ∀ j, j ∈ js → j ∈ vs) (hb1 : BdU g js1 gt1 bd1) (hj1 : ∀ j, j ∈ js1 → j ∈ vs1) (hv : ∀ i ∈ vs1, i ∈ vs)
    (R0 : REnv g b H1 O1 σ e0) (Y : YldB g b.B J ds (hide H1 O1))
    (h : lc2D vs vs1 bd t mi1 bd1 t1 m ds (wipeE vs e0) [] = some (res, e9)) (q : ∀ a H' O', Le (hide H1 O1) (hide H' O') → REnv g b H' O' σ (restE e0 vs e9) → New g b H' O' σ (restE e0 vs e9) (.lst res) a → Q (.ref a) H') :
    tLc2 (fun _ H R => R J H) gt (rT g W0 t) (rI g W0 mi1) gt1 (rT g W0 t1) (rE g W0 m) vs vs1 σ H1 Q := by
  intro a na
  have n0 := R0.layNew (o := .lst []) (d := .lst []) na ⟨[], upd_same, .nil⟩
  have R1 : REnv g b (upd H1 a (.lst [])) (a :: O1) σ e0 := R0.lay na trivial
  refine ⟨fun i k H => k = ds.length - i ∧ i ≤ ds.length ∧ ∃ O e xs acc, Le (hide H1 O1) (hide H O) ∧ REnv g b H O (L2.wipe σ vs) e ∧ Held g b H O (L2.wipe σ vs) e a ∧ H a = some (.lst xs) ∧ Reps g (hide H O) acc xs ∧ lc2D vs vs1 bd t mi1 bd1 t1 m (ds.drop i) e acc = some (res, e9),
    ⟨ds.length, rfl, Nat.zero_le _, a :: O1, wipeE vs e0, [], [], (lay_le na).le, R1.wipe vs, (Held.mk n0.hid n0.nob n0.frs n0.sep).wipe, upd_same, .nil, h⟩, ?_⟩
  rintro i k H2 ⟨rfl, hi, O2, e2, xs, acc, l2, R2, h2, ha, ra, hl⟩
  obtain ⟨y1, y2⟩ := Y H2 O2 l2 R2.hd R2.pro i
  cases hd : ds[i]? with
  | none =>
    have hge : ds.length ≤ i := List.getElem?_eq_none_iff.mp hd
    rw [List.drop_of_length_le hge] at hl
    cases hl
    exact .inl ⟨y2 hd, q a H2 O2 l2 (R0.rest R2 l2) (h2.own ⟨xs, ha, ra⟩)⟩
  | some d =>
    obtain ⟨hlt, hget⟩ := List.getElem?_eq_some_iff.mp hd
    obtain ⟨go, yl⟩ := y1 d hd
    have hdr : ds.drop i = d :: ds.drop (i + 1) := by rw [List.drop_eq_getElem_cons hlt, hget]
    rw [hdr] at hl
    simp only [lc2D] at hl
    refine .inr ⟨go, fun H => ∃ O e xs acc, Le (hide H1 O1) (hide H O) ∧ REnv g b H O (L2.wipe σ vs) e ∧ Held g b H O (L2.wipe σ vs) e a ∧ H a = some (.lst xs) ∧ Reps g (hide H O) acc xs ∧ lc2D vs vs1 bd t mi1 bd1 t1 m (ds.drop (i + 1)) e acc = some (res, e9),
      fun H' z => ⟨ds.length - (i + 1), by omega, rfl, hlt, z⟩, fun x H3 hy => ?_⟩
    obtain ⟨ex, rp⟩ := yl x H3 hy
    have R3 := R2.ext ex
    have h3 : Held g b H3 O2 (L2.wipe σ vs) e2 a := ⟨h2.hid, h2.nob, h2.frs, h2.sep⟩
    have ha3 := ex a _ ha
    have l3 : Le (hide H2 O2) (hide H3 O2) := (hide_ext ex).le
    cases hz : bd (.d d) e2 with
    | none => rw [hz] at hl; cases hl
    | some e3 =>
      rw [hz] at hl
      simp only [Option.bind_some] at hl
      refine hb (b.grd a (.lst xs)) H3 O2 (L2.wipe σ vs) e2 (.d d) x _ (R3.guard h3 ha3) rp ⟨e3, hz, fun σ4 H4 O4 l4 R4 up => ?_⟩
      have hw : L2.wipe σ4 vs = L2.wipe σ vs := wipe_up up hj
      refine ⟨hw, _, O4, e3, R4, ?_⟩
      revert hl
      cases ht : t e3 with
      | err c f e => exact fun z => by cases z
      | stuck => exact fun z => by cases z
      | ok r =>
        obtain ⟨k, e5⟩ := r
        intro hl H5 O5 l5 R5
        have l25 : Le (hide H2 O2) (hide H5 O5) := (l3.trans l4).trans l5
        cases k with
        | false =>
          refine iteF ?_
          obtain ⟨R6, h6, ha6⟩ := R5.unguard h2.nob h2.frs
          have R7 := R6.wipe vs
          have h7 := h6.wipe (vs := vs)
          rw [hw] at R7 h7
          exact ⟨O5, wipeE vs e5, xs, acc, l2.trans l25, R7, h7, ha6, ra.le l25, hl⟩
        | true =>
          refine iteT ⟨_, O5, e5, R5, ?_⟩
          simp only at hl
          revert hl
          cases hm : mi1 e5 with
          | err c f e => exact fun z => by cases z
          | stuck => exact fun z => by cases z
          | ok r =>
            obtain ⟨ds1, e6⟩ := r
            intro hl J1 H6 O6 l6 R6 Y1
            simp only at hl
            cases hf : lcD vs1 bd1 t1 m ds1 (wipeE vs1 e6) acc with
            | none => rw [hf] at hl; cases hl
            | some z =>
              obtain ⟨acc', e7⟩ := z
              rw [hf] at hl
              simp only [Option.bind_some] at hl
              obtain ⟨R7, h7, ha7⟩ := R6.unguard h2.nob h2.frs
              have l26 : Le (hide H2 O2) (hide H6 O6) := l25.trans l6
              refine lc_loop hb1 hj1 (R7.wipe vs1) (h7.wipe (vs := vs1)) ha7 (ra.le l26) Y1.b hf fun H' O' xs' l' R' h' ha' ra' => ?_
              have R8 := R'.wipe vs
              have h8 := h'.wipe (vs := vs)
              rw [wipe_wipe hv, hw] at R8 h8
              exact ⟨O', wipeE vs e7, xs', acc', (l2.trans l26).trans l', R8, h8, ha', ra', hl⟩
def eLc2 (vs vs1 : List Nat) (mi : IDen) (bd : BDn) (t : TDen) (mi1 : IDen) (bd1 : BDn) (t1 : TDen) (m : EDen) : EDen := fun e => (mi e).bind fun a => (ofO (lc2D vs vs1 bd t mi1 bd1 t1 m a.1 (wipeE vs a.2) [])).bind fun z => .ok (.n (.lst z.1), restE a.2 vs z.2)
theorem lc2_weak {vs vs1 js js1 : List Nat} {mi mi1 : IDen} {bd bd1 : BDn} {t t1 : TDen} {m : EDen} {gt gt1 : TG} {σ : L2.St} {H : Hp} {Q : VK} (hb : BdU g js gt bd) (hj : ∀ j, j ∈ js → j ∈ vs) (hb1 : BdU g js1 gt1 bd1) (hj1 : ∀ j, j ∈ js1 → j ∈ vs1) (hv : ∀ i ∈ vs1, i ∈ vs) (h : rE g W (eLc2 vs vs1 mi bd t mi1 bd1 t1 m) σ H Q) :
    tLc2 (rI g W mi) gt (rT g W0 t) (rI g W0 mi1) gt1 (rT g W0 t1) (rE g W0 m) vs vs1 σ H Q := by
  obtain ⟨b, O, env, R, h⟩ := h
  refine ⟨b, O, env, R, ?_⟩
  unfold eLc2 at h
  revert h
  cases mi env with
  | err c f e => exact fun z => z
  | stuck => exact fun z => z
  | ok a =>
    obtain ⟨ds, e0⟩ := a
    intro h J H1 O1 l1 R1 Y
    obtain ⟨⟨res, e9⟩, hz, h2⟩ := h.ofO
    exact lc2_read hb hj hb1 hj1 hv R1 Y.b hz fun a H' O' l R' n => h2 (.ref a) H' O' (l1.trans l) R' ⟨a, rfl, n⟩
theorem x_lc2 {elt tg iter tg1 iter1 : Expr} {ifs ifs1 : List Expr} {scope : Scope} {own : List (Str × Nat)} {vs1 : List Nat} {mi mi1 : IDen} {js js1 : List Nat} {bd bd1 : BDn} {t t1 : TDen} {m : EDen} {gt gt1 : TG} (hc : X.calm = true) (hN : X.N.Nodup) (hi : PI X tg iter (rI g W mi)) (hb : BdU g js gt bd) (hj : ∀ j, j ∈ js → j ∈ own.map (·.2)) (hb1 : BdU g js1 gt1 bd1) (hj1 : ∀ j, j ∈ js1 → j ∈ vs1) (ok : BlkOk X.N X.env.scope scope own) (hv : ∀ i ∈ vs1, i ∈ own.map (·.2))
    (hg : ∀ (s : Shared) (H : Hp) (C : Addr) (cl : List (Str × Addr)) (fp : List Addr), PG (blkX X s H scope cl C fp) tg gt) (ht : ∀ (s : Shared) (H : Hp) (C : Addr) (cl : List (Str × Addr)) (fp : List Addr), PTs (blkX X s H scope cl C fp) ifs (rT g W0 t))
    (hi1 : ∀ (s : Shared) (H : Hp) (C : Addr) (cl : List (Str × Addr)) (fp : List Addr), PI (blkX X s H scope cl C fp) tg1 iter1 (rI g W0 mi1))
    (hg1 : ∀ (s : Shared) (H : Hp) (C : Addr) (cl : List (Str × Addr)) (fp : List Addr), PG (blkX X s H scope cl C fp) tg1 gt1) (ht1 : ∀ (s : Shared) (H : Hp) (C : Addr) (cl : List (Str × Addr)) (fp : List Addr), PTs (blkX X s H scope cl C fp) ifs1 (rT g W0 t1))
    (he : ∀ (s : Shared) (H : Hp) (C : Addr) (cl : List (Str × Addr)) (fp : List Addr), PE (blkX X s H scope cl C fp) elt (rE g W0 m)) (hs : ∀ x, foldedSetIterable iter X.env x = pure x := by intro _; rfl) (hs1 : ∀ env x, foldedSetIterable iter1 env x = pure x := by intro _ _; rfl) :
    PE X (.ListComp elt [⟨tg, iter, ifs, 0⟩, ⟨tg1, iter1, ifs1, 0⟩] scope pos) (rE g W (eLc2 (own.map (·.2)) vs1 mi bd t mi1 bd1 t1 m)) :=
  pe_weak (pe_lc2 hc hN hi ok hv hg ht hi1 hg1 ht1 he hs hs1) fun σ H Q h => lc2_weak hb hj hb1 hj1 hv h
end
end MM

set_option maxHeartbeats 2000000
namespace MM
open PySem PySem.Spec PyProof.Rows L2

section
variable {g : G} {W : WX} {X : Cx} {pos : Pos} {a c : Expr} {ma mc : EDen}
theorem t_eqD (hK : X.K = g.K) (hu : X.A.units + 64 < cLine) (ha : PE X a (rE g W ma)) (hc : PE X c (rE g W mc)) : PT X (.Compare a [.Eq] [c] pos) (rT g W (tst (eEqD ma mc))) :=
  pt_weak (pt_cmpR (op_eqD hu) ha hc (nomark _)) fun _ _ _ h => by rw [hK]; exact sim2 eqD_op (rT_tst h)
theorem t_neD (hK : X.K = g.K) (hu : X.A.units + 64 < cLine) (ha : PE X a (rE g W ma)) (hc : PE X c (rE g W mc)) : PT X (.Compare a [.NotEq] [c] pos) (rT g W (tst (eNeD ma mc))) :=
  pt_weak (pt_cmpR (op_neD hu) ha hc (nomark _)) fun _ _ _ h => by rw [hK]; exact sim2 neD_op (rT_tst h)
theorem t_in (hK : X.K = g.K) (ha : PE X a (rE g W ma)) (hc : PE X c (rE g W mc)) (hm : behindInMarks .In c = false := by rfl) : PT X (.Compare a [.In] [c] pos) (rT g W (tst (eIn ma mc))) :=
  pt_weak (pt_cmpR op_in_seq ha hc hm) fun _ _ _ h => by rw [hK]; exact sim2 (in_op (neg := false)) (rT_tst h)
theorem t_notIn (hK : X.K = g.K) (ha : PE X a (rE g W ma)) (hc : PE X c (rE g W mc)) (hm : behindInMarks .NotIn c = false := by rfl) : PT X (.Compare a [.NotIn] [c] pos) (rT g W (tst (eNotIn ma mc))) :=
  pt_weak (pt_cmpR op_notIn_seq ha hc hm) fun _ _ _ h => by rw [hK]; exact sim2 (in_op (neg := true)) (rT_tst h)
theorem t_inS (ha : PE X a (rE g W ma)) (hc : PE X c (rE g W mc)) (hm : behindInMarks .In c = false := by rfl) : PT X (.Compare a [.In] [c] pos) (rT g W (tst (eInS ma mc))) := t_cmp op_in_str inS_op ha hc hm
theorem t_notInS (ha : PE X a (rE g W ma)) (hc : PE X c (rE g W mc)) (hm : behindInMarks .NotIn c = false := by rfl) : PT X (.Compare a [.NotIn] [c] pos) (rT g W (tst (eNotInS ma mc))) := t_cmp op_notIn_str notInS_op ha hc hm
theorem t_din (hu : X.A.units + 1 < cLine) (ha : PE X a (rE g W ma)) (hc : PE X c (rE g W mc)) (hm : behindInMarks .In c = false := by rfl) : PT X (.Compare a [.In] [c] pos) (rT g W (tst (eDIn ma mc))) :=
  pt_weak (pt_cmp (pc_din hu ha hc) hm) fun σ H Q h => sim2 din_op (rT_tst h)
theorem t_dnotin (hu : X.A.units + 1 < cLine) (ha : PE X a (rE g W ma)) (hc : PE X c (rE g W mc)) (hm : behindInMarks .NotIn c = false := by rfl) : PT X (.Compare a [.NotIn] [c] pos) (rT g W (tst (eDNotIn ma mc))) :=
  pt_weak (pt_cmp (pc_dnotin hu ha hc) hm) fun σ H Q h => sim2 dnotin_op (rT_tst h)
/-! builtins by their names -/
theorem pss_stuck {sts : List Stmt} : PSs X sts (rS g W fun _ => .stuck) := pss_weak pss_never fun D σ H ⟨b, O, env, R, h⟩ => h.elim
end
section
variable {g : G} {W : WX} {X : Cx} {p pos : Pos} {e e2 : Expr} {ms : ADen}
theorem bt_abs : bootBuiltins "abs" = some (.builtin "abs") := by decide +kernel
theorem bt_max : bootBuiltins "max" = some (.builtin "max") := by decide +kernel
theorem bt_min : bootBuiltins "min" = some (.builtin "min") := by decide +kernel
theorem bt_sum : bootBuiltins "sum" = some (.builtin "sum") := by decide +kernel
theorem bt_any : bootBuiltins "any" = some (.builtin "any") := by decide +kernel
theorem bt_all : bootBuiltins "all" = some (.builtin "all") := by decide +kernel
theorem bt_len : bootBuiltins "len" = some (.builtin "len") := by decide +kernel
theorem bt_sorted : bootBuiltins "sorted" = some (.builtin "sorted") := by decide +kernel
theorem bt_isinstance : bootBuiltins "isinstance" = some (.builtin "isinstance") := by decide +kernel
theorem bt_int : bootBuiltins "int" = some (.type "int") := by decide +kernel
theorem bt_bool : bootBuiltins "bool" = some (.type "bool") := by decide +kernel
theorem bt_str : bootBuiltins "str" = some (.type "str") := by decide +kernel
theorem bt_list : bootBuiltins "list" = some (.type "list") := by decide +kernel
theorem bt_tuple : bootBuiltins "tuple" = some (.type "tuple") := by decide +kernel
theorem bt_dict : bootBuiltins "dict" = some (.type "dict") := by decide +kernel
theorem x_abs (hm : X.mg "abs" = none) (ha : PA X [e] (rA g W ms)) (hg : Gl X "abs" := by rfl) (he : starEach [e] X.env = (false, eval e X.env) :: starEach [] X.env := by rfl) : PE X (.Call (.Name "abs" p) [e] [] pos) (rE g W (eFnA (fA (d1 kAbs)) ms)) := x_blt call_abs abs_op bt_abs hm ha hg (by decide) (by decide) he rfl
theorem x_len (hK : X.K = g.K) (hm : X.mg "len" = none) (ha : PA X [e] (rA g W ms)) (hg : Gl X "len" := by rfl) (he : starEach [e] X.env = (false, eval e X.env) :: starEach [] X.env := by rfl) : PE X (.Call (.Name "len" p) [e] [] pos) (rE g W (eFnA (fA (d1 kLen)) ms)) := x_blt (r := fun xs H Q => ∃ x n, xs = [x] ∧ LenV g.K x H n ∧ Q (.int n) H) (by rw [← hK]; exact call_len) len_op bt_len hm ha hg (by decide) (by decide) he rfl
theorem x_sum (hK : X.K = g.K) (hc : X.calm = true) (hm : X.mg "sum" = none) (ha : PA X [e] (rA g W ms)) (hg : Gl X "sum" := by rfl) (he : starEach [e] X.env = (false, eval e X.env) :: starEach [] X.env := by rfl) : PE X (.Call (.Name "sum" p) [e] [] pos) (rE g W (eFnA (fA (d1 kSum)) ms)) := x_blt (r := rSum g.K) (by rw [← hK]; exact cr_sum hc) sum_op bt_sum hm ha hg (by decide) (by decide) he rfl
theorem x_any (hK : X.K = g.K) (hc : X.calm = true) (hm : X.mg "any" = none) (ha : PA X [e] (rA g W ms)) (hg : Gl X "any" := by rfl) (he : starEach [e] X.env = (false, eval e X.env) :: starEach [] X.env := by rfl) : PE X (.Call (.Name "any" p) [e] [] pos) (rE g W (eFnA (fA (d1 kAny)) ms)) := x_blt (r := rAny g.K) (by rw [← hK]; exact cr_any hc) any_op bt_any hm ha hg (by decide) (by decide) he rfl
theorem x_all (hK : X.K = g.K) (hc : X.calm = true) (hm : X.mg "all" = none) (ha : PA X [e] (rA g W ms)) (hg : Gl X "all" := by rfl) (he : starEach [e] X.env = (false, eval e X.env) :: starEach [] X.env := by rfl) : PE X (.Call (.Name "all" p) [e] [] pos) (rE g W (eFnA (fA (d1 kAll)) ms)) := x_blt (r := rAll g.K) (by rw [← hK]; exact cr_all hc) all_op bt_all hm ha hg (by decide) (by decide) he rfl
theorem x_maxL (hK : X.K = g.K) (hc : X.calm = true) (hm : X.mg "max" = none) (ha : PA X [e] (rA g W ms)) (hg : Gl X "max" := by rfl) (he : starEach [e] X.env = (false, eval e X.env) :: starEach [] X.env := by rfl) : PE X (.Call (.Name "max" p) [e] [] pos) (rE g W (eFnA (fA (d1 kMaxL)) ms)) := x_blt (r := rMax g.K) (by rw [← hK]; exact cr_max hc) maxL_op bt_max hm ha hg (by decide) (by decide) he rfl
theorem x_minL (hK : X.K = g.K) (hc : X.calm = true) (hm : X.mg "min" = none) (ha : PA X [e] (rA g W ms)) (hg : Gl X "min" := by rfl) (he : starEach [e] X.env = (false, eval e X.env) :: starEach [] X.env := by rfl) : PE X (.Call (.Name "min" p) [e] [] pos) (rE g W (eFnA (fA (d1 kMinL)) ms)) := x_blt (r := rMin g.K) (by rw [← hK]; exact cr_min hc) minL_op bt_min hm ha hg (by decide) (by decide) he rfl
theorem x_max2 (hc : X.calm = true) (hm : X.mg "max" = none) (ha : PA X [e, e2] (rA g W ms)) (hg : Gl X "max" := by rfl) (he : starEach [e, e2] X.env = (false, eval e X.env) :: starEach [e2] X.env := by rfl) (hpl : (backTo pos (starEach [e2] X.env)).any (·.1) = false := by rfl) : PE X (.Call (.Name "max" p) [e, e2] [] pos) (rE g W (eFnA (fA (d2 kMax2)) ms)) := x_blt (call_max2 hc) max2_op bt_max hm ha hg (by decide) (by decide) he hpl
theorem x_min2 (hc : X.calm = true) (hm : X.mg "min" = none) (ha : PA X [e, e2] (rA g W ms)) (hg : Gl X "min" := by rfl) (he : starEach [e, e2] X.env = (false, eval e X.env) :: starEach [e2] X.env := by rfl) (hpl : (backTo pos (starEach [e2] X.env)).any (·.1) = false := by rfl) : PE X (.Call (.Name "min" p) [e, e2] [] pos) (rE g W (eFnA (fA (d2 kMin2)) ms)) := x_blt (call_min2 hc) min2_op bt_min hm ha hg (by decide) (by decide) he hpl
theorem x_sorted (hK : X.K = g.K) (hc : X.calm = true) (hm : X.mg "sorted" = none) (ha : PA X [e] (rA g W ms)) (hg : Gl X "sorted" := by rfl) (he : starEach [e] X.env = (false, eval e X.env) :: starEach [] X.env := by rfl) : PE X (.Call (.Name "sorted" p) [e] [] pos) (rE g W (eFnA (nA (d1 kSorted)) ms)) := x_blt (by rw [← hK]; exact (cr_sortedI).or (call_sortedDI hc)) sorted_op bt_sorted hm ha hg (by decide) (by decide) he rfl
theorem x_intF (hm : X.mg "int" = none) (ha : PA X [e] (rA g W ms)) (hg : Gl X "int" := by rfl) (he : starEach [e] X.env = (false, eval e X.env) :: starEach [] X.env := by rfl) : PE X (.Call (.Name "int" p) [e] [] pos) (rE g W (eFnA (fA (d1 kInt)) ms)) := x_ty (call_int1.or call_int_str) int_op bt_int hm ha hg (by decide) (by decide) he rfl
theorem x_strF (hm : X.mg "str" = none) (ha : PA X [e] (rA g W ms)) (hg : Gl X "str" := by rfl) (he : starEach [e] X.env = (false, eval e X.env) :: starEach [] X.env := by rfl) : PE X (.Call (.Name "str" p) [e] [] pos) (rE g W (eFnA (fA (d1 kStr)) ms)) := x_ty (call_str_int.or SkE.call_str_str) str_op bt_str hm ha hg (by decide) (by decide) he rfl
theorem x_listF (hK : X.K = g.K) (hc : X.calm = true) (hm : X.mg "list" = none) (ha : PA X [e] (rA g W ms)) (hg : Gl X "list" := by rfl) (he : starEach [e] X.env = (false, eval e X.env) :: starEach [] X.env := by rfl) : PE X (.Call (.Name "list" p) [e] [] pos) (rE g W (eFnA (nA (d1 kList)) ms)) := x_ty (by rw [← hK]; exact call_list_of.or (call_listD hc)) list_op bt_list hm ha hg (by decide) (by decide) he rfl
theorem x_tupleF (hK : X.K = g.K) (hm : X.mg "tuple" = none) (ha : PA X [e] (rA g W ms)) (hg : Gl X "tuple" := by rfl) (he : starEach [e] X.env = (false, eval e X.env) :: starEach [] X.env := by rfl) : PE X (.Call (.Name "tuple" p) [e] [] pos) (rE g W (eFnA (fA (d1 kTuple)) ms)) := x_ty (by rw [← hK]; exact call_tuple_of) tuple_op bt_tuple hm ha hg (by decide) (by decide) he rfl
theorem x_dictF (hm : X.mg "dict" = none) (ha : PA X [e] (rA g W ms)) (hg : Gl X "dict" := by rfl) (he : starEach [e] X.env = (false, eval e X.env) :: starEach [] X.env := by rfl) : PE X (.Call (.Name "dict" p) [e] [] pos) (rE g W (eFnA (nA (d1 kDict)) ms)) := x_ty call_dictD dict_op bt_dict hm ha hg (by decide) (by decide) he rfl
end
/-! dict displays, keys ints or texts -/
def dispD : List (EDen × EDen) → DEnv → Option (List (Key × D) × DEnv)
  | [], e => some ([], e)
  | (mk, mv) :: r, e => match mk e with
    | .ok (.d kd, e1) => (keyOf kd).bind fun k => match mv e1 with
      | .ok (p, e2) => (p.frz e2).bind fun z => (dispD r z.2).bind fun w => some ((k, z.1) :: w.1, w.2)
      | _ => none
    | _ => none
def mergeD (l more : List (Key × D)) : List (Key × D) := more.foldl (fun acc kv => dput acc kv.1 kv.2) l
def eDisp (ps : List (EDen × EDen)) : EDen := fun e => (ofO (dispD ps e)).bind fun z => if z.1.length ≤ 15 then .ok (.n (.dK (mergeD [] z.1)), z.2) else .stuck
section
variable {g : G} {W : WX} {X : Cx} {pos : Pos}
theorem disp_read {b : Bas} {σ : L2.St} : ∀ {ps : List (EDen × EDen)} {H : Hp} {O : List Addr} {e e' : DEnv} {kds : List (Key × D)} {Q : List (V × V) → Hp → Prop}, REnv g b H O σ e → dispD ps e = some (kds, e') →
    (∀ (kvs : List (Key × V)) H' O', Le (hide H O) (hide H' O') → REnv g b H' O' σ e' → kvs.map (·.1) = kds.map (·.1) → Reps g (hide H' O') (kds.map (·.2)) (kvs.map (·.2)) → Q (kvs.map fun kv => (kV kv.1, kv.2)) H') → tPairs (ps.map fun q => (rE g W q.1, rE g W q.2)) σ H Q
  | [], H, O, e, _, _, Q, R, h, q => by cases h; exact q [] H O (Le.refl _) R rfl .nil
  | (mk, mv) :: r, H, O, e, e', kds, Q, R, h, q => by
    simp only [dispD] at h
    refine ⟨b, O, e, R, ?_⟩
    show PostE g W b σ H O (mk e) _
    revert h
    cases hmk : mk e with
    | err c f e => exact fun z => by cases z
    | stuck => exact fun z => by cases z
    | ok w =>
      obtain ⟨p, e1⟩ := w
      cases p with
      | n _ => exact fun z => by cases z
      | s _ => exact fun z => by cases z
      | d kd =>
        intro h y H1 O1 l1 R1 rp1
        simp only at h
        cases hk : keyOf kd with
        | none => rw [hk] at h; cases h
        | some key =>
          rw [hk] at h
          simp only [Option.bind_some] at h
          have ey : y = kV key := keyOf_rep hk rp1
          refine ⟨b, O1, e1, R1, ?_⟩
          show PostE g W b σ H1 O1 (mv e1) _
          revert h
          cases hmv : mv e1 with
          | err c f e => exact fun z => by cases z
          | stuck => exact fun z => by cases z
          | ok w =>
            obtain ⟨p, e2⟩ := w
            intro h z H2 O2 l2 R2 rp2
            simp only at h
            cases hf : p.frz e2 with
            | none => rw [hf] at h; cases h
            | some w =>
              obtain ⟨dz, e3⟩ := w
              rw [hf] at h
              simp only [Option.bind_some] at h
              cases hr : dispD r e3 with
              | none => rw [hr] at h; cases h
              | some w =>
                obtain ⟨kds', e4⟩ := w
                rw [hr] at h
                cases h
                obtain ⟨O3, x3, R3, r3⟩ := frz_ok R2 rp2 hf
                refine disp_read R3 hr fun kvs H' O' l R' hm hreps => ?_
                have := q ((key, z) :: kvs) H' O' (((l1.trans l2).trans x3.le).trans l) R' (by rw [List.map_cons, List.map_cons, hm]) (.cons (r3.le l) hreps)
                rw [List.map_cons] at this
                rw [ey]
                exact this
theorem merge_reps {H : Hp} : ∀ {more : List (Key × D)} {moreV : List (Key × V)} {l : List (Key × D)} {kvs : List (Key × V)}, moreV.map (·.1) = more.map (·.1) → Reps g H (more.map (·.2)) (moreV.map (·.2)) → kvs.map (·.1) = l.map (·.1) → Reps g H (l.map (·.2)) (kvs.map (·.2)) →
    (mergeK kvs moreV).map (·.1) = (mergeD l more).map (·.1) ∧ Reps g H ((mergeD l more).map (·.2)) ((mergeK kvs moreV).map (·.2))
  | [], [], _, _, _, _, h, r => ⟨h, r⟩
  | [], _ :: _, _, _, h, _, _, _ => by cases h
  | _ :: _, [], _, _, h, _, _, _ => by cases h
  | (k1, d) :: more, (k2, v) :: moreV, l, kvs, h, r, h', r' => by
    rw [List.map_cons, List.map_cons, List.cons.injEq] at h
    have ek : k2 = k1 := h.1
    subst ek
    cases r with
    | cons r1 r2 =>
      obtain ⟨p1, p2⟩ := dput_reps (k := k2) r1 h' r'
      exact merge_reps (more := more) (moreV := moreV) h.2 r2 p1 p2
theorem disp_nil : PPs X pos [] [] (([] : List (EDen × EDen)).map fun q => (rE g W q.1, rE g W q.2)) := pps_nil
theorem disp_cons {k v : Expr} {ks : List (Option Expr)} {vs : List Expr} {mk mv : EDen} {ps : List (EDen × EDen)} (hk : PE X k (rE g W mk)) (hv : PE X v (rE g W mv)) (hr : PPs X pos ks vs (ps.map fun q => (rE g W q.1, rE g W q.2))) : PPs X pos (some k :: ks) (v :: vs) (((mk, mv) :: ps).map fun q => (rE g W q.1, rE g W q.2)) := pps_cons hk hv hr
theorem x_disp {keys : List (Option Expr)} {values : List Expr} {ps : List (EDen × EDen)} (h : PPs X pos keys values (ps.map fun q => (rE g W q.1, rE g W q.2))) (hall : keys.all (·.isSome) = true := by rfl) (hl : keys.length = values.length := by rfl) (h0 : keys ≠ [] := by exact List.cons_ne_nil _ _)
    (h15 : keys.length ≤ 15 := by decide) : PE X (.Dict keys values pos) (rE g W (eDisp ps)) :=
  pe_weak (pe_disp h hall hl h0 h15) fun σ H Q ⟨b, O, env, R, q⟩ p np => by
    obtain ⟨⟨kds, e'⟩, hz, q⟩ := q.ofO
    obtain ⟨hl, q⟩ := q.iff
    have n0 := R.layNew (o := .dK []) (d := .dK []) np ⟨[], upd_same, rfl, .nil⟩
    have R1 : REnv g b (upd H p (.dK [])) (p :: O) σ env := R.lay np trivial
    refine disp_read (R1.guard ⟨n0.hid, n0.nob, n0.frs, n0.sep⟩ upd_same) hz fun kvs H' O' l R' hm hr => ?_
    obtain ⟨R2, h2, hp⟩ := R'.unguard n0.nob n0.frs
    have len : kvs.length = kds.length := by have := congrArg List.length hm; simpa using this
    refine ⟨hp, kvs, rfl, by rw [len]; exact hl, ?_⟩
    obtain ⟨R3, he⟩ := h2.poke (o := .dK (mergeK [] kvs)) R2 trivial
    obtain ⟨m1, m2⟩ := merge_reps (g := g) (l := []) (kvs := []) hm hr rfl .nil
    refine q _ _ O' ((lay_le np).le.trans (l.trans (by rw [he]; exact Le.refl _))) R3 ⟨p, rfl, h2.hid, h2.nob, h2.frs, ⟨_, upd_same, m1, by rw [he]; exact m2⟩, h2.sep⟩
end
end MM
namespace MM
open PySem PySem.Spec PyProof.Rows L2
theorem hu1 {k : Nat} {A : Around} (hr : Room k A) : A.units + 1 < cLine := by have := hr.units; omega
theorem nm_of {X : Cx} {x : Str} {c : Value} (h : X.mg x = some c) (hg : Gl X x) (hd : (x == ("__debug__" : Str)) = false := by decide) : Names X x c := ⟨hg, hd, .inl h⟩
end MM

set_option maxHeartbeats 2000000
namespace MM
open PySem PySem.Spec PyProof.Rows L2

/-! ### the head: what is seen behind the top -/
/-- a def of the text -/
def dOf (at_ : Str × Option Str) (name qual : Str) (st : Stmt) : He.FnD := ⟨at_, name, qual, defArgs st, defBody st, defScope st⟩
def obsC (cs : List (PySem.W.Frag → Bool)) (fn : List He.FnD) (K : PySem.W.Frag) : He.Al := ((cs.all fun c => c K) && fn.all fun d => (He.Fa.code d.at_ d.qual).ok K && PySem.W.keepIn K (.ref (He.fAd K d.at_)), fn.map fun d => He.fnObs K d.at_)
def SaysC (cs : List (PySem.W.Frag → Bool)) (fn : List He.FnD) (K : PySem.W.Frag) : Prop := obsC cs fn K = He.valE fn
def obsCG (n : Nat) (cs : List (PySem.W.Frag → Bool)) (fn : List He.FnD) (g : Addr → Option Obj) : He.Al := obsC cs fn (He.frG g (He.asG g n))
def hookC (n : Nat) (cs : List (PySem.W.Frag → Bool)) (fn : List He.FnD) : PySem.W.Hook where
  α := He.Al
  obs := fun s => obsCG n cs fn s.heap.get?
  val := fun _ => He.valE fn
  says := fun _ h => ∃ K : PySem.W.Frag, K.In h ∧ SaysC cs fn K
  of := fun _ _ e => ⟨_, He.frG_in, e⟩
  keeps := fun _ _ _ ⟨K, hK, c⟩ k => ⟨K, PySem.W.Frag.In.keeps hK k, c⟩
theorem obsCG_eq {n : Nat} {cs : List (PySem.W.Frag → Bool)} {fn : List He.FnD} {g : Addr → Option Obj} {s : Shared} (h : ∀ a, g a = s.heap.get? a) : obsCG n cs fn g = (hookC n cs fn).obs s := by
  have e : g = s.heap.get? := funext h
  rw [e] <;> rfl
section
variable {cs : List (PySem.W.Frag → Bool)} {fn : List He.FnD} {K : PySem.W.Frag}
theorem SaysC.two (c : SaysC cs fn K) : (cs.all fun c => c K) = true ∧ (fn.all fun d => (He.Fa.code d.at_ d.qual).ok K && PySem.W.keepIn K (.ref (He.fAd K d.at_))) = true := Bool.and_eq_true_iff.mp (congrArg (fun z : He.Al => z.1) c)
theorem SaysC.fact (c : SaysC cs fn K) (i : Nat) {f : PySem.W.Frag → Bool} (h : cs[i]? = some f := by rfl) : f K = true := List.all_eq_true.mp c.two.1 f (List.mem_of_getElem? h)
theorem SaysC.def_ (c : SaysC cs fn K) (i : Nat) {at_ : Str × Option Str} {name qual : Str} {st : Stmt} (h : fn[i]? = some (dOf at_ name qual st) := by rfl) : ∃ fd, L2.Fun K name qual st (He.fAd K at_) fd := by
  have c2 := List.all_eq_true.mp c.two.2 _ (List.mem_of_getElem? h)
  obtain ⟨c3, c4⟩ := Bool.and_eq_true_iff.mp c2
  have e : fn.map (fun d => He.fnObs K d.at_) = fn.map He.FnD.val := congrArg (fun z : He.Al => z.2) c
  have e2 : (fn.map fun d => He.fnObs K d.at_)[i]? = (fn.map He.FnD.val)[i]? := by rw [e]
  rw [List.getElem?_map, List.getElem?_map, h] at e2
  obtain ⟨oc, od, osl, kV, doc, pm, an, cdv, ct, hl, hcd⟩ := He.fn_ok (Option.some.inj e2) c3
  exact ⟨_, L2.fun_mk hl hcd c4⟩
end
theorem fun_bindsTo {x qual : Str} {st : Stmt} {f : Addr} {fd : FuncData} {K : PySem.W.Frag} (F : L2.Fun K x qual st f fd) {ps : List Str}
    (h : ∀ (kV doc pm : Value) (an : Option Addr) (cdv ct : Value) (us : List Value), us.length = ps.length → bindArgs (PySem.W.fnOf x qual (defArgs st) (defBody st) (defScope st) .none kV doc pm an cdv ct) ⟨us, []⟩ = pure (ps.zip us)) (s : Shared) (us : List Value) (hl : us.length = ps.length) : BindsTo s fd ⟨us, []⟩ (ps.zip us) := by
  obtain ⟨oc, od, kV, doc, pm, an, cdv, ct, osl, rfl, lk, hcd⟩ := F.ex
  exact .of_eq (h kV doc pm an cdv ct us hl)
theorem fun_binds {x qual : Str} {st : Stmt} {f : Addr} {fd : FuncData} {K : PySem.W.Frag} (F : L2.Fun K x qual st f fd) {ps : List Str}
    (h : ∀ (kV doc pm : Value) (an : Option Addr) (cdv ct : Value) (us : List Value), us.length = ps.length → bindArgs (PySem.W.fnOf x qual (defArgs st) (defBody st) (defScope st) .none kV doc pm an cdv ct) ⟨us, []⟩ = pure (ps.zip us)) : L2.Binds K fd ps [] := .all fun us hl => by
  obtain ⟨oc, od, kV, doc, pm, an, cdv, ct, osl, rfl, lk, hcd⟩ := F.ex
  exact h kV doc pm an cdv ct us hl
/-! tests -/
def tFree (x : Str) : PySem.W.Frag → Bool := fun K => (He.Fa.free x).ok K
def tGlo (x : Str) : PySem.W.Frag → Bool := fun K => (He.Fa.glo x).ok K
def tInt (x : Str) (i : Int) : PySem.W.Frag → Bool := fun K => (He.Fa.int x i).ok K
def tCls (x : Str) : PySem.W.Frag → Bool := fun K => (He.Fa.cls x).ok K && (decide (PySem.W.findIn K (.ref (He.ga K x)) "__class__" = some (some (.builtin "object.__class__"))) && (decide (PySem.W.specialIn K (.builtin "object.__class__") "__get__" = some (some (.builtin "getset_descriptor.__get__"))) && (decide (PySem.W.takesIn K (.builtin "object.__class__") = some true) && decide (PySem.W.mroIn K (He.ga K x) (.type "object") = some true))))
def tNoat (x f : Str) : PySem.W.Frag → Bool := fun K => (He.Fa.noat x f).ok K
def tMeth' (x m : Str) : PySem.W.Frag → Bool := fun K => (He.Fa.meth x m).ok K
def tMkr (x : Str) : PySem.W.Frag → Bool := fun K => (He.Fa.mkr x).ok K
def tExc (x : Str) : PySem.W.Frag → Bool := fun K => (He.Fa.exc x).ok K
def tExm (x y : Str) (b : Bool) : PySem.W.Frag → Bool := fun K => (He.Fa.exm x y b).ok K
def tKitTT (a b : String) (r : Bool) : PySem.W.Frag → Bool := fun K => decide (PySem.W.kitOne K (.type a) (.type b) = some r)
def tKitCT (x : Str) (b : String) (r : Bool) : PySem.W.Frag → Bool := fun K => decide (PySem.W.kitOne K (.ref (He.ga K x)) (.type b) = some r)
def tKitTC (a : String) (y : Str) (r : Bool) : PySem.W.Frag → Bool := fun K => decide (PySem.W.kitOne K (.type a) (.ref (He.ga K y)) = some r)
def tKitCC (x y : Str) (r : Bool) : PySem.W.Frag → Bool := fun K => decide (PySem.W.kitOne K (.ref (He.ga K x)) (.ref (He.ga K y)) = some r)
def tSelf (x : Str) : PySem.W.Frag → Bool := fun K => PySem.W.selfFirst K (He.ga K x)
def gOf (K : PySem.W.Frag) (cn en fn : List Str) : G := ⟨K, fun i => He.ga K (cn.getD i ""), fun i => He.ga K (fn.getD i ""), fun i => He.ga K (en.getD i "")⟩
section
variable {K : PySem.W.Frag} {h : Heap} {mg : Str → Option Value} {cn en fn : List Str} {x y : Str}
theorem tCls_ok {i : Nat} (e : cn.getD i "" = x) (c : tCls x K = true) : ClsF (gOf K cn en fn) i := by
  unfold tCls at c
  simp only [Bool.and_eq_true, decide_eq_true_eq] at c
  obtain ⟨c1, c2, c3, c4, c5⟩ := c
  subst e
  exact ⟨He.cls_ok c1, c2, c3, c4, c5⟩
theorem tExc_ok (X : K.In h) (G : h.Ns mainGlobals mg) {i : Nat} (e : en.getD i "" = x) (c : tExc x K = true) (d : tGlo x K = true) : ExcF (gOf K cn en fn) mg x i := by
  obtain ⟨c1, c2, c3, c4⟩ := He.exc_ok c
  subst e
  exact ⟨He.glo_ok X G d, c1, c2, c3, c4⟩
def tFrees (xs : List Str) : PySem.W.Frag → Bool := fun K => xs.all fun x => (He.Fa.free x).ok K
def tClss (xs : List Str) : PySem.W.Frag → Bool := fun K => xs.all fun x => tCls x K
def tNas (cn : List Str) (ps : List (Nat × Str)) : PySem.W.Frag → Bool := fun K => ps.all fun p => (He.Fa.noat (cn.getD p.1 "") p.2).ok K
theorem tFrees_ok (X : K.In h) (G : h.Ns mainGlobals mg) {xs : List Str} (c : tFrees xs K = true) : ∀ x, x ∈ xs → mg x = none := fun x hx => He.free_ok X G (List.all_eq_true.mp c x hx)
theorem tClss_ok (c : tClss cn K = true) : ∀ i, i < cn.length → ClsF (gOf K cn en fn) i := fun i hi => by
  have e : cn.getD i "" = cn[i] := by simp [List.getD, hi]
  refine tCls_ok rfl ?_
  rw [e]
  exact List.all_eq_true.mp c _ (List.getElem_mem hi)
theorem tNas_ok {ps : List (Nat × Str)} (c : tNas cn ps K = true) : ∀ p, p ∈ ps → NoAttr (gOf K cn en fn).K ((gOf K cn en fn).C p.1) p.2 := fun p hp => He.noat_ok (List.all_eq_true.mp c p hp)
theorem kit_tt {a b : String} {r : Bool} (c : tKitTT a b r K = true) : PySem.W.kitOne (gOf K cn en fn).K (Tag.v (gOf K cn en fn) (.ty a)) (Tag.v (gOf K cn en fn) (.ty b)) = some r := of_decide_eq_true c
theorem kit_ct {i : Nat} {b : String} {r : Bool} (e : cn.getD i "" = x) (c : tKitCT x b r K = true) : PySem.W.kitOne (gOf K cn en fn).K (Tag.v (gOf K cn en fn) (.cl i)) (Tag.v (gOf K cn en fn) (.ty b)) = some r := by subst e; exact of_decide_eq_true c
theorem kit_tc {i : Nat} {a : String} {r : Bool} (e : cn.getD i "" = x) (c : tKitTC a x r K = true) : PySem.W.kitOne (gOf K cn en fn).K (Tag.v (gOf K cn en fn) (.ty a)) (Tag.v (gOf K cn en fn) (.cl i)) = some r := by subst e; exact of_decide_eq_true c
theorem kit_cc {i j : Nat} {r : Bool} (e : cn.getD i "" = x) (d : cn.getD j "" = y) (c : tKitCC x y r K = true) : PySem.W.kitOne (gOf K cn en fn).K (Tag.v (gOf K cn en fn) (.cl i)) (Tag.v (gOf K cn en fn) (.cl j)) = some r := by subst e; subst d; exact of_decide_eq_true c
theorem exm_gOf {i j : Nat} {r : Bool} (e : en.getD i "" = x) (d : en.getD j "" = y) (c : tExm x y r K = true) : PySem.W.exmOne (gOf K cn en fn).K (.ref ((gOf K cn en fn).X i)) (.ref ((gOf K cn en fn).X j)) = some r := by subst e; subst d; exact He.exm_ok c
theorem mgX {i : Nat} (X : K.In h) (G : h.Ns mainGlobals mg) (e : en.getD i "" = x) (c : tGlo x K = true) : mg x = some (.ref ((gOf K cn en fn).X i)) := by
  have := He.glo_ok X G c
  subst e
  exact this
theorem mgC {i : Nat} (X : K.In h) (G : h.Ns mainGlobals mg) (e : cn.getD i "" = x) (c : tGlo x K = true) : mg x = some (.ref ((gOf K cn en fn).C i)) := by
  have := He.glo_ok X G c
  subst e
  exact this
/-- an operator's def -/
theorem op_of {P : Program} {w : World} {base : Heap} {i n k : Nat} {m : Str} {sp : Sp} {fd : FuncData} {ps : List Str} (e : cn.getD i "" = x) (c : tMeth' x m K = true) (d : tSelf x K = true) (hn : ps.length = n) (F : FnOk P w K mg base (L2.CX P w) k (He.ma K (He.ga K x) m) fd ps sp) (hb : L2.Binds K fd ps []) :
    OpF P w (gOf K cn en fn) mg base i m n k sp (He.ma K (He.ga K x) m) := by
  have M := He.meth_ok c
  subst e
  exact ⟨M.at_, M.fn, d, fd, ps, hn, F, hb⟩
theorem calM_of {P : Program} {w : World} {base : Heap} {i n k : Nat} {m : Str} {sp : Sp} {fd : FuncData} {ps : List Str} (e : cn.getD i "" = x) (cl : tCls x K = true) (c : tMeth' x m K = true) (hn : ps.length = n) (F : FnOk P w K mg base (L2.CX P w) k (He.ma K (He.ga K x) m) fd ps sp) (hb : L2.Binds K fd ps []) :
    CalM P w (gOf K cn en fn).K mg base ((gOf K cn en fn).C i) m n k sp := by
  subst e
  exact ⟨(tCls_ok (en := en) (fn := fn) rfl cl).cl, _, fd, ps, hn, F, He.meth_ok c, hb⟩
theorem calC_of {P : Program} {w : World} {base : Heap} {i n k : Nat} {sp : Sp} {fd : FuncData} {ps : List Str} (X : K.In h) (G : h.Ns mainGlobals mg) (e : cn.getD i "" = x) (gl : tGlo x K = true) (c : tMkr x K = true) (hn : ps.length = n) (F : FnOk P w K mg base (L2.CX P w) k (He.ma K (He.ga K x) "__init__") fd ps sp) (hb : L2.Binds K fd ps []) :
    CalC P w (gOf K cn en fn).K mg base ((gOf K cn en fn).C i) x n k sp := by
  have hm := He.glo_ok X G gl
  subst e
  exact ⟨hm, _, fd, ps, hn, F, He.mkr_ok c, hb⟩
theorem calF_of {P : Program} {w : World} {base : Heap} {n k : Nat} {sp : Sp} {fd : FuncData} {ps : List Str} (X : K.In h) (G : h.Ns mainGlobals mg) (gl : tGlo x K = true) (hn : ps.length = n) (F : FnOk P w K mg base (L2.CX P w) k (He.ga K x) fd ps sp) (kp : PySem.W.keepIn K (.ref (He.ga K x)) = true) (hb : L2.Binds K fd ps []) :
    CalF P w K mg base x n k sp := ⟨_, fd, ps, hn, F, He.glo_ok X G gl, kp, hb⟩
end
/-- the end of a law: its def answers True -/
theorem walk_end {l : PySem.W.OpenLaw} {n k : Nat} {q : Program} {loose : List Str} {XP : (Str → Option Value) → Heap → Prop} {d : DefRec} {x : Str} {cs : List (PySem.W.Frag → Bool)} {fn : List He.FnD} {j : Nat} {mf : Nat → List D → Res (P × D)}
    (hn : l.most = some n) (hn2 : n ≤ sizeLine) (hdf : d.params.defaults = []) (hr : Room k callerA)
    (F : ∀ (K : PySem.W.Frag) (w : World) (mg : Str → Option Value) (h : Heap), K.In h → SaysC cs fn K → h.Ns mainGlobals mg → ∃ (g : G) (fd : FuncData), g.K = K ∧ (∀ fa, mg d.name = some (.ref fa) → fa = He.ga K d.name) ∧ (∀ (s : Shared) (u : Value), BindsTo s fd ⟨[u], []⟩ [(x, u)]) ∧
      ∀ base : Heap, FnOk l.prog w K mg base (L2.CX l.prog w) k (He.ga K d.name) fd [x] (spF g 1 mf))
    (hsp : ∀ ns : List Int, ns.length ≤ n → (∀ z ∈ ns, Builtin.Int.intBits z ≤ 1048576) → ∃ N e, mf N [.scr ns] = .ok (.d (.bl true), e)) :
    PySem.W.WalkO q loose XP (hookC j cs fn).says l.row.toRowW d [] (fun f vs => PySem.call f vs) := by
  refine Att.attach_callB hn hdf fun w s₀ s₁ mg mb fa o pm cd doc a vs ns G Y ho hd hcd hmg hobj hints hlen hbits hg => ?_
  obtain ⟨K, KX, c⟩ := Y
  obtain ⟨g, fd, eK, hfa, hb, hF⟩ := F K w mg _ KX c G.T.g
  have efa := hfa fa hmg
  subst efa
  refine law_call (CX := L2.CX l.prog w) KX G.T.g G.T.b G.T.builtins G.T.nolimit hg hobj hints (Nat.le_trans hlen hn2) hr (fun base _ _ => hF base) hb (fun H hO hS => ?_) fun H e s' z => ?_
  · obtain ⟨N, e, h⟩ := hsp ns hlen hbits
    refine ⟨rfl, N, [.scr ns], [], (fun _ h => by cases h), .cons (.scr ?_) .nil, ?_⟩
    · have eh : hide H [] = H := by funext b; rw [hide_out (by simp)]
      rw [eh, eK]
      exact hS
    · rw [h]
      intro v H' _ rv
      cases rv
      rfl
  · obtain ⟨_, _, _, _, _, _, _, _, _, _, _, _, z⟩ := z
    exact z
end MM

set_option maxHeartbeats 2000000
namespace MM
open PySem PySem.Spec PyProof.Rows L2
section
variable {prog : Program} {w : World} {A : Around} {E : Value → Shared → Prop} {s : Shared} {t : Addr} {ob : Obj} {us : List Value} {c : Nat}
abbrev laidL (h : Heap) (us : List Value) : Heap := (h.push (seqObj "list" #[] 0)).update h.objs.size (Obj.mapSeq (· ++ us.toArray))
/-- a tuple's items, gathered -/
theorem gather {R : List Value → Shared → Prop} (g1 : s.heap.get? t = some ob) (g2 : ob.cls = .type "tuple") (g3 : ob.data = .seq us.toArray c) (gz : us.length ≤ sizeLine)
    (k : R us { s with heap := laidL s.heap us }) : wpAny (model prog w) A (collect (.ref t)) R E s := by
  unfold collect
  have g4 : (s.heap.push (seqObj "list" #[] 0)).get? t = some ob := Heap.get?_push_of_some _ g1
  have sz : (#[] ++ us.toArray).size ≤ sizeLine + 1 := by simp only [Array.size_append, List.size_toArray, List.length_nil]; omega
  apply wpAny_bind
  apply wpAny_runValue
  refine codeAny_builtin entry_proto_collect' ?_
  show wpAny _ _ (do again (.builtin "list.__iadd__" ⟨[← newList [], .ref t], []⟩)) _ _ s
  apply wpAny_bind
  refine wpAny_newList ?_
  refine wpAny_pure ⟨Code.quiet_builtin _ (by decide +kernel), ?_⟩
  refine codeAny_builtin entry_list_iadd' ?_
  show wpAny _ _ (Builtin.List.listExtendWith (.ref s.heap.objs.size) (.ref t) (.ref s.heap.objs.size)) _ _ { s with heap := s.heap.push (seqObj "list" #[] 0) }
  unfold Builtin.List.listExtendWith
  apply wpAny_bind
  refine wpAny_typeOf (T := "tuple") ⟨ob, g4, g2⟩ ?_
  have q1 : (Value.type "tuple" == Value.type "tuple") = true := by rfl
  rw [if_pos (by rw [q1]; simp)]
  apply wpAny_bind
  refine listItems_at g4 g3 ?_
  apply wpAny_bind
  refine listItems_at (xs := #[]) (n := 0) (Heap.get?_push_size _ rfl) rfl ?_
  rw [if_neg (by simp)]
  apply wpAny_bind
  refine listUpdate_at (xs := #[]) (n := 0) (Heap.get?_push_size _ rfl) rfl ?_ (Nat.zero_le _) sz
  refine wpAny_pure ?_
  show wpAny (model prog w) A (do
      let z ← load s.heap.objs.size
      match z.data with
      | .seq ys _ => pure ys.toList
      | _ => unsupported "internal:collect") R E { s with heap := laidL s.heap us }
  apply wpAny_bind
  refine wpAny_load (get?_update_seq (Heap.get?_push_size _ rfl) _) ?_
  have q2 : ((#[] : Array Value) ++ us.toArray).toList = us := by simp
  show wpAny _ _ (pure ((#[] : Array Value) ++ us.toArray).toList) R E _
  rw [q2]
  exact wpAny_pure k
/-- sorted(t), t a tuple of ints -/
theorem sorted_tup {R : Value → Shared → Prop} {lt : Value → Value → Bool} (O : SrtO.Swo lt) (g1 : s.heap.get? t = some ob) (g2 : ob.cls = .type "tuple") (g3 : ob.data = .seq us.toArray c) (gz : us.length ≤ sizeLine)
    (so : 2 ≤ us.length → ∀ (h₁ : Heap) (a : Addr), SrtO.SortableO prog w A.in1.in1 { s with heap := h₁ } a us lt)
    (k : ∀ out : List Value, SrtO.Srtd lt out → SrtO.Stb lt out us → R (.ref (s.heap.objs.size + 1)) { s with heap := sortedAll s.heap us out.toArray }) :
    wpAny (model prog w) A (call (.builtin "sorted") [.ref t]) R E s := by
  have e1 : (laidL s.heap us).objs.size = s.heap.objs.size + 1 := by rw [Heap.size_update, size_push']
  have e2 : ((laidL s.heap us).push (seqObj "list" us.toArray 0)).get? (s.heap.objs.size + 1) = some (seqObj "list" us.toArray 0) := by
    rw [← e1]
    exact Heap.get?_push_size _ rfl
  refine Calls.call_function_entry kind_sorted plain_sorted entry_sorted (args_sorted1 _) ?_
  unfold Builtin.«sorted»
  apply wpAny_bind (m := checkCount "sorted" 1 1 _)
  apply wpAny_pure
  apply wpAny_bind
  refine gather g1 g2 g3 gz ?_
  apply wpAny_bind
  refine wpAny_newList ?_ gz
  show wpAny _ _ _ _ _ { s with heap := (laidL s.heap us).push (seqObj "list" us.toArray 0) }
  rw [e1]
  apply wpAny_bind
  apply wpAny_holding
  refine wpAny_call_entry slot_list_sort ⟨_, e2, rfl⟩ entry_list_sort ?_ (args_list_sort _)
  refine SrtO.list_sort_ord O e2 gz (fun z => so z _ _) fun out z1 z2 => ⟨_, rfl, ?_⟩
  exact wpAny_pure ⟨_, rfl, k out z1 z2⟩
end
section
variable {X : Cx}
def rSortedT (K : PySem.W.Frag) : List V → Hp → VK → Prop := fun vs H Q => ∃ (a : Addr) (ns : List Int), vs = [V.ref a] ∧ SqT K H a (ns.map V.int) ∧
  ∀ (ms : List Int) (p : Addr), ms.Perm ns → ms.Pairwise (· ≤ ·) → H p = none → Q (.ref p) (upd H p (.lst (ms.map V.int)))
theorem cr_sortedT : CallR X (.builtin "sorted") (rSortedT X.K) := by
  intro pins s σ H vs us Q I r h
  obtain ⟨a, ns, rfl, hs, q⟩ := h
  obtain ⟨its, rv, pl, hz⟩ := I.tuple hs
  obtain ⟨o, ho, hc, n, hd⟩ := pl
  have hi := rv.ints
  rw [Vals.ref1 r]
  refine sorted_tup SrtO.swo_int ho hc hd (by rw [← rv.length]; exact hz) (fun h2 _ _ => SrtO.ints_sortable hi h2) fun out h1 h2 => ?_
  obtain ⟨k1, k2, k3⟩ := SrtO.ints_out hi h1 h2
  obtain ⟨ep, he⟩ := PyProof.Rows.sortedAll_at s.heap its out.toArray
  have hl : ((out.map SrtO.iv).map V.int).length ≤ sizeLine := by
    have := k2.length_eq
    simp only [List.length_map] at hz this ⊢
    omega
  refine ⟨.ref _, upd H (s.heap.objs.size + 1) (.lst ((out.map SrtO.iv).map V.int)), ?_, rfl, q _ _ k2 k3 (I.hok.fresh (Nat.le_succ _))⟩
  exact I.laid (t' := s.toks) (fun _ _ => PyProof.Rows.sortedAll_old) (Nat.le_succ _) ⟨hl, out, ep, vals_of_ints k1, he⟩
end
def kSortedT : D → Option D
  | .tup l => (intL l).bind fun ns => some (.lst ((isort ns).map .int))
  | _ => none
theorem sortedT_op {g : G} : OpA g (rSortedT g.K) (nA (d1 kSortedT)) := nA_op fun H O ds z vs Q _ hv hz q => by
  obtain ⟨d, v, rfl, kz, vv⟩ := v1 hz hv
  cases d <;> simp only [kSortedT] at kz <;> try cases kz
  rename_i l
  cases h : intL l with
  | none => rw [h] at kz; cases kz
  | some ns =>
    rw [h] at kz
    cases kz
    have e := intL_eq h
    subst e
    obtain ⟨a, xs, rfl, h1, h2⟩ := vv.asT (l := _) rfl
    rw [Reps.of_ints h2] at h1
    refine ⟨a, ns, rfl, h1, fun ms p y1 y2 y3 => ?_⟩
    have e : ms = isort ns := perm_pw_eq (y1.trans (isort_perm ns).symm) y2 (isort_pw ns)
    rw [e]
    exact q p _ y3 own_ints
section
variable {g : G} {W : WX} {X : Cx} {pos p : Pos} {e : Expr} {ms : ADen}
theorem x_sortedT (hK : X.K = g.K) (hc : X.calm = true) (hm : X.mg "sorted" = none) (ha : PA X [e] (rA g W ms)) (hg : Gl X "sorted" := by rfl) (he : starEach [e] X.env = (false, eval e X.env) :: starEach [] X.env := by rfl) : PE X (.Call (.Name "sorted" p) [e] [] pos) (rE g W (eFnA (nA (d1 kSortedT)) ms)) := x_blt (by rw [← hK]; exact cr_sortedT) sortedT_op bt_sorted hm ha hg (by decide) (by decide) he rfl
end
end MM

set_option maxHeartbeats 2000000
namespace Ak02
open PySem PySem.Spec PyProof.Rows L2 MM

def top (i : Nat) : Stmt := PySem.Challenge.pw_anymodulus_k02_whole_lots_of_moduli.main.body.getD i (.Pass ⟨0, 0, 0, 0⟩)
def xb_BadModuli : Nat → Option Bool
  | 0 => some false
  | 1 => some true
  | _ => none
def tb_Moduli : Tag → Option Bool
  | .ty "NoneType" => some false
  | .ty "bool" => some false
  | .ty "int" => some false
  | .ty "str" => some false
  | .ty "tuple" => some false
  | .ty "list" => some false
  | .ty "dict" => some false
  | .cl 0 => some true
  | _ => none
def tb_bool : Tag → Option Bool
  | .ty "NoneType" => some false
  | .ty "bool" => some true
  | .ty "int" => some false
  | .ty "str" => some false
  | .ty "tuple" => some false
  | .ty "list" => some false
  | .ty "dict" => some false
  | .cl 0 => some false
  | _ => none
def tb_dict : Tag → Option Bool
  | .ty "NoneType" => some false
  | .ty "bool" => some false
  | .ty "int" => some false
  | .ty "str" => some false
  | .ty "tuple" => some false
  | .ty "list" => some false
  | .ty "dict" => some true
  | .cl 0 => some false
  | _ => none
def tb_int : Tag → Option Bool
  | .ty "NoneType" => some false
  | .ty "bool" => some true
  | .ty "int" => some true
  | .ty "str" => some false
  | .ty "tuple" => some false
  | .ty "list" => some false
  | .ty "dict" => some false
  | .cl 0 => some false
  | _ => none
def tb_list : Tag → Option Bool
  | .ty "NoneType" => some false
  | .ty "bool" => some false
  | .ty "int" => some false
  | .ty "str" => some false
  | .ty "tuple" => some false
  | .ty "list" => some true
  | .ty "dict" => some false
  | .cl 0 => some false
  | _ => none
def tb_str : Tag → Option Bool
  | .ty "NoneType" => some false
  | .ty "bool" => some false
  | .ty "int" => some false
  | .ty "str" => some true
  | .ty "tuple" => some false
  | .ty "list" => some false
  | .ty "dict" => some false
  | .cl 0 => some false
  | _ => none
def tb_tuple : Tag → Option Bool
  | .ty "NoneType" => some false
  | .ty "bool" => some false
  | .ty "int" => some false
  | .ty "str" => some false
  | .ty "tuple" => some true
  | .ty "list" => some false
  | .ty "dict" => some false
  | .cl 0 => some false
  | _ => none
def frees : List Str := ["abs", "all", "any", "bool", "dict", "int", "isinstance", "len", "list", "range", "sorted", "str", "tuple"]
def nas : List (Nat × Str) := [(0, "numbers")]
structure TX (g : G) (mg : Str → Option Value) : Prop where
  fr : ∀ x, x ∈ frees → mg x = none
  cl : ∀ c, c < 1 → ClsF g c
  na_ : ∀ p, p ∈ nas → NoAttr g.K (g.C p.1) p.2
  xm_BadModuli : ∀ c b, xb_BadModuli c = some b → PySem.W.exmOne g.K (.ref (g.X c)) (.ref (g.X 1)) = some b
  em_BadModuli : mg "BadModuli" = some (.ref (g.X 1))
  ex_BadModuli : ExcF g mg "BadModuli" 1
  isi_Moduli : IsiF g (.cl 0) tb_Moduli
  isi_bool : IsiF g (.ty "bool") tb_bool
  isi_dict : IsiF g (.ty "dict") tb_dict
  isi_int : IsiF g (.ty "int") tb_int
  isi_list : IsiF g (.ty "list") tb_list
  isi_str : IsiF g (.ty "str") tb_str
  isi_tuple : IsiF g (.ty "tuple") tb_tuple
  cm_Moduli : mg "Moduli" = some (.ref (g.C 0))
theorem TX.free {g : G} {mg : Str → Option Value} (T : TX g mg) (x : Str) (h : frees.contains x = true) : mg x = none := T.fr x (by simpa using h)
theorem TX.na {g : G} {mg : Str → Option Value} (T : TX g mg) (c : Nat) (f : Str) (h : (c, f) ∈ nas) : NoAttr g.K (g.C c) f := T.na_ (c, f) h
/-! ### _law_begin -/
abbrev st__law_begin : Stmt := top 11
abbrev N__law_begin : List Str := ["_law_script"]
theorem sc__law_begin : FnScope N__law_begin ["_law_script"] (defScope st__law_begin) := ⟨rfl, rfl, rfl, by decide +kernel, rfl, by decide +kernel, by decide +kernel⟩
def m__law_begin (n : Nat) : SDen :=
    sRet (eLst (aCons (eFnA (nA (d1 kList)) (aCons (eVar 0) (aNil))) (aCons (eC (.int 0)) (aCons (eC (.int 0)) (aCons (eC (.int 7)) (aNil))))))
def r__law_begin (n : Nat) : List D → Res (P × D) := runV 1 (m__law_begin n)
theorem ok__law_begin {P : Program} {w : World} {g : G} {mg : Str → Option Value} {base : Heap} {f : Addr} {fd : FuncData} (F : L2.Fun g.K "_law_begin" "_law_begin" st__law_begin f fd) (T : TX g mg)  : FnOk P w g.K mg base (L2.CX P w) 1 f fd ["_law_script"] (spF g 1 r__law_begin) :=
  def_val F sc__law_begin m__law_begin fun n cdv A outer s H E hr => by
    have tk : Takes (cxOf (L2.CX P w) P w g.K mg base N__law_begin "_law_begin" (defScope st__law_begin) f cdv A outer s H E) (WD E) := takes_of rfl rfl rfl rfl
    have po : PassesOwn (model P w) (cxOf (L2.CX P w) P w g.K mg base N__law_begin "_law_begin" (defScope st__law_begin) f cdv A outer s H E).A (cxOf (L2.CX P w) P w g.K mg base N__law_begin "_law_begin" (defScope st__law_begin) f cdv A outer s H E).env (cxOf (L2.CX P w) P w g.K mg base N__law_begin "_law_begin" (defScope st__law_begin) f cdv A outer s H E).xe := passes_of rfl
    have nd : N__law_begin.Nodup := sc__law_begin.nd
    exact (show PSs (cxOf (L2.CX P w) P w g.K mg base N__law_begin "_law_begin" (defScope st__law_begin) f cdv A outer s H E) (defBody st__law_begin) (rS g (WD E) (m__law_begin n)) from
    ss_one (s_ret (x_lst (a_cons (x_listF rfl rfl (T.free "list" rfl) (a_cons (x_var 0) (a_nil))) (a_cons (x_int) (a_cons (x_int) (a_cons (x_int) (a_nil))))))))
/-! ### _law_draw -/
abbrev st__law_draw : Stmt := top 12
abbrev N__law_draw : List Str := ["_law_draws", "_law_size", "_law_cell", "_law_found"]
theorem sc__law_draw : FnScope N__law_draw ["_law_draws", "_law_size"] (defScope st__law_draw) := ⟨rfl, rfl, rfl, by decide +kernel, rfl, by decide +kernel, by decide +kernel⟩
def m__law_draw (n : Nat) : SDen :=
    sSeq (sIf (tst (eEq (eIx (eVar 0) (eC (.int 2))) (eC (.int 0)))) (sIf (tst (eLt (eIx (eVar 0) (eC (.int 1))) (eFnA (fA (d1 kLen)) (aCons (eIx (eVar 0) (eC (.int 0))) (aNil))))) (sSeq (sAsg (eIx (eIx (eVar 0) (eC (.int 0))) (eIx (eVar 0) (eC (.int 1)))) (asg 2))
    (sSeq (sPut 0 (eC (.int 1)) (eAdd (eIx (eVar 0) (eC (.int 1))) (eC (.int 1))))
    (sIf (tst (eGe (eVar 2) (ePow (eC (.int 10)) (eC (.int 18))))) (sPut 0 (eC (.int 2)) (eVar 2)) (sPut 0 (eC (.int 3)) (eMod (eFnA (fA (d1 kInt)) (aCons (eAdd (eAdd (eMul (eIx (eVar 0) (eC (.int 3))) (eC (.int 48271))) (eMul (eVar 2) (eC (.int 69621)))) (eC (.int 11))) (aNil))) (eC (.int 2147483647))))))) (sPut 0 (eC (.int 3)) (eMod (eFnA (fA (d1 kInt)) (aCons (eAdd (eMul (eIx (eVar 0) (eC (.int 3))) (eC (.int 48271))) (eC (.int 7))) (aNil))) (eC (.int 2147483647))))) (sNx))
    (sSeq (sIf (tst (eGt (eIx (eVar 0) (eC (.int 2))) (eC (.int 0)))) (sSeq (sAsg (eMod (eFnA (fA (d1 kInt)) (aCons (eIx (eVar 0) (eC (.int 2))) (aNil))) (eVar 1)) (asg 3))
    (sSeq (sPut 0 (eC (.int 2)) (eDiv (eIx (eVar 0) (eC (.int 2))) (eVar 1)))
    (sRet (eVar 3)))) (sNx))
    (sRet (eMod (eMod (eFnA (fA (d1 kInt)) (aCons (eMul (eIx (eVar 0) (eC (.int 3))) (eC (.int 16807))) (aNil))) (eC (.int 2147483629))) (eVar 1))))
def r__law_draw (n : Nat) : List D → Res (P × D) := runI 4 (m__law_draw n)
theorem ok__law_draw {P : Program} {w : World} {g : G} {mg : Str → Option Value} {base : Heap} {f : Addr} {fd : FuncData} (F : L2.Fun g.K "_law_draw" "_law_draw" st__law_draw f fd) (T : TX g mg)  : FnOk P w g.K mg base (L2.CX P w) 1 f fd ["_law_draws", "_law_size"] (spJ g 2 r__law_draw) :=
  def_io F sc__law_draw m__law_draw fun n cdv A outer s H E hr => by
    have tk : Takes (cxOf (L2.CX P w) P w g.K mg base N__law_draw "_law_draw" (defScope st__law_draw) f cdv A outer s H E) (WD E) := takes_of rfl rfl rfl rfl
    have po : PassesOwn (model P w) (cxOf (L2.CX P w) P w g.K mg base N__law_draw "_law_draw" (defScope st__law_draw) f cdv A outer s H E).A (cxOf (L2.CX P w) P w g.K mg base N__law_draw "_law_draw" (defScope st__law_draw) f cdv A outer s H E).env (cxOf (L2.CX P w) P w g.K mg base N__law_draw "_law_draw" (defScope st__law_draw) f cdv A outer s H E).xe := passes_of rfl
    have nd : N__law_draw.Nodup := sc__law_draw.nd
    exact (show PSs (cxOf (L2.CX P w) P w g.K mg base N__law_draw "_law_draw" (defScope st__law_draw) f cdv A outer s H E) (defBody st__law_draw) (rS g (WD E) (m__law_draw n)) from
    ss_cons (s_if (t_eq (x_ix rfl (x_var 0) (x_int)) (x_int)) (ss_one (s_if (t_lt (x_ix rfl (x_var 0) (x_int)) (x_len rfl (T.free "len" rfl) (a_cons (x_ix rfl (x_var 0) (x_int)) (a_nil)))) (ss_cons (s_set 2 nd (x_ix rfl (x_ix rfl (x_var 0) (x_int)) (x_ix rfl (x_var 0) (x_int))))
    (ss_cons (s_put 0 (hu1 hr) (x_int) (x_add (x_ix rfl (x_var 0) (x_int)) (x_int)))
    (ss_one (s_if (t_ge (x_var 2) (x_pow (x_int) (x_int))) (ss_one (s_put 0 (hu1 hr) (x_int) (x_var 2))) (ss_one (s_put 0 (hu1 hr) (x_int) (x_mod (x_intF (T.free "int" rfl) (a_cons (x_add (x_add (x_mul (x_ix rfl (x_var 0) (x_int)) (x_int)) (x_mul (x_var 2) (x_int))) (x_int)) (a_nil))) (x_int)))))))) (ss_one (s_put 0 (hu1 hr) (x_int) (x_mod (x_intF (T.free "int" rfl) (a_cons (x_add (x_mul (x_ix rfl (x_var 0) (x_int)) (x_int)) (x_int)) (a_nil))) (x_int)))))) (ss_nil))
    (ss_cons (s_if (t_gt (x_ix rfl (x_var 0) (x_int)) (x_int)) (ss_cons (s_set 3 nd (x_mod (x_intF (T.free "int" rfl) (a_cons (x_ix rfl (x_var 0) (x_int)) (a_nil))) (x_var 1)))
    (ss_cons (s_put 0 (hu1 hr) (x_int) (x_div (x_ix rfl (x_var 0) (x_int)) (x_var 1)))
    (ss_one (s_ret (x_var 3))))) (ss_nil))
    (ss_one (s_ret (x_mod (x_mod (x_intF (T.free "int" rfl) (a_cons (x_mul (x_ix rfl (x_var 0) (x_int)) (x_int)) (a_nil))) (x_int)) (x_var 1))))))
/-! ### _law_numbers -/
abbrev st__law_numbers : Stmt := top 14
abbrev N__law_numbers : List Str := ["_law_draws", "_law_some", "_law_k"]
theorem sc__law_numbers : FnScope N__law_numbers ["_law_draws"] (defScope st__law_numbers) := ⟨rfl, rfl, rfl, by decide +kernel, rfl, by decide +kernel, by decide +kernel⟩
def m__law_numbers (n : Nat) : SDen :=
    sSeq (sAsg (eLst (aCons (eC (.int 0)) (aCons (eC (.int 1)) (aCons (eC (.int 2)) (aCons (eC (.int 3)) (aCons (eC (.int 4)) (aCons (eC (.int 6)) (aCons (eC (.int 8)) (aCons (eC (.int 9)) (aCons (eC (.int 12)) (aCons (eC (.int 18)) (aCons (eC (.int 30)) (aCons (eC (.int 36)) (aCons (eC (.int 60)) (aCons (eC (.int 77)) (aCons (eC (.int 210)) (aCons (eC (.int 64)) (aNil)))))))))))))))))) (asg 1))
    (sRet (eLc [2] (iR1 (aCons (eCallI 2 0 (r__law_draw n) (aCons (eC (.int 5)) (aNil))) (aNil))) (asg 2) (tYs) (eIx (eVar 1) (eCallI 2 0 (r__law_draw n) (aCons (eFnA (fA (d1 kLen)) (aCons (eVar 1) (aNil))) (aNil))))))
def r__law_numbers (n : Nat) : List D → Res (P × D) := runI 3 (m__law_numbers n)
theorem ok__law_numbers {P : Program} {w : World} {g : G} {mg : Str → Option Value} {base : Heap} {f : Addr} {fd : FuncData} (F : L2.Fun g.K "_law_numbers" "_law_numbers" st__law_numbers f fd) (T : TX g mg) (c__law_draw : CalF P w g.K mg base "_law_draw" 2 1 (spJ g 2 r__law_draw)) : FnOk P w g.K mg base (L2.CX P w) 2 f fd ["_law_draws"] (spJ g 1 r__law_numbers) :=
  def_io F sc__law_numbers m__law_numbers fun n cdv A outer s H E hr => by
    have tk : Takes (cxOf (L2.CX P w) P w g.K mg base N__law_numbers "_law_numbers" (defScope st__law_numbers) f cdv A outer s H E) (WD E) := takes_of rfl rfl rfl rfl
    have po : PassesOwn (model P w) (cxOf (L2.CX P w) P w g.K mg base N__law_numbers "_law_numbers" (defScope st__law_numbers) f cdv A outer s H E).A (cxOf (L2.CX P w) P w g.K mg base N__law_numbers "_law_numbers" (defScope st__law_numbers) f cdv A outer s H E).env (cxOf (L2.CX P w) P w g.K mg base N__law_numbers "_law_numbers" (defScope st__law_numbers) f cdv A outer s H E).xe := passes_of rfl
    have nd : N__law_numbers.Nodup := sc__law_numbers.nd
    exact (show PSs (cxOf (L2.CX P w) P w g.K mg base N__law_numbers "_law_numbers" (defScope st__law_numbers) f cdv A outer s H E) (defBody st__law_numbers) (rS g (WD E) (m__law_numbers n)) from
    ss_cons (s_set 1 nd (x_lst (a_cons (x_int) (a_cons (x_int) (a_cons (x_int) (a_cons (x_int) (a_cons (x_int) (a_cons (x_int) (a_cons (x_int) (a_cons (x_int) (a_cons (x_int) (a_cons (x_int) (a_cons (x_int) (a_cons (x_int) (a_cons (x_int) (a_cons (x_int) (a_cons (x_int) (a_cons (x_int) (a_nil)))))))))))))))))))
    (ss_one (s_ret (x_lc (own := [("_law_k", 2)]) rfl nd (i_r1 (T.free "range" rfl) (a_cons (x_callI 0 c__law_draw n (hr.mono (by omega)) tk (a_cons (x_int) (a_nil))) (a_nil))) (asg_u 2) (by decide) (blkOk_by (by kernel_rfl)) (fun _ _ _ _ _ => pg_name (i := 2) nd rfl (by first | exact Or.inl rfl | exact Or.inr rfl)) (fun _ _ _ _ _ => pts_yes) (fun _ _ _ _ _ => x_ix rfl (x_var 1) (x_callI 0 c__law_draw n (hr.mono (by omega)) lets0 (a_cons (x_len rfl (T.free "len" rfl) (a_cons (x_var 1) (a_nil))) (a_nil))))))))
/-! ### is_whole -/
abbrev st_is_whole : Stmt := top 4
abbrev N_is_whole : List Str := ["thing"]
theorem sc_is_whole : FnScope N_is_whole ["thing"] (defScope st_is_whole) := ⟨rfl, rfl, rfl, by decide +kernel, rfl, by decide +kernel, by decide +kernel⟩
def m_is_whole (n : Nat) : SDen :=
    sRet (eAn (eIsi tb_int (eVar 0)) (eNo (eIsi tb_bool (eVar 0))))
def r_is_whole (n : Nat) : List D → Res (P × D) := runV 1 (m_is_whole n)
theorem ok_is_whole {P : Program} {w : World} {g : G} {mg : Str → Option Value} {base : Heap} {f : Addr} {fd : FuncData} (F : L2.Fun g.K "is_whole" "is_whole" st_is_whole f fd) (T : TX g mg)  : FnOk P w g.K mg base (L2.CX P w) 1 f fd ["thing"] (spF g 1 r_is_whole) :=
  def_val F sc_is_whole m_is_whole fun n cdv A outer s H E hr => by
    have tk : Takes (cxOf (L2.CX P w) P w g.K mg base N_is_whole "is_whole" (defScope st_is_whole) f cdv A outer s H E) (WD E) := takes_of rfl rfl rfl rfl
    have po : PassesOwn (model P w) (cxOf (L2.CX P w) P w g.K mg base N_is_whole "is_whole" (defScope st_is_whole) f cdv A outer s H E).A (cxOf (L2.CX P w) P w g.K mg base N_is_whole "is_whole" (defScope st_is_whole) f cdv A outer s H E).env (cxOf (L2.CX P w) P w g.K mg base N_is_whole "is_whole" (defScope st_is_whole) f cdv A outer s H E).xe := passes_of rfl
    have nd : N_is_whole.Nodup := sc_is_whole.nd
    exact (show PSs (cxOf (L2.CX P w) P w g.K mg base N_is_whole "is_whole" (defScope st_is_whole) f cdv A outer s H E) (defBody st_is_whole) (rS g (WD E) (m_is_whole n)) from
    ss_one (s_ret (x_and (x_isiT T.isi_int rfl (T.free "isinstance" rfl) bt_isinstance (T.free "int" rfl) bt_int (x_var 0)) (x_one (x_not (x_isiT T.isi_bool rfl (T.free "isinstance" rfl) bt_isinstance (T.free "bool" rfl) bt_bool (x_var 0)))))))
/-! ### divides -/
abbrev st_divides : Stmt := top 7
abbrev N_divides : List Str := ["one", "other"]
theorem sc_divides : FnScope N_divides ["one", "other"] (defScope st_divides) := ⟨rfl, rfl, rfl, by decide +kernel, rfl, by decide +kernel, by decide +kernel⟩
def m_divides (n : Nat) : SDen :=
    sRet (eO (eEq (eVar 1) (eC (.int 0))) (eAn (eNe (eVar 0) (eC (.int 0))) (eEq (eMod (eVar 1) (eVar 0)) (eC (.int 0)))))
def r_divides (n : Nat) : List D → Res (P × D) := runV 2 (m_divides n)
theorem ok_divides {P : Program} {w : World} {g : G} {mg : Str → Option Value} {base : Heap} {f : Addr} {fd : FuncData} (F : L2.Fun g.K "divides" "divides" st_divides f fd) (T : TX g mg)  : FnOk P w g.K mg base (L2.CX P w) 1 f fd ["one", "other"] (spF g 2 r_divides) :=
  def_val F sc_divides m_divides fun n cdv A outer s H E hr => by
    have tk : Takes (cxOf (L2.CX P w) P w g.K mg base N_divides "divides" (defScope st_divides) f cdv A outer s H E) (WD E) := takes_of rfl rfl rfl rfl
    have po : PassesOwn (model P w) (cxOf (L2.CX P w) P w g.K mg base N_divides "divides" (defScope st_divides) f cdv A outer s H E).A (cxOf (L2.CX P w) P w g.K mg base N_divides "divides" (defScope st_divides) f cdv A outer s H E).env (cxOf (L2.CX P w) P w g.K mg base N_divides "divides" (defScope st_divides) f cdv A outer s H E).xe := passes_of rfl
    have nd : N_divides.Nodup := sc_divides.nd
    exact (show PSs (cxOf (L2.CX P w) P w g.K mg base N_divides "divides" (defScope st_divides) f cdv A outer s H E) (defBody st_divides) (rS g (WD E) (m_divides n)) from
    ss_one (s_ret (x_or (x_eq (x_var 1) (x_int)) (x_one (x_and (x_ne (x_var 0) (x_int)) (x_one (x_eq (x_mod (x_var 1) (x_var 0)) (x_int))))))))
/-! ### greatest_ones -/
abbrev st_greatest_ones : Stmt := top 8
abbrev N_greatest_ones : List Str := ["numbers", "found", "some", "number", "one", "other"]
theorem sc_greatest_ones : FnScope N_greatest_ones ["numbers"] (defScope st_greatest_ones) := ⟨rfl, rfl, rfl, by decide +kernel, rfl, by decide +kernel, by decide +kernel⟩
def m_greatest_ones (n : Nat) : SDen :=
    sSeq (sAsg (eLst (aNil)) (asg 1))
    (sSeq (sAsg (eFnA (nA (d1 kSorted)) (aCons (eDc [3] (iL (eVar 0)) (asg 3) (tYs) (eVar 3) (eC (.bl true))) (aNil))) (asg 2))
    (sSeq (sFor (iL (eVar 2)) (asg 4) (sIf (tNo (tst (eFnA (fA (d1 kAny)) (aCons (eLc [5] (iL (eVar 2)) (asg 5) (tYs) (eAn (eCall 2 (r_divides n) (aCons (eVar 4) (aCons (eVar 5) (aNil)))) (eNe (eVar 4) (eVar 5)))) (aNil))))) (sDrop (eApp 1 (eVar 4))) (sNx)))
    (sRet (eFnA (fA (d1 kTuple)) (aCons (eVar 1) (aNil))))))
def r_greatest_ones (n : Nat) : List D → Res (P × D) := runV 6 (m_greatest_ones n)
theorem ok_greatest_ones {P : Program} {w : World} {g : G} {mg : Str → Option Value} {base : Heap} {f : Addr} {fd : FuncData} (F : L2.Fun g.K "greatest_ones" "greatest_ones" st_greatest_ones f fd) (T : TX g mg) (c_divides : CalF P w g.K mg base "divides" 2 1 (spF g 2 r_divides)) : FnOk P w g.K mg base (L2.CX P w) 2 f fd ["numbers"] (spF g 1 r_greatest_ones) :=
  def_val F sc_greatest_ones m_greatest_ones fun n cdv A outer s H E hr => by
    have tk : Takes (cxOf (L2.CX P w) P w g.K mg base N_greatest_ones "greatest_ones" (defScope st_greatest_ones) f cdv A outer s H E) (WD E) := takes_of rfl rfl rfl rfl
    have po : PassesOwn (model P w) (cxOf (L2.CX P w) P w g.K mg base N_greatest_ones "greatest_ones" (defScope st_greatest_ones) f cdv A outer s H E).A (cxOf (L2.CX P w) P w g.K mg base N_greatest_ones "greatest_ones" (defScope st_greatest_ones) f cdv A outer s H E).env (cxOf (L2.CX P w) P w g.K mg base N_greatest_ones "greatest_ones" (defScope st_greatest_ones) f cdv A outer s H E).xe := passes_of rfl
    have nd : N_greatest_ones.Nodup := sc_greatest_ones.nd
    exact (show PSs (cxOf (L2.CX P w) P w g.K mg base N_greatest_ones "greatest_ones" (defScope st_greatest_ones) f cdv A outer s H E) (defBody st_greatest_ones) (rS g (WD E) (m_greatest_ones n)) from
    ss_cons (s_set 1 nd (x_lst (a_nil)))
    (ss_cons (s_set 2 nd (x_sorted rfl rfl (T.free "sorted" rfl) (a_cons (x_dc (own := [("number", 3)]) rfl nd (i_list rfl (x_var 0)) (asg_u 3) (by decide) (blkOk_by (by kernel_rfl)) (fun _ _ _ _ _ => pg_name (i := 3) nd rfl (by first | exact Or.inl rfl | exact Or.inr rfl)) (fun _ _ _ _ _ => pts_yes) (fun _ _ _ _ _ => x_var 3) (fun _ _ _ _ _ => x_bl)) (a_nil))))
    (ss_cons (s_for (po) rfl (BdU.bd (asg_u 4)) (i_list rfl (x_var 2)) (pg_name (i := 4) nd rfl (by first | exact Or.inl rfl | exact Or.inr rfl)) (ss_one (s_if (t_not (t_val (x_any rfl rfl (T.free "any" rfl) (a_cons (x_lc (own := [("other", 5)]) rfl nd (i_list rfl (x_var 2)) (asg_u 5) (by decide) (blkOk_by (by kernel_rfl)) (fun _ _ _ _ _ => pg_name (i := 5) nd rfl (by first | exact Or.inl rfl | exact Or.inr rfl)) (fun _ _ _ _ _ => pts_yes) (fun _ _ _ _ _ => x_and (x_call c_divides n (hr.mono (by omega)) lets0 (a_cons (x_var 4) (a_cons (x_var 5) (a_nil)))) (x_one (x_ne (x_var 4) (x_var 5))))) (a_nil))))) (ss_one (s_expr (x_app 1 (x_var 4)))) (ss_nil))))
    (ss_one (s_ret (x_tupleF rfl (T.free "tuple" rfl) (a_cons (x_var 1) (a_nil))))))))
/-! ### Moduli.__init__ -/
abbrev st_Moduli__init_ : Stmt := inClass (top 9) 0
abbrev N_Moduli__init_ : List Str := ["self", "numbers", "one"]
theorem sc_Moduli__init_ : FnScope N_Moduli__init_ ["self", "numbers"] (defScope st_Moduli__init_) := ⟨rfl, rfl, rfl, by decide +kernel, rfl, by decide +kernel, by decide +kernel⟩
def m_Moduli__init_ (n : Nat) : SDen :=
    sSeq (sIf (tO (tNo (tst (eIsi tb_list (eVar 1)))) (tNo (tst (eFnA (fA (d1 kAll)) (aCons (eLc [2] (iL (eVar 1)) (asg 2) (tYs) (eAn (eCall 1 (r_is_whole n) (aCons (eVar 2) (aNil))) (eGe (eVar 2) (eC (.int 0))))) (aNil)))))) (sRaise 1) (sNx))
    (sFldM 0 0 "numbers" (eCall 1 (r_greatest_ones n) (aCons (eVar 1) (aNil))))
def r_Moduli__init_ (n : Nat) : List D → Res (P × D) := runI 3 (m_Moduli__init_ n)
theorem ok_Moduli__init_ {P : Program} {w : World} {g : G} {mg : Str → Option Value} {base : Heap} {f : Addr} {fd : FuncData} (F : L2.Fun g.K "__init__" "Moduli.__init__" st_Moduli__init_ f fd) (T : TX g mg) (c_is_whole : CalF P w g.K mg base "is_whole" 1 1 (spF g 1 r_is_whole)) (c_greatest_ones : CalF P w g.K mg base "greatest_ones" 1 2 (spF g 1 r_greatest_ones)) : FnOk P w g.K mg base (L2.CX P w) 3 f fd ["self", "numbers"] (spJ g 2 r_Moduli__init_) :=
  def_io F sc_Moduli__init_ m_Moduli__init_ fun n cdv A outer s H E hr => by
    have tk : Takes (cxOf (L2.CX P w) P w g.K mg base N_Moduli__init_ "Moduli.__init__" (defScope st_Moduli__init_) f cdv A outer s H E) (WD E) := takes_of rfl rfl rfl rfl
    have po : PassesOwn (model P w) (cxOf (L2.CX P w) P w g.K mg base N_Moduli__init_ "Moduli.__init__" (defScope st_Moduli__init_) f cdv A outer s H E).A (cxOf (L2.CX P w) P w g.K mg base N_Moduli__init_ "Moduli.__init__" (defScope st_Moduli__init_) f cdv A outer s H E).env (cxOf (L2.CX P w) P w g.K mg base N_Moduli__init_ "Moduli.__init__" (defScope st_Moduli__init_) f cdv A outer s H E).xe := passes_of rfl
    have nd : N_Moduli__init_.Nodup := sc_Moduli__init_.nd
    exact (show PSs (cxOf (L2.CX P w) P w g.K mg base N_Moduli__init_ "Moduli.__init__" (defScope st_Moduli__init_) f cdv A outer s H E) (defBody st_Moduli__init_) (rS g (WD E) (m_Moduli__init_ n)) from
    ss_cons (s_if ((t_or (t_not (t_val (x_isiT T.isi_list rfl (T.free "isinstance" rfl) bt_isinstance (T.free "list" rfl) bt_list (x_var 1)))) (t_or1 (t_not (t_val (x_all rfl rfl (T.free "all" rfl) (a_cons (x_lc (own := [("one", 2)]) rfl nd (i_list rfl (x_var 1)) (asg_u 2) (by decide) (blkOk_by (by kernel_rfl)) (fun _ _ _ _ _ => pg_name (i := 2) nd rfl (by first | exact Or.inl rfl | exact Or.inr rfl)) (fun _ _ _ _ _ => pts_yes) (fun _ _ _ _ _ => x_and (x_call c_is_whole n (hr.mono (by omega)) lets0 (a_cons (x_var 2) (a_nil))) (x_one (x_ge (x_var 2) (x_int))))) (a_nil))))))).pt) (ss_one (s_raise rfl rfl tk T.ex_BadModuli)) (ss_nil))
    (ss_one (s_fld 0 0 rfl (T.cl 0 (by decide)).cl (T.na 0 "numbers" (by decide)) (x_call c_greatest_ones n (hr.mono (by omega)) tk (a_cons (x_var 1) (a_nil))))))
/-! ### Moduli.__or__ -/
abbrev st_Moduli__or_ : Stmt := inClass (top 9) 4
abbrev N_Moduli__or_ : List Str := ["self", "other"]
theorem sc_Moduli__or_ : FnScope N_Moduli__or_ ["self", "other"] (defScope st_Moduli__or_) := ⟨rfl, rfl, rfl, by decide +kernel, rfl, by decide +kernel, by decide +kernel⟩
def m_Moduli__or_ (n : Nat) : SDen :=
    sRet (eMake 0 2 (r_Moduli__init_ n) (aCons (eFnA (nA (d1 kList)) (aCons (eCatT (eFld 0 "numbers" (eVar 0)) (eFld 0 "numbers" (eVar 1))) (aNil))) (aNil)))
def r_Moduli__or_ (n : Nat) : List D → Res (P × D) := runV 2 (m_Moduli__or_ n)
theorem ok_Moduli__or_ {P : Program} {w : World} {g : G} {mg : Str → Option Value} {base : Heap} {f : Addr} {fd : FuncData} (F : L2.Fun g.K "__or__" "Moduli.__or__" st_Moduli__or_ f fd) (T : TX g mg) (c_Moduli__init_ : CalC P w g.K mg base (g.C 0) "Moduli" 2 3 (spJ g 2 r_Moduli__init_)) : FnOk P w g.K mg base (L2.CX P w) 5 f fd ["self", "other"] (spF g 2 r_Moduli__or_) :=
  def_val F sc_Moduli__or_ m_Moduli__or_ fun n cdv A outer s H E hr => by
    have tk : Takes (cxOf (L2.CX P w) P w g.K mg base N_Moduli__or_ "Moduli.__or__" (defScope st_Moduli__or_) f cdv A outer s H E) (WD E) := takes_of rfl rfl rfl rfl
    have po : PassesOwn (model P w) (cxOf (L2.CX P w) P w g.K mg base N_Moduli__or_ "Moduli.__or__" (defScope st_Moduli__or_) f cdv A outer s H E).A (cxOf (L2.CX P w) P w g.K mg base N_Moduli__or_ "Moduli.__or__" (defScope st_Moduli__or_) f cdv A outer s H E).env (cxOf (L2.CX P w) P w g.K mg base N_Moduli__or_ "Moduli.__or__" (defScope st_Moduli__or_) f cdv A outer s H E).xe := passes_of rfl
    have nd : N_Moduli__or_.Nodup := sc_Moduli__or_.nd
    exact (show PSs (cxOf (L2.CX P w) P w g.K mg base N_Moduli__or_ "Moduli.__or__" (defScope st_Moduli__or_) f cdv A outer s H E) (defBody st_Moduli__or_) (rS g (WD E) (m_Moduli__or_ n)) from
    ss_one (s_ret (x_make 0 c_Moduli__init_ n (hr.mono (by omega)) tk (a_cons (x_listF rfl rfl (T.free "list" rfl) (a_cons (x_catT rfl (x_fld 0 rfl (T.cl 0 (by decide)).cl (T.na 0 "numbers" (by decide)) (x_var 0)) (x_fld 0 rfl (T.cl 0 (by decide)).cl (T.na 0 "numbers" (by decide)) (x_var 1))) (a_nil))) (a_nil)))))
/-! ### common -/
abbrev st_common : Stmt := top 5
abbrev N_common : List Str := ["one", "other"]
theorem sc_common : FnScope N_common ["one", "other"] (defScope st_common) := ⟨rfl, rfl, rfl, by decide +kernel, rfl, by decide +kernel, by decide +kernel⟩
def m_common (n : Nat) : SDen :=
    sSeq (sPar 0 1 (aCons (eFnA (fA (d1 kAbs)) (aCons (eVar 0) (aNil))) (aCons (eFnA (fA (d1 kAbs)) (aCons (eVar 1) (aNil))) (aNil))))
    (sSeq (sWhile n (tTr (eVar 1)) (sPar 0 1 (aCons (eVar 1) (aCons (eMod (eVar 0) (eVar 1)) (aNil)))))
    (sRet (eVar 0)))
def r_common (n : Nat) : List D → Res (P × D) := runV 2 (m_common n)
theorem ok_common {P : Program} {w : World} {g : G} {mg : Str → Option Value} {base : Heap} {f : Addr} {fd : FuncData} (F : L2.Fun g.K "common" "common" st_common f fd) (T : TX g mg)  : FnOk P w g.K mg base (L2.CX P w) 1 f fd ["one", "other"] (spF g 2 r_common) :=
  def_val F sc_common m_common fun n cdv A outer s H E hr => by
    have tk : Takes (cxOf (L2.CX P w) P w g.K mg base N_common "common" (defScope st_common) f cdv A outer s H E) (WD E) := takes_of rfl rfl rfl rfl
    have po : PassesOwn (model P w) (cxOf (L2.CX P w) P w g.K mg base N_common "common" (defScope st_common) f cdv A outer s H E).A (cxOf (L2.CX P w) P w g.K mg base N_common "common" (defScope st_common) f cdv A outer s H E).env (cxOf (L2.CX P w) P w g.K mg base N_common "common" (defScope st_common) f cdv A outer s H E).xe := passes_of rfl
    have nd : N_common.Nodup := sc_common.nd
    exact (show PSs (cxOf (L2.CX P w) P w g.K mg base N_common "common" (defScope st_common) f cdv A outer s H E) (defBody st_common) (rS g (WD E) (m_common n)) from
    ss_cons (s_par (i := 0) (j := 1) rfl nd (a_cons (x_abs (T.free "abs" rfl) (a_cons (x_var 0) (a_nil))) (a_cons (x_abs (T.free "abs" rfl) (a_cons (x_var 1) (a_nil))) (a_nil))))
    (ss_cons (s_while (po) (t_tru rfl (x_var 1)) (ss_one (s_par (i := 0) (j := 1) rfl nd (a_cons (x_var 1) (a_cons (x_mod (x_var 0) (x_var 1)) (a_nil))))))
    (ss_one (s_ret (x_var 0)))))
/-! ### Moduli.__and__ -/
abbrev st_Moduli__and_ : Stmt := inClass (top 9) 3
abbrev N_Moduli__and_ : List Str := ["self", "other", "one", "two"]
theorem sc_Moduli__and_ : FnScope N_Moduli__and_ ["self", "other"] (defScope st_Moduli__and_) := ⟨rfl, rfl, rfl, by decide +kernel, rfl, by decide +kernel, by decide +kernel⟩
def m_Moduli__and_ (n : Nat) : SDen :=
    sRet (eMake 0 2 (r_Moduli__init_ n) (aCons (eLc2 [2, 3] [3] (iT (eFld 0 "numbers" (eVar 0))) (asg 2) (tYs) (iT (eFld 0 "numbers" (eVar 1))) (asg 3) (tYs) (eCall 2 (r_common n) (aCons (eVar 2) (aCons (eVar 3) (aNil))))) (aNil)))
def r_Moduli__and_ (n : Nat) : List D → Res (P × D) := runV 4 (m_Moduli__and_ n)
theorem ok_Moduli__and_ {P : Program} {w : World} {g : G} {mg : Str → Option Value} {base : Heap} {f : Addr} {fd : FuncData} (F : L2.Fun g.K "__and__" "Moduli.__and__" st_Moduli__and_ f fd) (T : TX g mg) (c_Moduli__init_ : CalC P w g.K mg base (g.C 0) "Moduli" 2 3 (spJ g 2 r_Moduli__init_)) (c_common : CalF P w g.K mg base "common" 2 1 (spF g 2 r_common)) : FnOk P w g.K mg base (L2.CX P w) 5 f fd ["self", "other"] (spF g 2 r_Moduli__and_) :=
  def_val F sc_Moduli__and_ m_Moduli__and_ fun n cdv A outer s H E hr => by
    have tk : Takes (cxOf (L2.CX P w) P w g.K mg base N_Moduli__and_ "Moduli.__and__" (defScope st_Moduli__and_) f cdv A outer s H E) (WD E) := takes_of rfl rfl rfl rfl
    have po : PassesOwn (model P w) (cxOf (L2.CX P w) P w g.K mg base N_Moduli__and_ "Moduli.__and__" (defScope st_Moduli__and_) f cdv A outer s H E).A (cxOf (L2.CX P w) P w g.K mg base N_Moduli__and_ "Moduli.__and__" (defScope st_Moduli__and_) f cdv A outer s H E).env (cxOf (L2.CX P w) P w g.K mg base N_Moduli__and_ "Moduli.__and__" (defScope st_Moduli__and_) f cdv A outer s H E).xe := passes_of rfl
    have nd : N_Moduli__and_.Nodup := sc_Moduli__and_.nd
    exact (show PSs (cxOf (L2.CX P w) P w g.K mg base N_Moduli__and_ "Moduli.__and__" (defScope st_Moduli__and_) f cdv A outer s H E) (defBody st_Moduli__and_) (rS g (WD E) (m_Moduli__and_ n)) from
    ss_one (s_ret (x_make 0 c_Moduli__init_ n (hr.mono (by omega)) tk (a_cons (x_lc2 (own := [("one", 2), ("two", 3)]) (vs1 := [3]) rfl nd (i_tup rfl (x_fld 0 rfl (T.cl 0 (by decide)).cl (T.na 0 "numbers" (by decide)) (x_var 0))) (asg_u 2) (by decide) (asg_u 3) (by decide) (blkOk_by (by kernel_rfl)) (by decide) (fun _ _ _ _ _ => pg_name (i := 2) nd rfl (by first | exact Or.inl rfl | exact Or.inr rfl)) (fun _ _ _ _ _ => pts_yes) (fun _ _ _ _ _ => i_tup rfl (x_fld 0 rfl (T.cl 0 (by decide)).cl (T.na 0 "numbers" (by decide)) (x_var 1))) (fun _ _ _ _ _ => pg_name (i := 3) nd rfl (by first | exact Or.inl rfl | exact Or.inr rfl)) (fun _ _ _ _ _ => pts_yes) (fun _ _ _ _ _ => x_call c_common n (hr.mono (by omega)) lets0 (a_cons (x_var 2) (a_cons (x_var 3) (a_nil))))) (a_nil)))))
/-! ### _law_in -/
abbrev st__law_in : Stmt := top 15
abbrev N__law_in : List Str := ["_law_numbers_here", "_law_n", "_law_one"]
theorem sc__law_in : FnScope N__law_in ["_law_numbers_here", "_law_n"] (defScope st__law_in) := ⟨rfl, rfl, rfl, by decide +kernel, rfl, by decide +kernel, by decide +kernel⟩
def m__law_in (n : Nat) : SDen :=
    sRet (eGt (eFnA (fA (d1 kLen)) (aCons (eLc [2] (iL (eVar 0)) (asg 2) (tst (eEq (eMod (eVar 2) (eVar 1)) (eC (.int 0)))) (eVar 2)) (aNil))) (eC (.int 0)))
def r__law_in (n : Nat) : List D → Res (P × D) := runV 3 (m__law_in n)
theorem ok__law_in {P : Program} {w : World} {g : G} {mg : Str → Option Value} {base : Heap} {f : Addr} {fd : FuncData} (F : L2.Fun g.K "_law_in" "_law_in" st__law_in f fd) (T : TX g mg)  : FnOk P w g.K mg base (L2.CX P w) 1 f fd ["_law_numbers_here", "_law_n"] (spF g 2 r__law_in) :=
  def_val F sc__law_in m__law_in fun n cdv A outer s H E hr => by
    have tk : Takes (cxOf (L2.CX P w) P w g.K mg base N__law_in "_law_in" (defScope st__law_in) f cdv A outer s H E) (WD E) := takes_of rfl rfl rfl rfl
    have po : PassesOwn (model P w) (cxOf (L2.CX P w) P w g.K mg base N__law_in "_law_in" (defScope st__law_in) f cdv A outer s H E).A (cxOf (L2.CX P w) P w g.K mg base N__law_in "_law_in" (defScope st__law_in) f cdv A outer s H E).env (cxOf (L2.CX P w) P w g.K mg base N__law_in "_law_in" (defScope st__law_in) f cdv A outer s H E).xe := passes_of rfl
    have nd : N__law_in.Nodup := sc__law_in.nd
    exact (show PSs (cxOf (L2.CX P w) P w g.K mg base N__law_in "_law_in" (defScope st__law_in) f cdv A outer s H E) (defBody st__law_in) (rS g (WD E) (m__law_in n)) from
    ss_one (s_ret (x_gt (x_len rfl (T.free "len" rfl) (a_cons (x_lc (own := [("_law_one", 2)]) rfl nd (i_list rfl (x_var 0)) (asg_u 2) (by decide) (blkOk_by (by kernel_rfl)) (fun _ _ _ _ _ => pg_name (i := 2) nd rfl (by first | exact Or.inl rfl | exact Or.inr rfl)) (fun _ _ _ _ _ => pts_one (t_eq (x_mod (x_var 2) (x_var 1)) (x_int))) (fun _ _ _ _ _ => x_var 2)) (a_nil))) (x_int))))
/-! ### Moduli.__contains__ -/
abbrev st_Moduli__contains_ : Stmt := inClass (top 9) 2
abbrev N_Moduli__contains_ : List Str := ["self", "n", "one"]
theorem sc_Moduli__contains_ : FnScope N_Moduli__contains_ ["self", "n"] (defScope st_Moduli__contains_) := ⟨rfl, rfl, rfl, by decide +kernel, rfl, by decide +kernel, by decide +kernel⟩
def m_Moduli__contains_ (n : Nat) : SDen :=
    sRet (eAn (eCall 1 (r_is_whole n) (aCons (eVar 1) (aNil))) (eAn (eGe (eVar 1) (eC (.int 1))) (eFnA (fA (d1 kAny)) (aCons (eLc [2] (iT (eFld 0 "numbers" (eVar 0))) (asg 2) (tYs) (eCall 2 (r_divides n) (aCons (eVar 1) (aCons (eVar 2) (aNil))))) (aNil)))))
def r_Moduli__contains_ (n : Nat) : List D → Res (P × D) := runV 3 (m_Moduli__contains_ n)
theorem ok_Moduli__contains_ {P : Program} {w : World} {g : G} {mg : Str → Option Value} {base : Heap} {f : Addr} {fd : FuncData} (F : L2.Fun g.K "__contains__" "Moduli.__contains__" st_Moduli__contains_ f fd) (T : TX g mg) (c_is_whole : CalF P w g.K mg base "is_whole" 1 1 (spF g 1 r_is_whole)) (c_divides : CalF P w g.K mg base "divides" 2 1 (spF g 2 r_divides)) : FnOk P w g.K mg base (L2.CX P w) 2 f fd ["self", "n"] (spF g 2 r_Moduli__contains_) :=
  def_val F sc_Moduli__contains_ m_Moduli__contains_ fun n cdv A outer s H E hr => by
    have tk : Takes (cxOf (L2.CX P w) P w g.K mg base N_Moduli__contains_ "Moduli.__contains__" (defScope st_Moduli__contains_) f cdv A outer s H E) (WD E) := takes_of rfl rfl rfl rfl
    have po : PassesOwn (model P w) (cxOf (L2.CX P w) P w g.K mg base N_Moduli__contains_ "Moduli.__contains__" (defScope st_Moduli__contains_) f cdv A outer s H E).A (cxOf (L2.CX P w) P w g.K mg base N_Moduli__contains_ "Moduli.__contains__" (defScope st_Moduli__contains_) f cdv A outer s H E).env (cxOf (L2.CX P w) P w g.K mg base N_Moduli__contains_ "Moduli.__contains__" (defScope st_Moduli__contains_) f cdv A outer s H E).xe := passes_of rfl
    have nd : N_Moduli__contains_.Nodup := sc_Moduli__contains_.nd
    exact (show PSs (cxOf (L2.CX P w) P w g.K mg base N_Moduli__contains_ "Moduli.__contains__" (defScope st_Moduli__contains_) f cdv A outer s H E) (defBody st_Moduli__contains_) (rS g (WD E) (m_Moduli__contains_ n)) from
    ss_one (s_ret (x_and (x_call c_is_whole n (hr.mono (by omega)) tk (a_cons (x_var 1) (a_nil))) (x_and (x_ge (x_var 1) (x_int)) (x_one (x_any rfl rfl (T.free "any" rfl) (a_cons (x_lc (own := [("one", 2)]) rfl nd (i_tup rfl (x_fld 0 rfl (T.cl 0 (by decide)).cl (T.na 0 "numbers" (by decide)) (x_var 0))) (asg_u 2) (by decide) (blkOk_by (by kernel_rfl)) (fun _ _ _ _ _ => pg_name (i := 2) nd rfl (by first | exact Or.inl rfl | exact Or.inr rfl)) (fun _ _ _ _ _ => pts_yes) (fun _ _ _ _ _ => x_call c_divides n (hr.mono (by omega)) lets0 (a_cons (x_var 1) (a_cons (x_var 2) (a_nil))))) (a_nil))))))))
/-! ### _law_like -/
abbrev st__law_like : Stmt := top 13
abbrev N__law_like : List Str := ["_law_actual", "_law_due", "_law_key", "_law_k"]
theorem sc__law_like : FnScope N__law_like ["_law_actual", "_law_due"] (defScope st__law_like) := ⟨rfl, rfl, rfl, by decide +kernel, rfl, by decide +kernel, by decide +kernel⟩
def m__law_like (n : Nat) (rs : List D → Res (P × D)) : SDen :=
    sSeq (sIf (tst (eIsi tb_dict (eVar 1))) (sSeq (sIf (tO (tNo (tst (eIsi tb_dict (eVar 0)))) (tst (eNeD (eFnA (nA (d1 kList)) (aCons (eVar 0) (aNil))) (eFnA (nA (d1 kList)) (aCons (eVar 1) (aNil)))))) (sRet (eC (.bl false))) (sNx))
    (sRet (eFnA (fA (d1 kAll)) (aCons (eLc [2] (iL (eVar 1)) (asg 2) (tYs) (eCall 2 rs (aCons (eIx (eVar 0) (eVar 2)) (aCons (eIx (eVar 1) (eVar 2)) (aNil))))) (aNil))))) (sNx))
    (sSeq (sIf (tst (eIs (eVar 1) (eC .non))) (sRet (eIs (eVar 0) (eC .non))) (sNx))
    (sSeq (sIf (tst (eIsi tb_bool (eVar 1))) (sRet (eAn (eIsi tb_bool (eVar 0)) (eEqD (eVar 0) (eVar 1)))) (sNx))
    (sSeq (sIf (tst (eIsi tb_int (eVar 1))) (sRet (eAn (eIsi tb_int (eVar 0)) (eAn (eNo (eIsi tb_bool (eVar 0))) (eEqD (eVar 0) (eVar 1))))) (sNx))
    (sSeq (sIf (tst (eIsi tb_str (eVar 1))) (sRet (eAn (eIsi tb_str (eVar 0)) (eEqD (eVar 0) (eVar 1)))) (sNx))
    (sSeq (sIf (tst (eIsi tb_tuple (eVar 1))) (sIf (tO (tNo (tst (eIsi tb_tuple (eVar 0)))) (tst (eNe (eFnA (fA (d1 kLen)) (aCons (eVar 0) (aNil))) (eFnA (fA (d1 kLen)) (aCons (eVar 1) (aNil)))))) (sRet (eC (.bl false))) (sNx)) (sIf (tO (tNo (tst (eIsi tb_list (eVar 0)))) (tst (eNe (eFnA (fA (d1 kLen)) (aCons (eVar 0) (aNil))) (eFnA (fA (d1 kLen)) (aCons (eVar 1) (aNil)))))) (sRet (eC (.bl false))) (sNx)))
    (sSeq (sFor (iR1 (aCons (eFnA (fA (d1 kLen)) (aCons (eVar 1) (aNil))) (aNil))) (asg 3) (sIf (tNo (tst (eCall 2 rs (aCons (eIx (eVar 0) (eVar 3)) (aCons (eIx (eVar 1) (eVar 3)) (aNil)))))) (sRet (eC (.bl false))) (sNx)))
    (sRet (eC (.bl true)))))))))
def rr__law_like : Nat → Nat → List D → Res (P × D)
  | 0, _ => fun _ => .stuck
  | m + 1, n => runV 4 (m__law_like n (rr__law_like m n))
def r__law_like (n : Nat) : List D → Res (P × D) := rr__law_like 4 n
theorem ok__law_like {P : Program} {w : World} {g : G} {mg : Str → Option Value} {base : Heap} {f : Addr} {fd : FuncData} (F : L2.Fun g.K "_law_like" "_law_like" st__law_like f fd) (T : TX g mg) (mgf : mg "_law_like" = some (.ref f)) (bd : L2.Binds g.K fd ["_law_actual", "_law_due"] [])  : ∀ m : Nat, FnOk P w g.K mg base (L2.CX P w) (0 + m + 1) f fd ["_law_actual", "_law_due"] (spF g 2 (rr__law_like m))
  | 0 => (def_val F sc__law_like (fun _ _ => .stuck) fun n cdv A outer s H E hr => pss_stuck)
  | m + 1 => by
    have c__law_like : CalF P w g.K mg base "_law_like" 2 (0 + m + 1) (spF g 2 (rr__law_like m)) := ⟨f, fd, _, rfl, ok__law_like F T mgf bd  m, mgf, F.kp, bd⟩
    refine def_val F sc__law_like (fun n => m__law_like n (rr__law_like m n)) fun n cdv A outer s H E hr => ?_
    have tk : Takes (cxOf (L2.CX P w) P w g.K mg base N__law_like "_law_like" (defScope st__law_like) f cdv A outer s H E) (WD E) := takes_of rfl rfl rfl rfl
    have po : PassesOwn (model P w) (cxOf (L2.CX P w) P w g.K mg base N__law_like "_law_like" (defScope st__law_like) f cdv A outer s H E).A (cxOf (L2.CX P w) P w g.K mg base N__law_like "_law_like" (defScope st__law_like) f cdv A outer s H E).env (cxOf (L2.CX P w) P w g.K mg base N__law_like "_law_like" (defScope st__law_like) f cdv A outer s H E).xe := passes_of rfl
    have nd : N__law_like.Nodup := sc__law_like.nd
    exact (show PSs (cxOf (L2.CX P w) P w g.K mg base N__law_like "_law_like" (defScope st__law_like) f cdv A outer s H E) (defBody st__law_like) (rS g (WD E) (m__law_like n (rr__law_like m n))) from
    ss_cons (s_if (t_val (x_isiT T.isi_dict rfl (T.free "isinstance" rfl) bt_isinstance (T.free "dict" rfl) bt_dict (x_var 1))) (ss_cons (s_if ((t_or (t_not (t_val (x_isiT T.isi_dict rfl (T.free "isinstance" rfl) bt_isinstance (T.free "dict" rfl) bt_dict (x_var 0)))) (t_or1 (t_neD rfl hr.units (x_listF rfl rfl (T.free "list" rfl) (a_cons (x_var 0) (a_nil))) (x_listF rfl rfl (T.free "list" rfl) (a_cons (x_var 1) (a_nil)))))).pt) (ss_one (s_ret (x_bl))) (ss_nil))
    (ss_one (s_ret (x_all rfl rfl (T.free "all" rfl) (a_cons (x_lc (own := [("_law_key", 2)]) rfl nd (i_list rfl (x_var 1)) (asg_u 2) (by decide) (blkOk_by (by kernel_rfl)) (fun _ _ _ _ _ => pg_name (i := 2) nd rfl (by first | exact Or.inl rfl | exact Or.inr rfl)) (fun _ _ _ _ _ => pts_yes) (fun _ _ _ _ _ => x_call c__law_like n (hr.mono (by omega)) lets0 (a_cons (x_ix rfl (x_var 0) (x_var 2)) (a_cons (x_ix rfl (x_var 1) (x_var 2)) (a_nil))))) (a_nil)))))) (ss_nil))
    (ss_cons (s_if (t_is (x_var 1) (x_non)) (ss_one (s_ret (x_is (x_var 0) (x_non)))) (ss_nil))
    (ss_cons (s_if (t_val (x_isiT T.isi_bool rfl (T.free "isinstance" rfl) bt_isinstance (T.free "bool" rfl) bt_bool (x_var 1))) (ss_one (s_ret (x_and (x_isiT T.isi_bool rfl (T.free "isinstance" rfl) bt_isinstance (T.free "bool" rfl) bt_bool (x_var 0)) (x_one (x_eqD rfl hr.units (x_var 0) (x_var 1)))))) (ss_nil))
    (ss_cons (s_if (t_val (x_isiT T.isi_int rfl (T.free "isinstance" rfl) bt_isinstance (T.free "int" rfl) bt_int (x_var 1))) (ss_one (s_ret (x_and (x_isiT T.isi_int rfl (T.free "isinstance" rfl) bt_isinstance (T.free "int" rfl) bt_int (x_var 0)) (x_and (x_not (x_isiT T.isi_bool rfl (T.free "isinstance" rfl) bt_isinstance (T.free "bool" rfl) bt_bool (x_var 0))) (x_one (x_eqD rfl hr.units (x_var 0) (x_var 1))))))) (ss_nil))
    (ss_cons (s_if (t_val (x_isiT T.isi_str rfl (T.free "isinstance" rfl) bt_isinstance (T.free "str" rfl) bt_str (x_var 1))) (ss_one (s_ret (x_and (x_isiT T.isi_str rfl (T.free "isinstance" rfl) bt_isinstance (T.free "str" rfl) bt_str (x_var 0)) (x_one (x_eqD rfl hr.units (x_var 0) (x_var 1)))))) (ss_nil))
    (ss_cons (s_if (t_val (x_isiT T.isi_tuple rfl (T.free "isinstance" rfl) bt_isinstance (T.free "tuple" rfl) bt_tuple (x_var 1))) (ss_one (s_if ((t_or (t_not (t_val (x_isiT T.isi_tuple rfl (T.free "isinstance" rfl) bt_isinstance (T.free "tuple" rfl) bt_tuple (x_var 0)))) (t_or1 (t_ne (x_len rfl (T.free "len" rfl) (a_cons (x_var 0) (a_nil))) (x_len rfl (T.free "len" rfl) (a_cons (x_var 1) (a_nil)))))).pt) (ss_one (s_ret (x_bl))) (ss_nil))) (ss_one (s_if ((t_or (t_not (t_val (x_isiT T.isi_list rfl (T.free "isinstance" rfl) bt_isinstance (T.free "list" rfl) bt_list (x_var 0)))) (t_or1 (t_ne (x_len rfl (T.free "len" rfl) (a_cons (x_var 0) (a_nil))) (x_len rfl (T.free "len" rfl) (a_cons (x_var 1) (a_nil)))))).pt) (ss_one (s_ret (x_bl))) (ss_nil))))
    (ss_cons (s_for (po) rfl (BdU.bd (asg_u 3)) (i_r1 (T.free "range" rfl) (a_cons (x_len rfl (T.free "len" rfl) (a_cons (x_var 1) (a_nil))) (a_nil))) (pg_name (i := 3) nd rfl (by first | exact Or.inl rfl | exact Or.inr rfl)) (ss_one (s_if (t_not (t_val (x_call c__law_like n (hr.mono (by omega)) tk (a_cons (x_ix rfl (x_var 0) (x_var 3)) (a_cons (x_ix rfl (x_var 1) (x_var 3)) (a_nil)))))) (ss_one (s_ret (x_bl))) (ss_nil))))
    (ss_one (s_ret (x_bl))))))))))
/-! ### Moduli.__le__ -/
abbrev st_Moduli__le_ : Stmt := inClass (top 9) 5
abbrev N_Moduli__le_ : List Str := ["self", "other", "two", "one"]
theorem sc_Moduli__le_ : FnScope N_Moduli__le_ ["self", "other"] (defScope st_Moduli__le_) := ⟨rfl, rfl, rfl, by decide +kernel, rfl, by decide +kernel, by decide +kernel⟩
def m_Moduli__le_ (n : Nat) : SDen :=
    sRet (eFnA (fA (d1 kAll)) (aCons (eLc [3] (iT (eFld 0 "numbers" (eVar 0))) (asg 3) (tYs) (eFnA (fA (d1 kAny)) (aCons (eLc [2] (iT (eFld 0 "numbers" (eVar 1))) (asg 2) (tYs) (eCall 2 (r_divides n) (aCons (eVar 3) (aCons (eVar 2) (aNil))))) (aNil)))) (aNil)))
def r_Moduli__le_ (n : Nat) : List D → Res (P × D) := runV 4 (m_Moduli__le_ n)
theorem ok_Moduli__le_ {P : Program} {w : World} {g : G} {mg : Str → Option Value} {base : Heap} {f : Addr} {fd : FuncData} (F : L2.Fun g.K "__le__" "Moduli.__le__" st_Moduli__le_ f fd) (T : TX g mg) (c_divides : CalF P w g.K mg base "divides" 2 1 (spF g 2 r_divides)) : FnOk P w g.K mg base (L2.CX P w) 2 f fd ["self", "other"] (spF g 2 r_Moduli__le_) :=
  def_val F sc_Moduli__le_ m_Moduli__le_ fun n cdv A outer s H E hr => by
    have tk : Takes (cxOf (L2.CX P w) P w g.K mg base N_Moduli__le_ "Moduli.__le__" (defScope st_Moduli__le_) f cdv A outer s H E) (WD E) := takes_of rfl rfl rfl rfl
    have po : PassesOwn (model P w) (cxOf (L2.CX P w) P w g.K mg base N_Moduli__le_ "Moduli.__le__" (defScope st_Moduli__le_) f cdv A outer s H E).A (cxOf (L2.CX P w) P w g.K mg base N_Moduli__le_ "Moduli.__le__" (defScope st_Moduli__le_) f cdv A outer s H E).env (cxOf (L2.CX P w) P w g.K mg base N_Moduli__le_ "Moduli.__le__" (defScope st_Moduli__le_) f cdv A outer s H E).xe := passes_of rfl
    have nd : N_Moduli__le_.Nodup := sc_Moduli__le_.nd
    exact (show PSs (cxOf (L2.CX P w) P w g.K mg base N_Moduli__le_ "Moduli.__le__" (defScope st_Moduli__le_) f cdv A outer s H E) (defBody st_Moduli__le_) (rS g (WD E) (m_Moduli__le_ n)) from
    ss_one (s_ret (x_all rfl rfl (T.free "all" rfl) (a_cons (x_lc (own := [("one", 3)]) rfl nd (i_tup rfl (x_fld 0 rfl (T.cl 0 (by decide)).cl (T.na 0 "numbers" (by decide)) (x_var 0))) (asg_u 3) (by decide) (blkOk_by (by kernel_rfl)) (fun _ _ _ _ _ => pg_name (i := 3) nd rfl (by first | exact Or.inl rfl | exact Or.inr rfl)) (fun _ _ _ _ _ => pts_yes) (fun _ _ _ _ _ => x_any rfl rfl (T.free "any" rfl) (a_cons (x_lc (own := [("two", 2)]) rfl nd (i_tup rfl (x_fld 0 rfl (T.cl 0 (by decide)).cl (T.na 0 "numbers" (by decide)) (x_var 1))) (asg_u 2) (by decide) (blkOk_by (by kernel_rfl)) (fun _ _ _ _ _ => pg_name (i := 2) nd rfl (by first | exact Or.inl rfl | exact Or.inr rfl)) (fun _ _ _ _ _ => pts_yes) (fun _ _ _ _ _ => x_call c_divides n (hr.mono (by omega)) lets0 (a_cons (x_var 3) (a_cons (x_var 2) (a_nil))))) (a_nil)))) (a_nil)))))
/-! ### Moduli.__eq__ -/
abbrev st_Moduli__eq_ : Stmt := inClass (top 9) 6
abbrev N_Moduli__eq_ : List Str := ["self", "other"]
theorem sc_Moduli__eq_ : FnScope N_Moduli__eq_ ["self", "other"] (defScope st_Moduli__eq_) := ⟨rfl, rfl, rfl, by decide +kernel, rfl, by decide +kernel, by decide +kernel⟩
def m_Moduli__eq_ (n : Nat) : SDen :=
    sRet (eAn (eIsi tb_Moduli (eVar 1)) (eEqD (eFld 0 "numbers" (eVar 0)) (eFld 0 "numbers" (eVar 1))))
def r_Moduli__eq_ (n : Nat) : List D → Res (P × D) := runV 2 (m_Moduli__eq_ n)
theorem ok_Moduli__eq_ {P : Program} {w : World} {g : G} {mg : Str → Option Value} {base : Heap} {f : Addr} {fd : FuncData} (F : L2.Fun g.K "__eq__" "Moduli.__eq__" st_Moduli__eq_ f fd) (T : TX g mg)  : FnOk P w g.K mg base (L2.CX P w) 1 f fd ["self", "other"] (spF g 2 r_Moduli__eq_) :=
  def_val F sc_Moduli__eq_ m_Moduli__eq_ fun n cdv A outer s H E hr => by
    have tk : Takes (cxOf (L2.CX P w) P w g.K mg base N_Moduli__eq_ "Moduli.__eq__" (defScope st_Moduli__eq_) f cdv A outer s H E) (WD E) := takes_of rfl rfl rfl rfl
    have po : PassesOwn (model P w) (cxOf (L2.CX P w) P w g.K mg base N_Moduli__eq_ "Moduli.__eq__" (defScope st_Moduli__eq_) f cdv A outer s H E).A (cxOf (L2.CX P w) P w g.K mg base N_Moduli__eq_ "Moduli.__eq__" (defScope st_Moduli__eq_) f cdv A outer s H E).env (cxOf (L2.CX P w) P w g.K mg base N_Moduli__eq_ "Moduli.__eq__" (defScope st_Moduli__eq_) f cdv A outer s H E).xe := passes_of rfl
    have nd : N_Moduli__eq_.Nodup := sc_Moduli__eq_.nd
    exact (show PSs (cxOf (L2.CX P w) P w g.K mg base N_Moduli__eq_ "Moduli.__eq__" (defScope st_Moduli__eq_) f cdv A outer s H E) (defBody st_Moduli__eq_) (rS g (WD E) (m_Moduli__eq_ n)) from
    ss_one (s_ret (x_and (x_isiC T.isi_Moduli rfl (T.free "isinstance" rfl) bt_isinstance T.cm_Moduli (x_var 1)) (x_one (x_eqD rfl hr.units (x_fld 0 rfl (T.cl 0 (by decide)).cl (T.na 0 "numbers" (by decide)) (x_var 0)) (x_fld 0 rfl (T.cl 0 (by decide)).cl (T.na 0 "numbers" (by decide)) (x_var 1)))))))
/-! ### Moduli.tops -/
abbrev st_Moduli_tops : Stmt := inClass (top 9) 1
abbrev N_Moduli_tops : List Str := ["self"]
theorem sc_Moduli_tops : FnScope N_Moduli_tops ["self"] (defScope st_Moduli_tops) := ⟨rfl, rfl, rfl, by decide +kernel, rfl, by decide +kernel, by decide +kernel⟩
def m_Moduli_tops (n : Nat) : SDen :=
    sRet (eFld 0 "numbers" (eVar 0))
def r_Moduli_tops (n : Nat) : List D → Res (P × D) := runV 1 (m_Moduli_tops n)
theorem ok_Moduli_tops {P : Program} {w : World} {g : G} {mg : Str → Option Value} {base : Heap} {f : Addr} {fd : FuncData} (F : L2.Fun g.K "tops" "Moduli.tops" st_Moduli_tops f fd) (T : TX g mg)  : FnOk P w g.K mg base (L2.CX P w) 1 f fd ["self"] (spF g 1 r_Moduli_tops) :=
  def_val F sc_Moduli_tops m_Moduli_tops fun n cdv A outer s H E hr => by
    have tk : Takes (cxOf (L2.CX P w) P w g.K mg base N_Moduli_tops "Moduli.tops" (defScope st_Moduli_tops) f cdv A outer s H E) (WD E) := takes_of rfl rfl rfl rfl
    have po : PassesOwn (model P w) (cxOf (L2.CX P w) P w g.K mg base N_Moduli_tops "Moduli.tops" (defScope st_Moduli_tops) f cdv A outer s H E).A (cxOf (L2.CX P w) P w g.K mg base N_Moduli_tops "Moduli.tops" (defScope st_Moduli_tops) f cdv A outer s H E).env (cxOf (L2.CX P w) P w g.K mg base N_Moduli_tops "Moduli.tops" (defScope st_Moduli_tops) f cdv A outer s H E).xe := passes_of rfl
    have nd : N_Moduli_tops.Nodup := sc_Moduli_tops.nd
    exact (show PSs (cxOf (L2.CX P w) P w g.K mg base N_Moduli_tops "Moduli.tops" (defScope st_Moduli_tops) f cdv A outer s H E) (defBody st_Moduli_tops) (rS g (WD E) (m_Moduli_tops n)) from
    ss_one (s_ret (x_fld 0 rfl (T.cl 0 (by decide)).cl (T.na 0 "numbers" (by decide)) (x_var 0))))
/-! ### Moduli.least_out -/
abbrev st_Moduli_least_out : Stmt := inClass (top 9) 7
abbrev N_Moduli_least_out : List Str := ["self", "n", "one"]
theorem sc_Moduli_least_out : FnScope N_Moduli_least_out ["self"] (defScope st_Moduli_least_out) := ⟨rfl, rfl, rfl, by decide +kernel, rfl, by decide +kernel, by decide +kernel⟩
def m_Moduli_least_out (n : Nat) : SDen :=
    sSeq (sIf (tst (eEqD (eFld 0 "numbers" (eVar 0)) (eTup (aCons (eC (.int 0)) (aNil))))) (sRet (eC .non)) (sNx))
    (sSeq (sAsg (eC (.int 1)) (asg 1))
    (sSeq (sWhile n (tst (eFnA (fA (d1 kAny)) (aCons (eLc [2] (iT (eFld 0 "numbers" (eVar 0))) (asg 2) (tYs) (eCall 2 (r_divides n) (aCons (eVar 1) (aCons (eVar 2) (aNil))))) (aNil)))) (sAug 1 (fun i j => i + j) (eC (.int 1))))
    (sRet (eVar 1))))
def r_Moduli_least_out (n : Nat) : List D → Res (P × D) := runV 3 (m_Moduli_least_out n)
theorem ok_Moduli_least_out {P : Program} {w : World} {g : G} {mg : Str → Option Value} {base : Heap} {f : Addr} {fd : FuncData} (F : L2.Fun g.K "least_out" "Moduli.least_out" st_Moduli_least_out f fd) (T : TX g mg) (c_divides : CalF P w g.K mg base "divides" 2 1 (spF g 2 r_divides)) : FnOk P w g.K mg base (L2.CX P w) 2 f fd ["self"] (spF g 1 r_Moduli_least_out) :=
  def_val F sc_Moduli_least_out m_Moduli_least_out fun n cdv A outer s H E hr => by
    have tk : Takes (cxOf (L2.CX P w) P w g.K mg base N_Moduli_least_out "Moduli.least_out" (defScope st_Moduli_least_out) f cdv A outer s H E) (WD E) := takes_of rfl rfl rfl rfl
    have po : PassesOwn (model P w) (cxOf (L2.CX P w) P w g.K mg base N_Moduli_least_out "Moduli.least_out" (defScope st_Moduli_least_out) f cdv A outer s H E).A (cxOf (L2.CX P w) P w g.K mg base N_Moduli_least_out "Moduli.least_out" (defScope st_Moduli_least_out) f cdv A outer s H E).env (cxOf (L2.CX P w) P w g.K mg base N_Moduli_least_out "Moduli.least_out" (defScope st_Moduli_least_out) f cdv A outer s H E).xe := passes_of rfl
    have nd : N_Moduli_least_out.Nodup := sc_Moduli_least_out.nd
    exact (show PSs (cxOf (L2.CX P w) P w g.K mg base N_Moduli_least_out "Moduli.least_out" (defScope st_Moduli_least_out) f cdv A outer s H E) (defBody st_Moduli_least_out) (rS g (WD E) (m_Moduli_least_out n)) from
    ss_cons (s_if (t_eqD rfl hr.units (x_fld 0 rfl (T.cl 0 (by decide)).cl (T.na 0 "numbers" (by decide)) (x_var 0)) (x_tup (a_cons (x_int) (a_nil)))) (ss_one (s_ret (x_non))) (ss_nil))
    (ss_cons (s_set 1 nd (x_int))
    (ss_cons (s_while (po) (t_val (x_any rfl rfl (T.free "any" rfl) (a_cons (x_lc (own := [("one", 2)]) rfl nd (i_tup rfl (x_fld 0 rfl (T.cl 0 (by decide)).cl (T.na 0 "numbers" (by decide)) (x_var 0))) (asg_u 2) (by decide) (blkOk_by (by kernel_rfl)) (fun _ _ _ _ _ => pg_name (i := 2) nd rfl (by first | exact Or.inl rfl | exact Or.inr rfl)) (fun _ _ _ _ _ => pts_yes) (fun _ _ _ _ _ => x_call c_divides n (hr.mono (by omega)) lets0 (a_cons (x_var 1) (a_cons (x_var 2) (a_nil))))) (a_nil)))) (ss_one (s_aug 1 ip_add nd (x_int))))
    (ss_one (s_ret (x_var 1))))))
/-! ### _law_bad -/
abbrev st__law_bad : Stmt := top 16
abbrev N__law_bad : List Str := ["_law_thing", "_law_told"]
theorem sc__law_bad : FnScope N__law_bad ["_law_thing"] (defScope st__law_bad) := ⟨rfl, rfl, rfl, by decide +kernel, rfl, by decide +kernel, by decide +kernel⟩
def m__law_bad (n : Nat) : SDen :=
    sSeq (sAsg (eC (.bl false)) (asg 1))
    (sSeq (sTry (sDrop (eMake 0 2 (r_Moduli__init_ n) (aCons (eVar 0) (aNil)))) [(xb_BadModuli, sAsg (eC (.bl true)) (asg 1))])
    (sRet (eVar 1)))
def r__law_bad (n : Nat) : List D → Res (P × D) := runV 2 (m__law_bad n)
theorem ok__law_bad {P : Program} {w : World} {g : G} {mg : Str → Option Value} {base : Heap} {f : Addr} {fd : FuncData} (F : L2.Fun g.K "_law_bad" "_law_bad" st__law_bad f fd) (T : TX g mg) (c_Moduli__init_ : CalC P w g.K mg base (g.C 0) "Moduli" 2 3 (spJ g 2 r_Moduli__init_)) : FnOk P w g.K mg base (L2.CX P w) 5 f fd ["_law_thing"] (spF g 1 r__law_bad) :=
  def_val F sc__law_bad m__law_bad fun n cdv A outer s H E hr => by
    have tk : Takes (cxOf (L2.CX P w) P w g.K mg base N__law_bad "_law_bad" (defScope st__law_bad) f cdv A outer s H E) (WD E) := takes_of rfl rfl rfl rfl
    have po : PassesOwn (model P w) (cxOf (L2.CX P w) P w g.K mg base N__law_bad "_law_bad" (defScope st__law_bad) f cdv A outer s H E).A (cxOf (L2.CX P w) P w g.K mg base N__law_bad "_law_bad" (defScope st__law_bad) f cdv A outer s H E).env (cxOf (L2.CX P w) P w g.K mg base N__law_bad "_law_bad" (defScope st__law_bad) f cdv A outer s H E).xe := passes_of rfl
    have nd : N__law_bad.Nodup := sc__law_bad.nd
    exact (show PSs (cxOf (L2.CX P w) P w g.K mg base N__law_bad "_law_bad" (defScope st__law_bad) f cdv A outer s H E) (defBody st__law_bad) (rS g (WD E) (m__law_bad n)) from
    ss_cons (s_set 1 nd (x_bl))
    (ss_cons (s_try rfl rfl tk (fun _ _ _ tk1 po1 => ss_one (s_expr (x_make 0 c_Moduli__init_ n (hr.mono (by omega)) tk1 (a_cons (x_var 0) (a_nil))))) (.cons (nm_of T.em_BadModuli rfl) T.xm_BadModuli (fun _ _ _ => ss_one (s_set 1 nd (x_bl))) (.nil)))
    (ss_one (s_ret (x_var 1)))))
/-! ### law -/
abbrev st_law : Stmt := top 17
abbrev N_law : List Str := ["_law_script", "_law_draws", "_law_one", "_law_two", "_law_first", "_law_second", "_law_both", "_law_some", "_law_here", "_law_n", "_law_there", "_law_told", "_law_tops", "_law_a", "_law_b", "_law_out", "_law_odd"]
theorem sc_law : FnScope N_law ["_law_script"] (defScope st_law) := ⟨rfl, rfl, rfl, by decide +kernel, rfl, by decide +kernel, by decide +kernel⟩
def m_law (n : Nat) : SDen :=
    sSeq (sAsg (eCall 1 (r__law_begin n) (aCons (eVar 0) (aNil))) (asg 1))
    (sSeq (sAsg (eCallI 1 1 (r__law_numbers n) (aNil)) (asg 2))
    (sSeq (sAsg (eCallI 1 1 (r__law_numbers n) (aNil)) (asg 3))
    (sSeq (sAsg (eTup (aCons (eMake 0 2 (r_Moduli__init_ n) (aCons (eVar 2) (aNil))) (aCons (eMake 0 2 (r_Moduli__init_ n) (aCons (eVar 3) (aNil))) (aNil)))) (bTup [asg 4, asg 5]))
    (sSeq (sPar 6 7 (aCons (eOwn (bothC 0) (r_Moduli__and_ n) (eVar 4) (eVar 5)) (aCons (eOwn (bothC 0) (r_Moduli__or_ n) (eVar 4) (eVar 5)) (aNil))))
    (sSeq (sAsg (eLc [9] (iR2 (aCons (eC (.int 1)) (aCons (eC (.int 211)) (aNil)))) (asg 9) (tst (eCall 2 (r__law_in n) (aCons (eVar 2) (aCons (eVar 9) (aNil))))) (eVar 9)) (asg 8))
    (sSeq (sAsg (eLc [9] (iR2 (aCons (eC (.int 1)) (aCons (eC (.int 211)) (aNil)))) (asg 9) (tst (eCall 2 (r__law_in n) (aCons (eVar 3) (aCons (eVar 9) (aNil))))) (eVar 9)) (asg 10))
    (sSeq (sFor (iR2 (aCons (eC (.int 1)) (aCons (eC (.int 211)) (aNil)))) (asg 9) (sSeq (sAsg (eLst (aCons (eOwnIn 0 (r_Moduli__contains_ n) (eVar 9) (eVar 4)) (aCons (eOwnIn 0 (r_Moduli__contains_ n) (eVar 9) (eVar 6)) (aCons (eOwnIn 0 (r_Moduli__contains_ n) (eVar 9) (eVar 7)) (aNil))))) (asg 11))
    (sIf (tNo (tst (eCall 2 (r__law_like n) (aCons (eVar 11) (aCons (eLst (aCons (eIn (eVar 9) (eVar 8)) (aCons (eAn (eIn (eVar 9) (eVar 8)) (eIn (eVar 9) (eVar 10))) (aCons (eO (eIn (eVar 9) (eVar 8)) (eIn (eVar 9) (eVar 10))) (aNil))))) (aNil)))))) (sRet (eC (.bl false))) (sNx))))
    (sSeq (sIf (tst (eNe (eOwn (bothC 0) (r_Moduli__le_ n) (eVar 4) (eVar 5)) (eEq (eFnA (fA (d1 kLen)) (aCons (eLc [9] (iL (eVar 8)) (asg 9) (tst (eNotIn (eVar 9) (eVar 10))) (eVar 9)) (aNil))) (eC (.int 0))))) (sRet (eC (.bl false))) (sNx))
    (sSeq (sIf (tO (tst (eNe (eOwn (bothC 0) (r_Moduli__eq_ n) (eVar 4) (eVar 5)) (eEqD (eVar 8) (eVar 10)))) (tst (eGt (eFnA (fA (d1 kLen)) (aCons (eLc [9] (iL (eLst (aCons (eC (.int 0)) (aCons (eNeg (eC (.int 1))) (aCons (eC (.bl true)) (aCons (eC .non) (aCons (eC (.str "1")) (aNil)))))))) (asg 9) (tst (eOwnIn 0 (r_Moduli__contains_ n) (eVar 9) (eVar 4))) (eVar 9)) (aNil))) (eC (.int 0))))) (sRet (eC (.bl false))) (sNx))
    (sSeq (sAsg (eMeth 0 "tops" 1 (r_Moduli_tops n) (eVar 4) aNil) (asg 12))
    (sSeq (sIf (tO (tst (eNeD (eFnA (nA (d1 kList)) (aCons (eVar 12) (aNil))) (eFnA (nA (d1 kSortedT)) (aCons (eVar 12) (aNil))))) (tO (tNo (tst (eOwn (bothC 0) (r_Moduli__eq_ n) (eMake 0 2 (r_Moduli__init_ n) (aCons (eFnA (nA (d1 kList)) (aCons (eVar 12) (aNil))) (aNil))) (eVar 4)))) (tst (eNe (eIn (eC (.int 0)) (eVar 12)) (eEqD (eVar 12) (eTup (aCons (eC (.int 0)) (aNil)))))))) (sRet (eC (.bl false))) (sNx))
    (sSeq (sIf (tst (eGt (eFnA (fA (d1 kLen)) (aCons (eLc [13] (iT (eVar 12)) (asg 13) (tst (eGt (eFnA (fA (d1 kLen)) (aCons (eLc [14] (iT (eVar 12)) (asg 14) (tAn (tst (eNe (eVar 13) (eVar 14))) (tAn (tst (eNe (eVar 13) (eC (.int 0)))) (tst (eEq (eMod (eVar 14) (eVar 13)) (eC (.int 0)))))) (eVar 14)) (aNil))) (eC (.int 0)))) (eVar 13)) (aNil))) (eC (.int 0)))) (sRet (eC (.bl false))) (sNx))
    (sSeq (sAsg (eLc [9] (iR2 (aCons (eC (.int 1)) (aCons (eC (.int 211)) (aNil)))) (asg 9) (tst (eNotIn (eVar 9) (eVar 8))) (eVar 9)) (asg 15))
    (sSeq (sIf (tst (eNeD (eMeth 0 "least_out" 1 (r_Moduli_least_out n) (eVar 4) aNil) (eIx (eCatL (eVar 15) (eLst (aCons (eC .non) (aNil)))) (eC (.int 0))))) (sRet (eC (.bl false))) (sNx))
    (sSeq (sAsg (eLst (aCons (eC .non) (aCons (eTup (aCons (eC (.int 1)) (aNil))) (aCons (eLst (aCons (eNeg (eC (.int 1))) (aNil))) (aCons (eLst (aCons (eC (.bl true)) (aNil))) (aCons (eLst (aCons (eC (.str "2")) (aNil))) (aCons (eLst (aCons (eC (.int 1)) (aCons (eC .non) (aNil)))) (aCons (eDisp [(eC (.int 1), eC (.int 2))]) (aCons (eC (.int 6)) (aNil)))))))))) (asg 16))
    (sRet (eCall 1 (r__law_bad n) (aCons (eIx (eVar 16) (eCallI 2 1 (r__law_draw n) (aCons (eFnA (fA (d1 kLen)) (aCons (eVar 16) (aNil))) (aNil)))) (aNil)))))))))))))))))))
def r_law (n : Nat) : List D → Res (P × D) := runV 17 (m_law n)
theorem ok_law {P : Program} {w : World} {g : G} {mg : Str → Option Value} {base : Heap} {f : Addr} {fd : FuncData} (F : L2.Fun g.K "law" "law" st_law f fd) (T : TX g mg) (c__law_begin : CalF P w g.K mg base "_law_begin" 1 1 (spF g 1 r__law_begin)) (c__law_numbers : CalF P w g.K mg base "_law_numbers" 1 2 (spJ g 1 r__law_numbers)) (c_Moduli__init_ : CalC P w g.K mg base (g.C 0) "Moduli" 2 3 (spJ g 2 r_Moduli__init_)) {f_Moduli__or_ : Addr} (o_Moduli__or_ : OpF P w g mg base 0 "__or__" 2 5 (spF g 2 r_Moduli__or_) f_Moduli__or_) {f_Moduli__and_ : Addr} (o_Moduli__and_ : OpF P w g mg base 0 "__and__" 2 5 (spF g 2 r_Moduli__and_) f_Moduli__and_) (c__law_in : CalF P w g.K mg base "_law_in" 2 1 (spF g 2 r__law_in)) {f_Moduli__contains_ : Addr} (o_Moduli__contains_ : OpF P w g mg base 0 "__contains__" 2 2 (spF g 2 r_Moduli__contains_) f_Moduli__contains_) (c__law_like : CalF P w g.K mg base "_law_like" 2 5 (spF g 2 r__law_like)) {f_Moduli__le_ : Addr} (o_Moduli__le_ : OpF P w g mg base 0 "__le__" 2 2 (spF g 2 r_Moduli__le_) f_Moduli__le_) {f_Moduli__eq_ : Addr} (o_Moduli__eq_ : OpF P w g mg base 0 "__eq__" 2 1 (spF g 2 r_Moduli__eq_) f_Moduli__eq_) (c_Moduli_tops : CalM P w g.K mg base (g.C 0) "tops" 1 1 (spF g 1 r_Moduli_tops)) (c_Moduli_least_out : CalM P w g.K mg base (g.C 0) "least_out" 1 2 (spF g 1 r_Moduli_least_out)) (c__law_bad : CalF P w g.K mg base "_law_bad" 1 5 (spF g 1 r__law_bad)) (c__law_draw : CalF P w g.K mg base "_law_draw" 2 1 (spJ g 2 r__law_draw)) : FnOk P w g.K mg base (L2.CX P w) 6 f fd ["_law_script"] (spF g 1 r_law) :=
  def_val F sc_law m_law fun n cdv A outer s H E hr => by
    have tk : Takes (cxOf (L2.CX P w) P w g.K mg base N_law "law" (defScope st_law) f cdv A outer s H E) (WD E) := takes_of rfl rfl rfl rfl
    have po : PassesOwn (model P w) (cxOf (L2.CX P w) P w g.K mg base N_law "law" (defScope st_law) f cdv A outer s H E).A (cxOf (L2.CX P w) P w g.K mg base N_law "law" (defScope st_law) f cdv A outer s H E).env (cxOf (L2.CX P w) P w g.K mg base N_law "law" (defScope st_law) f cdv A outer s H E).xe := passes_of rfl
    have nd : N_law.Nodup := sc_law.nd
    exact (show PSs (cxOf (L2.CX P w) P w g.K mg base N_law "law" (defScope st_law) f cdv A outer s H E) (defBody st_law) (rS g (WD E) (m_law n)) from
    ss_cons (s_set 1 nd (x_call c__law_begin n (hr.mono (by omega)) tk (a_cons (x_var 0) (a_nil))))
    (ss_cons (s_set 2 nd (x_callI 1 c__law_numbers n (hr.mono (by omega)) tk (a_nil)))
    (ss_cons (s_set 3 nd (x_callI 1 c__law_numbers n (hr.mono (by omega)) tk (a_nil)))
    (ss_cons (s_asg (BdU.bd (tup_u (js := [4, 5]) (.cons (asg_u 4) (.cons (asg_u 5) (.nil))))) (x_tup (a_cons (x_make 0 c_Moduli__init_ n (hr.mono (by omega)) tk (a_cons (x_var 2) (a_nil))) (a_cons (x_make 0 c_Moduli__init_ n (hr.mono (by omega)) tk (a_cons (x_var 3) (a_nil))) (a_nil)))) (pg_tup rfl (pgs_cons (pg_name (i := 4) nd rfl (by first | exact Or.inl rfl | exact Or.inr rfl)) (pgs_cons (pg_name (i := 5) nd rfl (by first | exact Or.inl rfl | exact Or.inr rfl)) (pgs_nil)))))
    (ss_cons (s_par (i := 6) (j := 7) rfl nd (a_cons (x_ownB (op := .BitAnd) o_Moduli__and_ n rfl (hr.mono (by omega)) tk (x_var 4) (x_var 5)) (a_cons (x_ownB (op := .BitOr) o_Moduli__or_ n rfl (hr.mono (by omega)) tk (x_var 4) (x_var 5)) (a_nil))))
    (ss_cons (s_set 8 nd (x_lc (own := [("_law_n", 9)]) rfl nd (i_r2 (T.free "range" rfl) (a_cons (x_int) (a_cons (x_int) (a_nil)))) (asg_u 9) (by decide) (blkOk_by (by kernel_rfl)) (fun _ _ _ _ _ => pg_name (i := 9) nd rfl (by first | exact Or.inl rfl | exact Or.inr rfl)) (fun _ _ _ _ _ => pts_one (t_val (x_call c__law_in n (hr.mono (by omega)) lets0 (a_cons (x_var 2) (a_cons (x_var 9) (a_nil)))))) (fun _ _ _ _ _ => x_var 9)))
    (ss_cons (s_set 10 nd (x_lc (own := [("_law_n", 9)]) rfl nd (i_r2 (T.free "range" rfl) (a_cons (x_int) (a_cons (x_int) (a_nil)))) (asg_u 9) (by decide) (blkOk_by (by kernel_rfl)) (fun _ _ _ _ _ => pg_name (i := 9) nd rfl (by first | exact Or.inl rfl | exact Or.inr rfl)) (fun _ _ _ _ _ => pts_one (t_val (x_call c__law_in n (hr.mono (by omega)) lets0 (a_cons (x_var 3) (a_cons (x_var 9) (a_nil)))))) (fun _ _ _ _ _ => x_var 9)))
    (ss_cons (s_for (po) rfl (BdU.bd (asg_u 9)) (i_r2 (T.free "range" rfl) (a_cons (x_int) (a_cons (x_int) (a_nil)))) (pg_name (i := 9) nd rfl (by first | exact Or.inl rfl | exact Or.inr rfl)) (ss_cons (s_set 11 nd (x_lst (a_cons (x_ownIn o_Moduli__contains_ n rfl (hr.mono (by omega)) tk (x_var 9) (x_var 4)) (a_cons (x_ownIn o_Moduli__contains_ n rfl (hr.mono (by omega)) tk (x_var 9) (x_var 6)) (a_cons (x_ownIn o_Moduli__contains_ n rfl (hr.mono (by omega)) tk (x_var 9) (x_var 7)) (a_nil))))))
    (ss_one (s_if (t_not (t_val (x_call c__law_like n (hr.mono (by omega)) tk (a_cons (x_var 11) (a_cons (x_lst (a_cons (x_in rfl (x_var 9) (x_var 8)) (a_cons (x_and (x_in rfl (x_var 9) (x_var 8)) (x_one (x_in rfl (x_var 9) (x_var 10)))) (a_cons (x_or (x_in rfl (x_var 9) (x_var 8)) (x_one (x_in rfl (x_var 9) (x_var 10)))) (a_nil))))) (a_nil)))))) (ss_one (s_ret (x_bl))) (ss_nil)))))
    (ss_cons (s_if (t_ne (x_ownC (op := .LtE) (fun _ _ => rfl) o_Moduli__le_ n rfl (hr.mono (by omega)) tk (x_var 4) (x_var 5) (nomark _)) (x_eq (x_len rfl (T.free "len" rfl) (a_cons (x_lc (own := [("_law_n", 9)]) rfl nd (i_list rfl (x_var 8)) (asg_u 9) (by decide) (blkOk_by (by kernel_rfl)) (fun _ _ _ _ _ => pg_name (i := 9) nd rfl (by first | exact Or.inl rfl | exact Or.inr rfl)) (fun _ _ _ _ _ => pts_one (t_notIn rfl (x_var 9) (x_var 10))) (fun _ _ _ _ _ => x_var 9)) (a_nil))) (x_int))) (ss_one (s_ret (x_bl))) (ss_nil))
    (ss_cons (s_if ((t_or (t_ne (x_ownC (op := .Eq) (fun _ _ => rfl) o_Moduli__eq_ n rfl (hr.mono (by omega)) tk (x_var 4) (x_var 5) (nomark _)) (x_eqD rfl hr.units (x_var 8) (x_var 10))) (t_or1 (t_gt (x_len rfl (T.free "len" rfl) (a_cons (x_lc (own := [("_law_n", 9)]) rfl nd (i_list rfl (x_lst (a_cons (x_int) (a_cons (x_neg (x_int)) (a_cons (x_bl) (a_cons (x_non) (a_cons (x_str) (a_nil)))))))) (asg_u 9) (by decide) (blkOk_by (by kernel_rfl)) (fun _ _ _ _ _ => pg_name (i := 9) nd rfl (by first | exact Or.inl rfl | exact Or.inr rfl)) (fun _ _ _ _ _ => pts_one (t_ownIn o_Moduli__contains_ n rfl (hr.mono (by omega)) lets0 (x_var 9) (x_var 4))) (fun _ _ _ _ _ => x_var 9)) (a_nil))) (x_int)))).pt) (ss_one (s_ret (x_bl))) (ss_nil))
    (ss_cons (s_set 12 nd (x_meth0 0 c_Moduli_tops n (hr.mono (by omega)) tk (x_var 4)))
    (ss_cons (s_if ((t_or (t_neD rfl hr.units (x_listF rfl rfl (T.free "list" rfl) (a_cons (x_var 12) (a_nil))) (x_sortedT rfl rfl (T.free "sorted" rfl) (a_cons (x_var 12) (a_nil)))) (t_or (t_not (t_ownC (op := .Eq) (fun _ _ => rfl) o_Moduli__eq_ n rfl (hr.mono (by omega)) tk (x_make 0 c_Moduli__init_ n (hr.mono (by omega)) tk (a_cons (x_listF rfl rfl (T.free "list" rfl) (a_cons (x_var 12) (a_nil))) (a_nil))) (x_var 4) (nomark _))) (t_or1 (t_ne (x_in rfl (x_int) (x_var 12)) (x_eqD rfl hr.units (x_var 12) (x_tup (a_cons (x_int) (a_nil)))))))).pt) (ss_one (s_ret (x_bl))) (ss_nil))
    (ss_cons (s_if (t_gt (x_len rfl (T.free "len" rfl) (a_cons (x_lc (own := [("_law_a", 13)]) rfl nd (i_tup rfl (x_var 12)) (asg_u 13) (by decide) (blkOk_by (by kernel_rfl)) (fun _ _ _ _ _ => pg_name (i := 13) nd rfl (by first | exact Or.inl rfl | exact Or.inr rfl)) (fun _ _ _ _ _ => pts_one (t_gt (x_len rfl (T.free "len" rfl) (a_cons (x_lc (own := [("_law_b", 14)]) rfl nd (i_tup rfl (x_var 12)) (asg_u 14) (by decide) (blkOk_by (by kernel_rfl)) (fun _ _ _ _ _ => pg_name (i := 14) nd rfl (by first | exact Or.inl rfl | exact Or.inr rfl)) (fun _ _ _ _ _ => pts_one ((t_and (t_ne (x_var 13) (x_var 14)) (t_and (t_ne (x_var 13) (x_int)) (t_and1 (t_eq (x_mod (x_var 14) (x_var 13)) (x_int))))).pt)) (fun _ _ _ _ _ => x_var 14)) (a_nil))) (x_int))) (fun _ _ _ _ _ => x_var 13)) (a_nil))) (x_int)) (ss_one (s_ret (x_bl))) (ss_nil))
    (ss_cons (s_setLc (i := 15) (own := [("_law_n", 9)]) rfl nd rfl rfl (by first | exact sw_true rfl rfl rfl rfl | rfl) (i_r2 (T.free "range" rfl) (a_cons (x_int) (a_cons (x_int) (a_nil)))) (asg_u 9) (by decide) (blkOk_by (by kernel_rfl)) (fun _ _ _ _ _ => pg_name (i := 9) nd rfl (by first | exact Or.inl rfl | exact Or.inr rfl)) (fun _ _ _ _ _ => pts_one (t_notIn rfl (x_var 9) (x_var 8))) (fun _ _ _ _ _ => x_var 9))
    (ss_cons (s_if (t_neD rfl hr.units (x_meth0 0 c_Moduli_least_out n (hr.mono (by omega)) tk (x_var 4)) (x_ix rfl (x_catL (x_var 15) (x_lst (a_cons (x_non) (a_nil)))) (x_int))) (ss_one (s_ret (x_bl))) (ss_nil))
    (ss_cons (s_set 16 nd (x_lst (a_cons (x_non) (a_cons (x_tup (a_cons (x_int) (a_nil))) (a_cons (x_lst (a_cons (x_neg (x_int)) (a_nil))) (a_cons (x_lst (a_cons (x_bl) (a_nil))) (a_cons (x_lst (a_cons (x_str) (a_nil))) (a_cons (x_lst (a_cons (x_int) (a_cons (x_non) (a_nil)))) (a_cons (x_disp (disp_cons (x_int) (x_int) (disp_nil))) (a_cons (x_int) (a_nil)))))))))))
    (ss_one (s_ret (x_call c__law_bad n (hr.mono (by omega)) tk (a_cons (x_ix rfl (x_var 16) (x_callI 1 c__law_draw n (hr.mono (by omega)) tk (a_cons (x_len rfl (T.free "len" rfl) (a_cons (x_var 16) (a_nil))) (a_nil)))) (a_nil)))))))))))))))))))))
end Ak02
set_option maxHeartbeats 2000000
namespace Ak02
open PySem PySem.Spec PyProof.Rows L2 MM
/-! ### the head -/
def cn : List Str := ["Moduli"]
def en : List Str := ["ModulusError", "BadModuli"]
def cs : List (PySem.W.Frag → Bool) := ([tFrees frees, tClss cn, tNas cn nas, tExm "ModulusError" "BadModuli" false, tExm "BadModuli" "BadModuli" true, tGlo "BadModuli", tExc "BadModuli", tKitTC "NoneType" "Moduli" false, tKitTC "bool" "Moduli" false, tKitTC "int" "Moduli" false, tKitTC "str" "Moduli" false, tKitTC "tuple" "Moduli" false, tKitTC "list" "Moduli" false, tKitTC "dict" "Moduli" false, tKitCC "Moduli" "Moduli" true, tKitTT "NoneType" "bool" false, tKitTT "bool" "bool" true, tKitTT "int" "bool" false, tKitTT "str" "bool" false, tKitTT "tuple" "bool" false, tKitTT "list" "bool" false, tKitTT "dict" "bool" false, tKitCT "Moduli" "bool" false, tKitTT "NoneType" "dict" false, tKitTT "bool" "dict" false, tKitTT "int" "dict" false, tKitTT "str" "dict" false, tKitTT "tuple" "dict" false, tKitTT "list" "dict" false, tKitTT "dict" "dict" true] : List (PySem.W.Frag → Bool)) ++ ([tKitCT "Moduli" "dict" false, tKitTT "NoneType" "int" false, tKitTT "bool" "int" true, tKitTT "int" "int" true, tKitTT "str" "int" false, tKitTT "tuple" "int" false, tKitTT "list" "int" false, tKitTT "dict" "int" false, tKitCT "Moduli" "int" false, tKitTT "NoneType" "list" false, tKitTT "bool" "list" false, tKitTT "int" "list" false, tKitTT "str" "list" false, tKitTT "tuple" "list" false, tKitTT "list" "list" true, tKitTT "dict" "list" false, tKitCT "Moduli" "list" false, tKitTT "NoneType" "str" false, tKitTT "bool" "str" false, tKitTT "int" "str" false, tKitTT "str" "str" true, tKitTT "tuple" "str" false, tKitTT "list" "str" false, tKitTT "dict" "str" false, tKitCT "Moduli" "str" false, tKitTT "NoneType" "tuple" false, tKitTT "bool" "tuple" false, tKitTT "int" "tuple" false, tKitTT "str" "tuple" false, tKitTT "tuple" "tuple" true] : List (PySem.W.Frag → Bool)) ++ ([tKitTT "list" "tuple" false, tKitTT "dict" "tuple" false, tKitCT "Moduli" "tuple" false, tGlo "Moduli", tGlo "_law_draw", tGlo "divides", tGlo "is_whole", tGlo "greatest_ones", tMkr "Moduli", tGlo "common", tGlo "_law_like", tGlo "_law_begin", tGlo "_law_numbers", tMeth' "Moduli" "__or__", tSelf "Moduli", tMeth' "Moduli" "__and__", tGlo "_law_in", tMeth' "Moduli" "__contains__", tMeth' "Moduli" "__le__", tMeth' "Moduli" "__eq__", tMeth' "Moduli" "tops", tCls "Moduli", tMeth' "Moduli" "least_out", tGlo "_law_bad", tGlo "law"] : List (PySem.W.Frag → Bool))
def fn : List He.FnD := [dOf ("_law_begin", none) "_law_begin" "_law_begin" st__law_begin, dOf ("_law_draw", none) "_law_draw" "_law_draw" st__law_draw, dOf ("_law_numbers", none) "_law_numbers" "_law_numbers" st__law_numbers, dOf ("is_whole", none) "is_whole" "is_whole" st_is_whole, dOf ("divides", none) "divides" "divides" st_divides, dOf ("greatest_ones", none) "greatest_ones" "greatest_ones" st_greatest_ones, dOf ("Moduli", some "__init__") "__init__" "Moduli.__init__" st_Moduli__init_, dOf ("Moduli", some "__or__") "__or__" "Moduli.__or__" st_Moduli__or_, dOf ("common", none) "common" "common" st_common, dOf ("Moduli", some "__and__") "__and__" "Moduli.__and__" st_Moduli__and_, dOf ("_law_in", none) "_law_in" "_law_in" st__law_in, dOf ("Moduli", some "__contains__") "__contains__" "Moduli.__contains__" st_Moduli__contains_, dOf ("_law_like", none) "_law_like" "_law_like" st__law_like, dOf ("Moduli", some "__le__") "__le__" "Moduli.__le__" st_Moduli__le_, dOf ("Moduli", some "__eq__") "__eq__" "Moduli.__eq__" st_Moduli__eq_, dOf ("Moduli", some "tops") "tops" "Moduli.tops" st_Moduli_tops, dOf ("Moduli", some "least_out") "least_out" "Moduli.least_out" st_Moduli_least_out, dOf ("_law_bad", none) "_law_bad" "_law_bad" st__law_bad, dOf ("law", none) "law" "law" st_law]
abbrev R : PySem.W.OpenRow := PySem.W.OpenLaw.row PySem.Challenge.rw_anymodulus_k02_whole_lots_of_moduli
abbrev hk : PySem.W.Hook := hookC 4 cs fn
def ob (s : PySem.W.SharedT) : He.Al := obsCG 4 cs fn (HandSHeadRun.getT s)
theorem ob_eq (s : PySem.W.SharedT) : ob s = hk.obs s.abs := obsCG_eq (HandSHeadRun.getT_eq s)
def loose : List Str := ["ModulusError", "BadModuli", "is_whole", "common", "divides", "greatest_ones", "Moduli", "_law_begin", "_law_draw", "_law_like", "_law_numbers", "_law_in", "_law_bad"]
theorem run (w : World) : HandSHeadRun.RunEq R (PySem.W.view R.prog [17]) hk ob 3000 loose w := by
  intro os
  kernel_rfl
theorem tx {K : PySem.W.Frag} {h : Heap} {mg : Str → Option Value} (X : K.In h) (G : h.Ns mainGlobals mg) (c : SaysC cs fn K) : TX (gOf K cn en []) mg where
  fr := tFrees_ok X G (c.fact 0 (f := tFrees frees))
  cl := tClss_ok (cn := cn) (c.fact 1 (f := tClss cn))
  na_ := tNas_ok (c.fact 2 (f := tNas cn nas))
  xm_BadModuli := fun s b h => by
      unfold xb_BadModuli at h
      split at h
      · cases h; exact exm_gOf rfl rfl (c.fact 3 (f := tExm "ModulusError" "BadModuli" false))
      · cases h; exact exm_gOf rfl rfl (c.fact 4 (f := tExm "BadModuli" "BadModuli" true))
      · cases h
  em_BadModuli := mgX X G rfl (c.fact 5 (f := tGlo "BadModuli"))
  ex_BadModuli := tExc_ok X G rfl (c.fact 6 (f := tExc "BadModuli")) (c.fact 5 (f := tGlo "BadModuli"))
  isi_Moduli := {
    one := fun s b h => by
      unfold tb_Moduli at h
      split at h
      · cases h; exact kit_tc rfl (c.fact 7 (f := tKitTC "NoneType" "Moduli" false))
      · cases h; exact kit_tc rfl (c.fact 8 (f := tKitTC "bool" "Moduli" false))
      · cases h; exact kit_tc rfl (c.fact 9 (f := tKitTC "int" "Moduli" false))
      · cases h; exact kit_tc rfl (c.fact 10 (f := tKitTC "str" "Moduli" false))
      · cases h; exact kit_tc rfl (c.fact 11 (f := tKitTC "tuple" "Moduli" false))
      · cases h; exact kit_tc rfl (c.fact 12 (f := tKitTC "list" "Moduli" false))
      · cases h; exact kit_tc rfl (c.fact 13 (f := tKitTC "dict" "Moduli" false))
      · cases h; exact kit_cc rfl rfl (c.fact 14 (f := tKitCC "Moduli" "Moduli" true))
      · cases h
    cls := fun i b h => by
      match i, h with
      | 0, _ => exact tClss_ok (cn := cn) (c.fact 1 (f := tClss cn)) 0 (by decide)
      | _ + 1, h => cases h }
  isi_bool := {
    one := fun s b h => by
      unfold tb_bool at h
      split at h
      · cases h; exact kit_tt (c.fact 15 (f := tKitTT "NoneType" "bool" false))
      · cases h; exact kit_tt (c.fact 16 (f := tKitTT "bool" "bool" true))
      · cases h; exact kit_tt (c.fact 17 (f := tKitTT "int" "bool" false))
      · cases h; exact kit_tt (c.fact 18 (f := tKitTT "str" "bool" false))
      · cases h; exact kit_tt (c.fact 19 (f := tKitTT "tuple" "bool" false))
      · cases h; exact kit_tt (c.fact 20 (f := tKitTT "list" "bool" false))
      · cases h; exact kit_tt (c.fact 21 (f := tKitTT "dict" "bool" false))
      · cases h; exact kit_ct rfl (c.fact 22 (f := tKitCT "Moduli" "bool" false))
      · cases h
    cls := fun i b h => by
      match i, h with
      | 0, _ => exact tClss_ok (cn := cn) (c.fact 1 (f := tClss cn)) 0 (by decide)
      | _ + 1, h => cases h }
  isi_dict := {
    one := fun s b h => by
      unfold tb_dict at h
      split at h
      · cases h; exact kit_tt (c.fact 23 (f := tKitTT "NoneType" "dict" false))
      · cases h; exact kit_tt (c.fact 24 (f := tKitTT "bool" "dict" false))
      · cases h; exact kit_tt (c.fact 25 (f := tKitTT "int" "dict" false))
      · cases h; exact kit_tt (c.fact 26 (f := tKitTT "str" "dict" false))
      · cases h; exact kit_tt (c.fact 27 (f := tKitTT "tuple" "dict" false))
      · cases h; exact kit_tt (c.fact 28 (f := tKitTT "list" "dict" false))
      · cases h; exact kit_tt (c.fact 29 (f := tKitTT "dict" "dict" true))
      · cases h; exact kit_ct rfl (c.fact 30 (f := tKitCT "Moduli" "dict" false))
      · cases h
    cls := fun i b h => by
      match i, h with
      | 0, _ => exact tClss_ok (cn := cn) (c.fact 1 (f := tClss cn)) 0 (by decide)
      | _ + 1, h => cases h }
  isi_int := {
    one := fun s b h => by
      unfold tb_int at h
      split at h
      · cases h; exact kit_tt (c.fact 31 (f := tKitTT "NoneType" "int" false))
      · cases h; exact kit_tt (c.fact 32 (f := tKitTT "bool" "int" true))
      · cases h; exact kit_tt (c.fact 33 (f := tKitTT "int" "int" true))
      · cases h; exact kit_tt (c.fact 34 (f := tKitTT "str" "int" false))
      · cases h; exact kit_tt (c.fact 35 (f := tKitTT "tuple" "int" false))
      · cases h; exact kit_tt (c.fact 36 (f := tKitTT "list" "int" false))
      · cases h; exact kit_tt (c.fact 37 (f := tKitTT "dict" "int" false))
      · cases h; exact kit_ct rfl (c.fact 38 (f := tKitCT "Moduli" "int" false))
      · cases h
    cls := fun i b h => by
      match i, h with
      | 0, _ => exact tClss_ok (cn := cn) (c.fact 1 (f := tClss cn)) 0 (by decide)
      | _ + 1, h => cases h }
  isi_list := {
    one := fun s b h => by
      unfold tb_list at h
      split at h
      · cases h; exact kit_tt (c.fact 39 (f := tKitTT "NoneType" "list" false))
      · cases h; exact kit_tt (c.fact 40 (f := tKitTT "bool" "list" false))
      · cases h; exact kit_tt (c.fact 41 (f := tKitTT "int" "list" false))
      · cases h; exact kit_tt (c.fact 42 (f := tKitTT "str" "list" false))
      · cases h; exact kit_tt (c.fact 43 (f := tKitTT "tuple" "list" false))
      · cases h; exact kit_tt (c.fact 44 (f := tKitTT "list" "list" true))
      · cases h; exact kit_tt (c.fact 45 (f := tKitTT "dict" "list" false))
      · cases h; exact kit_ct rfl (c.fact 46 (f := tKitCT "Moduli" "list" false))
      · cases h
    cls := fun i b h => by
      match i, h with
      | 0, _ => exact tClss_ok (cn := cn) (c.fact 1 (f := tClss cn)) 0 (by decide)
      | _ + 1, h => cases h }
  isi_str := {
    one := fun s b h => by
      unfold tb_str at h
      split at h
      · cases h; exact kit_tt (c.fact 47 (f := tKitTT "NoneType" "str" false))
      · cases h; exact kit_tt (c.fact 48 (f := tKitTT "bool" "str" false))
      · cases h; exact kit_tt (c.fact 49 (f := tKitTT "int" "str" false))
      · cases h; exact kit_tt (c.fact 50 (f := tKitTT "str" "str" true))
      · cases h; exact kit_tt (c.fact 51 (f := tKitTT "tuple" "str" false))
      · cases h; exact kit_tt (c.fact 52 (f := tKitTT "list" "str" false))
      · cases h; exact kit_tt (c.fact 53 (f := tKitTT "dict" "str" false))
      · cases h; exact kit_ct rfl (c.fact 54 (f := tKitCT "Moduli" "str" false))
      · cases h
    cls := fun i b h => by
      match i, h with
      | 0, _ => exact tClss_ok (cn := cn) (c.fact 1 (f := tClss cn)) 0 (by decide)
      | _ + 1, h => cases h }
  isi_tuple := {
    one := fun s b h => by
      unfold tb_tuple at h
      split at h
      · cases h; exact kit_tt (c.fact 55 (f := tKitTT "NoneType" "tuple" false))
      · cases h; exact kit_tt (c.fact 56 (f := tKitTT "bool" "tuple" false))
      · cases h; exact kit_tt (c.fact 57 (f := tKitTT "int" "tuple" false))
      · cases h; exact kit_tt (c.fact 58 (f := tKitTT "str" "tuple" false))
      · cases h; exact kit_tt (c.fact 59 (f := tKitTT "tuple" "tuple" true))
      · cases h; exact kit_tt (c.fact 60 (f := tKitTT "list" "tuple" false))
      · cases h; exact kit_tt (c.fact 61 (f := tKitTT "dict" "tuple" false))
      · cases h; exact kit_ct rfl (c.fact 62 (f := tKitCT "Moduli" "tuple" false))
      · cases h
    cls := fun i b h => by
      match i, h with
      | 0, _ => exact tClss_ok (cn := cn) (c.fact 1 (f := tClss cn)) 0 (by decide)
      | _ + 1, h => cases h }
  cm_Moduli := mgC X G rfl (c.fact 63 (f := tGlo "Moduli"))
set_option maxHeartbeats 8000000
theorem go {P : Program} (K : PySem.W.Frag) (w : World) (mg : Str → Option Value) (h : Heap) (X : K.In h) (c : SaysC cs fn K) (G : h.Ns mainGlobals mg) : ∃ (g : MM.G) (fd : FuncData), g.K = K ∧ (∀ fa, mg "law" = some (.ref fa) → fa = He.ga K "law") ∧ (∀ (s : Shared) (u : Value), BindsTo s fd ⟨[u], []⟩ [("_law_script", u)]) ∧
    ∀ base : Heap, FnOk P w K mg base (L2.CX P w) 6 (He.ga K "law") fd ["_law_script"] (spF g 1 r_law) := by
  have T := tx X G c
  obtain ⟨fd__law_begin, F__law_begin⟩ := c.def_ 0 (st := st__law_begin)
  obtain ⟨fd__law_draw, F__law_draw⟩ := c.def_ 1 (st := st__law_draw)
  obtain ⟨fd__law_numbers, F__law_numbers⟩ := c.def_ 2 (st := st__law_numbers)
  obtain ⟨fd_is_whole, F_is_whole⟩ := c.def_ 3 (st := st_is_whole)
  obtain ⟨fd_divides, F_divides⟩ := c.def_ 4 (st := st_divides)
  obtain ⟨fd_greatest_ones, F_greatest_ones⟩ := c.def_ 5 (st := st_greatest_ones)
  obtain ⟨fd_Moduli__init_, F_Moduli__init_⟩ := c.def_ 6 (st := st_Moduli__init_)
  obtain ⟨fd_Moduli__or_, F_Moduli__or_⟩ := c.def_ 7 (st := st_Moduli__or_)
  obtain ⟨fd_common, F_common⟩ := c.def_ 8 (st := st_common)
  obtain ⟨fd_Moduli__and_, F_Moduli__and_⟩ := c.def_ 9 (st := st_Moduli__and_)
  obtain ⟨fd__law_in, F__law_in⟩ := c.def_ 10 (st := st__law_in)
  obtain ⟨fd_Moduli__contains_, F_Moduli__contains_⟩ := c.def_ 11 (st := st_Moduli__contains_)
  obtain ⟨fd__law_like, F__law_like⟩ := c.def_ 12 (st := st__law_like)
  obtain ⟨fd_Moduli__le_, F_Moduli__le_⟩ := c.def_ 13 (st := st_Moduli__le_)
  obtain ⟨fd_Moduli__eq_, F_Moduli__eq_⟩ := c.def_ 14 (st := st_Moduli__eq_)
  obtain ⟨fd_Moduli_tops, F_Moduli_tops⟩ := c.def_ 15 (st := st_Moduli_tops)
  obtain ⟨fd_Moduli_least_out, F_Moduli_least_out⟩ := c.def_ 16 (st := st_Moduli_least_out)
  obtain ⟨fd__law_bad, F__law_bad⟩ := c.def_ 17 (st := st__law_bad)
  obtain ⟨fd_law, F_law⟩ := c.def_ 18 (st := st_law)
  have b__law_begin : L2.Binds K fd__law_begin ["_law_script"] [] := fun_binds F__law_begin fun _ _ _ _ _ _ us hl => match us, hl with | [_], _ => rfl
  have k__law_begin : ∀ base : Heap, FnOk P w (gOf K cn en []).K mg base (L2.CX P w) 1 (He.fAd K ("_law_begin", none)) fd__law_begin ["_law_script"] (spF (gOf K cn en []) 1 r__law_begin) := fun base => ok__law_begin F__law_begin T 
  have b__law_draw : L2.Binds K fd__law_draw ["_law_draws", "_law_size"] [] := fun_binds F__law_draw fun _ _ _ _ _ _ us hl => match us, hl with | [_, _], _ => rfl
  have k__law_draw : ∀ base : Heap, FnOk P w (gOf K cn en []).K mg base (L2.CX P w) 1 (He.fAd K ("_law_draw", none)) fd__law_draw ["_law_draws", "_law_size"] (spJ (gOf K cn en []) 2 r__law_draw) := fun base => ok__law_draw F__law_draw T 
  have b__law_numbers : L2.Binds K fd__law_numbers ["_law_draws"] [] := fun_binds F__law_numbers fun _ _ _ _ _ _ us hl => match us, hl with | [_], _ => rfl
  have k__law_numbers : ∀ base : Heap, FnOk P w (gOf K cn en []).K mg base (L2.CX P w) 2 (He.fAd K ("_law_numbers", none)) fd__law_numbers ["_law_draws"] (spJ (gOf K cn en []) 1 r__law_numbers) := fun base => ok__law_numbers F__law_numbers T (calF_of X G (c.fact 64 (f := tGlo "_law_draw")) rfl (k__law_draw base) F__law_draw.kp b__law_draw)
  have b_is_whole : L2.Binds K fd_is_whole ["thing"] [] := fun_binds F_is_whole fun _ _ _ _ _ _ us hl => match us, hl with | [_], _ => rfl
  have k_is_whole : ∀ base : Heap, FnOk P w (gOf K cn en []).K mg base (L2.CX P w) 1 (He.fAd K ("is_whole", none)) fd_is_whole ["thing"] (spF (gOf K cn en []) 1 r_is_whole) := fun base => ok_is_whole F_is_whole T 
  have b_divides : L2.Binds K fd_divides ["one", "other"] [] := fun_binds F_divides fun _ _ _ _ _ _ us hl => match us, hl with | [_, _], _ => rfl
  have k_divides : ∀ base : Heap, FnOk P w (gOf K cn en []).K mg base (L2.CX P w) 1 (He.fAd K ("divides", none)) fd_divides ["one", "other"] (spF (gOf K cn en []) 2 r_divides) := fun base => ok_divides F_divides T 
  have b_greatest_ones : L2.Binds K fd_greatest_ones ["numbers"] [] := fun_binds F_greatest_ones fun _ _ _ _ _ _ us hl => match us, hl with | [_], _ => rfl
  have k_greatest_ones : ∀ base : Heap, FnOk P w (gOf K cn en []).K mg base (L2.CX P w) 2 (He.fAd K ("greatest_ones", none)) fd_greatest_ones ["numbers"] (spF (gOf K cn en []) 1 r_greatest_ones) := fun base => ok_greatest_ones F_greatest_ones T (calF_of X G (c.fact 65 (f := tGlo "divides")) rfl (k_divides base) F_divides.kp b_divides)
  have b_Moduli__init_ : L2.Binds K fd_Moduli__init_ ["self", "numbers"] [] := fun_binds F_Moduli__init_ fun _ _ _ _ _ _ us hl => match us, hl with | [_, _], _ => rfl
  have k_Moduli__init_ : ∀ base : Heap, FnOk P w (gOf K cn en []).K mg base (L2.CX P w) 3 (He.fAd K ("Moduli", some "__init__")) fd_Moduli__init_ ["self", "numbers"] (spJ (gOf K cn en []) 2 r_Moduli__init_) := fun base => ok_Moduli__init_ F_Moduli__init_ T (calF_of X G (c.fact 66 (f := tGlo "is_whole")) rfl (k_is_whole base) F_is_whole.kp b_is_whole) (calF_of X G (c.fact 67 (f := tGlo "greatest_ones")) rfl (k_greatest_ones base) F_greatest_ones.kp b_greatest_ones)
  have b_Moduli__or_ : L2.Binds K fd_Moduli__or_ ["self", "other"] [] := fun_binds F_Moduli__or_ fun _ _ _ _ _ _ us hl => match us, hl with | [_, _], _ => rfl
  have k_Moduli__or_ : ∀ base : Heap, FnOk P w (gOf K cn en []).K mg base (L2.CX P w) 5 (He.fAd K ("Moduli", some "__or__")) fd_Moduli__or_ ["self", "other"] (spF (gOf K cn en []) 2 r_Moduli__or_) := fun base => ok_Moduli__or_ F_Moduli__or_ T (calC_of X G rfl (c.fact 63 (f := tGlo "Moduli")) (c.fact 68 (f := tMkr "Moduli")) rfl (k_Moduli__init_ base) b_Moduli__init_)
  have b_common : L2.Binds K fd_common ["one", "other"] [] := fun_binds F_common fun _ _ _ _ _ _ us hl => match us, hl with | [_, _], _ => rfl
  have k_common : ∀ base : Heap, FnOk P w (gOf K cn en []).K mg base (L2.CX P w) 1 (He.fAd K ("common", none)) fd_common ["one", "other"] (spF (gOf K cn en []) 2 r_common) := fun base => ok_common F_common T 
  have b_Moduli__and_ : L2.Binds K fd_Moduli__and_ ["self", "other"] [] := fun_binds F_Moduli__and_ fun _ _ _ _ _ _ us hl => match us, hl with | [_, _], _ => rfl
  have k_Moduli__and_ : ∀ base : Heap, FnOk P w (gOf K cn en []).K mg base (L2.CX P w) 5 (He.fAd K ("Moduli", some "__and__")) fd_Moduli__and_ ["self", "other"] (spF (gOf K cn en []) 2 r_Moduli__and_) := fun base => ok_Moduli__and_ F_Moduli__and_ T (calC_of X G rfl (c.fact 63 (f := tGlo "Moduli")) (c.fact 68 (f := tMkr "Moduli")) rfl (k_Moduli__init_ base) b_Moduli__init_) (calF_of X G (c.fact 69 (f := tGlo "common")) rfl (k_common base) F_common.kp b_common)
  have b__law_in : L2.Binds K fd__law_in ["_law_numbers_here", "_law_n"] [] := fun_binds F__law_in fun _ _ _ _ _ _ us hl => match us, hl with | [_, _], _ => rfl
  have k__law_in : ∀ base : Heap, FnOk P w (gOf K cn en []).K mg base (L2.CX P w) 1 (He.fAd K ("_law_in", none)) fd__law_in ["_law_numbers_here", "_law_n"] (spF (gOf K cn en []) 2 r__law_in) := fun base => ok__law_in F__law_in T 
  have b_Moduli__contains_ : L2.Binds K fd_Moduli__contains_ ["self", "n"] [] := fun_binds F_Moduli__contains_ fun _ _ _ _ _ _ us hl => match us, hl with | [_, _], _ => rfl
  have k_Moduli__contains_ : ∀ base : Heap, FnOk P w (gOf K cn en []).K mg base (L2.CX P w) 2 (He.fAd K ("Moduli", some "__contains__")) fd_Moduli__contains_ ["self", "n"] (spF (gOf K cn en []) 2 r_Moduli__contains_) := fun base => ok_Moduli__contains_ F_Moduli__contains_ T (calF_of X G (c.fact 66 (f := tGlo "is_whole")) rfl (k_is_whole base) F_is_whole.kp b_is_whole) (calF_of X G (c.fact 65 (f := tGlo "divides")) rfl (k_divides base) F_divides.kp b_divides)
  have b__law_like : L2.Binds K fd__law_like ["_law_actual", "_law_due"] [] := fun_binds F__law_like fun _ _ _ _ _ _ us hl => match us, hl with | [_, _], _ => rfl
  have k__law_like : ∀ base : Heap, FnOk P w (gOf K cn en []).K mg base (L2.CX P w) 5 (He.fAd K ("_law_like", none)) fd__law_like ["_law_actual", "_law_due"] (spF (gOf K cn en []) 2 r__law_like) := fun base => ok__law_like F__law_like T (He.glo_ok X G (c.fact 70 (f := tGlo "_law_like"))) b__law_like  4
  have b_Moduli__le_ : L2.Binds K fd_Moduli__le_ ["self", "other"] [] := fun_binds F_Moduli__le_ fun _ _ _ _ _ _ us hl => match us, hl with | [_, _], _ => rfl
  have k_Moduli__le_ : ∀ base : Heap, FnOk P w (gOf K cn en []).K mg base (L2.CX P w) 2 (He.fAd K ("Moduli", some "__le__")) fd_Moduli__le_ ["self", "other"] (spF (gOf K cn en []) 2 r_Moduli__le_) := fun base => ok_Moduli__le_ F_Moduli__le_ T (calF_of X G (c.fact 65 (f := tGlo "divides")) rfl (k_divides base) F_divides.kp b_divides)
  have b_Moduli__eq_ : L2.Binds K fd_Moduli__eq_ ["self", "other"] [] := fun_binds F_Moduli__eq_ fun _ _ _ _ _ _ us hl => match us, hl with | [_, _], _ => rfl
  have k_Moduli__eq_ : ∀ base : Heap, FnOk P w (gOf K cn en []).K mg base (L2.CX P w) 1 (He.fAd K ("Moduli", some "__eq__")) fd_Moduli__eq_ ["self", "other"] (spF (gOf K cn en []) 2 r_Moduli__eq_) := fun base => ok_Moduli__eq_ F_Moduli__eq_ T 
  have b_Moduli_tops : L2.Binds K fd_Moduli_tops ["self"] [] := fun_binds F_Moduli_tops fun _ _ _ _ _ _ us hl => match us, hl with | [_], _ => rfl
  have k_Moduli_tops : ∀ base : Heap, FnOk P w (gOf K cn en []).K mg base (L2.CX P w) 1 (He.fAd K ("Moduli", some "tops")) fd_Moduli_tops ["self"] (spF (gOf K cn en []) 1 r_Moduli_tops) := fun base => ok_Moduli_tops F_Moduli_tops T 
  have b_Moduli_least_out : L2.Binds K fd_Moduli_least_out ["self"] [] := fun_binds F_Moduli_least_out fun _ _ _ _ _ _ us hl => match us, hl with | [_], _ => rfl
  have k_Moduli_least_out : ∀ base : Heap, FnOk P w (gOf K cn en []).K mg base (L2.CX P w) 2 (He.fAd K ("Moduli", some "least_out")) fd_Moduli_least_out ["self"] (spF (gOf K cn en []) 1 r_Moduli_least_out) := fun base => ok_Moduli_least_out F_Moduli_least_out T (calF_of X G (c.fact 65 (f := tGlo "divides")) rfl (k_divides base) F_divides.kp b_divides)
  have b__law_bad : L2.Binds K fd__law_bad ["_law_thing"] [] := fun_binds F__law_bad fun _ _ _ _ _ _ us hl => match us, hl with | [_], _ => rfl
  have k__law_bad : ∀ base : Heap, FnOk P w (gOf K cn en []).K mg base (L2.CX P w) 5 (He.fAd K ("_law_bad", none)) fd__law_bad ["_law_thing"] (spF (gOf K cn en []) 1 r__law_bad) := fun base => ok__law_bad F__law_bad T (calC_of X G rfl (c.fact 63 (f := tGlo "Moduli")) (c.fact 68 (f := tMkr "Moduli")) rfl (k_Moduli__init_ base) b_Moduli__init_)
  have b_law : L2.Binds K fd_law ["_law_script"] [] := fun_binds F_law fun _ _ _ _ _ _ us hl => match us, hl with | [_], _ => rfl
  have k_law : ∀ base : Heap, FnOk P w (gOf K cn en []).K mg base (L2.CX P w) 6 (He.fAd K ("law", none)) fd_law ["_law_script"] (spF (gOf K cn en []) 1 r_law) := fun base => ok_law F_law T (calF_of X G (c.fact 71 (f := tGlo "_law_begin")) rfl (k__law_begin base) F__law_begin.kp b__law_begin) (calF_of X G (c.fact 72 (f := tGlo "_law_numbers")) rfl (k__law_numbers base) F__law_numbers.kp b__law_numbers) (calC_of X G rfl (c.fact 63 (f := tGlo "Moduli")) (c.fact 68 (f := tMkr "Moduli")) rfl (k_Moduli__init_ base) b_Moduli__init_) (op_of rfl (c.fact 73 (f := tMeth' "Moduli" "__or__")) (c.fact 74 (f := tSelf "Moduli")) rfl (k_Moduli__or_ base) b_Moduli__or_) (op_of rfl (c.fact 75 (f := tMeth' "Moduli" "__and__")) (c.fact 74 (f := tSelf "Moduli")) rfl (k_Moduli__and_ base) b_Moduli__and_) (calF_of X G (c.fact 76 (f := tGlo "_law_in")) rfl (k__law_in base) F__law_in.kp b__law_in) (op_of rfl (c.fact 77 (f := tMeth' "Moduli" "__contains__")) (c.fact 74 (f := tSelf "Moduli")) rfl (k_Moduli__contains_ base) b_Moduli__contains_) (calF_of X G (c.fact 70 (f := tGlo "_law_like")) rfl (k__law_like base) F__law_like.kp b__law_like) (op_of rfl (c.fact 78 (f := tMeth' "Moduli" "__le__")) (c.fact 74 (f := tSelf "Moduli")) rfl (k_Moduli__le_ base) b_Moduli__le_) (op_of rfl (c.fact 79 (f := tMeth' "Moduli" "__eq__")) (c.fact 74 (f := tSelf "Moduli")) rfl (k_Moduli__eq_ base) b_Moduli__eq_) (calM_of rfl (c.fact 81 (f := tCls "Moduli")) (c.fact 80 (f := tMeth' "Moduli" "tops")) rfl (k_Moduli_tops base) b_Moduli_tops) (calM_of rfl (c.fact 81 (f := tCls "Moduli")) (c.fact 82 (f := tMeth' "Moduli" "least_out")) rfl (k_Moduli_least_out base) b_Moduli_least_out) (calF_of X G (c.fact 83 (f := tGlo "_law_bad")) rfl (k__law_bad base) F__law_bad.kp b__law_bad) (calF_of X G (c.fact 64 (f := tGlo "_law_draw")) rfl (k__law_draw base) F__law_draw.kp b__law_draw)
  refine ⟨gOf K cn en [], fd_law, rfl, fun fa e => ?_, fun s u => fun_bindsTo F_law (ps := ["_law_script"]) (fun _ _ _ _ _ _ us hl => match us, hl with | [_], _ => rfl) s [u] rfl, k_law⟩
  exact Value.ref.inj (Option.some.inj (e.symm.trans (He.glo_ok X G (c.fact 84 (f := tGlo "law")))))
end Ak02
open PySem PySem.W PySem.Calls PyProof.Rows

set_option maxHeartbeats 2000000
namespace MM
open PySem PySem.Spec PyProof.Rows L2
/-! ### the mirrors at an environment -/
theorem ap_bin2 (ma mb : EDen) (f : P → P → DEnv → Res (P × DEnv)) (env : DEnv) : bin2 ma mb f env = ((ma env).bind fun a => (mb a.2).bind fun c => f a.1.fz c.1 c.2) := rfl
theorem ap_un1 (ma : EDen) (f : P → DEnv → Res (P × DEnv)) (env : DEnv) : un1 ma f env = ((ma env).bind fun a => f a.1 a.2) := rfl
theorem ap_eVar (i : Nat) (e : DEnv) : eVar i e = (match e[i]? with
  | some (.fr d) => .ok (.d d, e)
  | some (.ow _) => .ok (.s i, e)
  | _ => .stuck) := rfl
theorem ap_eC (d : D) (e : DEnv) : eC d e = (.ok (.d d, e)) := rfl
theorem ap_eAdd (ma mc : EDen) (e : DEnv) : eAdd ma mc e = (bin2 ma mc (f2 (kI fun i j => i + j))) e := rfl
theorem ap_eSub (ma mc : EDen) (e : DEnv) : eSub ma mc e = (bin2 ma mc (f2 (kI fun i j => i - j))) e := rfl
theorem ap_eMul (ma mc : EDen) (e : DEnv) : eMul ma mc e = (bin2 ma mc (f2 kMul)) e := rfl
theorem ap_eDiv (ma mc : EDen) (e : DEnv) : eDiv ma mc e = (bin2 ma mc (f2 kDiv)) e := rfl
theorem ap_eMod (ma mc : EDen) (e : DEnv) : eMod ma mc e = (bin2 ma mc (f2 kMod)) e := rfl
theorem ap_eModN (ma mc : EDen) (e : DEnv) : eModN ma mc e = (bin2 ma mc (f2 kModN)) e := rfl
theorem ap_ePow (ma mc : EDen) (e : DEnv) : ePow ma mc e = (bin2 ma mc (f2 kPow)) e := rfl
theorem ap_eNeg (ma : EDen) (e : DEnv) : eNeg ma e = (un1 ma (f1 kNeg)) e := rfl
theorem ap_tst (m : EDen) (env : DEnv) : tst m env = ((m env).bind fun a => match a.1 with
  | .d (.bl k) => .ok (k, a.2)
  | _ => .stuck) := rfl
theorem ap_eLt (ma mc : EDen) (e : DEnv) : eLt ma mc e = (bin2 ma mc (f2 (kB fun i j => decide (i < j)))) e := rfl
theorem ap_eLe (ma mc : EDen) (e : DEnv) : eLe ma mc e = (bin2 ma mc (f2 (kB fun i j => decide (i ≤ j)))) e := rfl
theorem ap_eGt (ma mc : EDen) (e : DEnv) : eGt ma mc e = (bin2 ma mc (f2 (kB fun i j => decide (j < i)))) e := rfl
theorem ap_eGe (ma mc : EDen) (e : DEnv) : eGe ma mc e = (bin2 ma mc (f2 (kB fun i j => decide (j ≤ i)))) e := rfl
theorem ap_eEq (ma mc : EDen) (e : DEnv) : eEq ma mc e = (bin2 ma mc (f2 kEq)) e := rfl
theorem ap_eNe (ma mc : EDen) (e : DEnv) : eNe ma mc e = (bin2 ma mc (f2 kNe)) e := rfl
theorem ap_eIs (ma mc : EDen) (e : DEnv) : eIs ma mc e = (bin2 ma mc (f2 kIs)) e := rfl
theorem ap_eIsNot (ma mc : EDen) (e : DEnv) : eIsNot ma mc e = (bin2 ma mc (f2 kIsNot)) e := rfl
theorem ap_tAn (t u : TDen) (e : DEnv) : tAn t u e = ((t e).bind fun a => if a.1 then u a.2 else .ok (false, a.2)) := rfl
theorem ap_tO (t u : TDen) (e : DEnv) : tO t u e = ((t e).bind fun a => if a.1 then .ok (true, a.2) else u a.2) := rfl
theorem ap_tNo (t : TDen) (e : DEnv) : tNo t e = ((t e).bind fun a => .ok (!a.1, a.2)) := rfl
theorem ap_eAn (m n : EDen) (e : DEnv) : eAn m n e = ((m e).bind fun a => match a.1 with
  | .d (.bl true) => n a.2
  | .d (.bl false) => .ok (.d (.bl false), a.2)
  | _ => .stuck) := rfl
theorem ap_eO (m n : EDen) (e : DEnv) : eO m n e = ((m e).bind fun a => match a.1 with
  | .d (.bl false) => n a.2
  | .d (.bl true) => .ok (.d (.bl true), a.2)
  | _ => .stuck) := rfl
theorem ap_eNo (m : EDen) (e : DEnv) : eNo m e = ((m e).bind fun a => match a.1 with
  | .d (.bl k) => .ok (.d (.bl (!k)), a.2)
  | _ => .stuck) := rfl
theorem ap_eIf (t : TDen) (m n : EDen) (e : DEnv) : eIf t m n e = ((t e).bind fun a => if a.1 then m a.2 else n a.2) := rfl
theorem ap_tTr (m : EDen) (e : DEnv) : tTr m e = ((m e).bind fun a => (ofO (a.1.vw a.2)).bind fun d => (ofO (kTru d)).bind fun k => .ok (k, a.2)) := rfl
theorem ap_eOT (m n : EDen) (e : DEnv) : eOT m n e = ((m e).bind fun a => (ofO (a.1.vw a.2)).bind fun d => (ofO (kTru d)).bind fun k => if k then .ok (a.1, a.2) else n a.2) := rfl
theorem ap_asg (i : Nat) (p : P) (e : DEnv) : asg i p e = (match p with
  | .d x => some (e.set i (.fr x))
  | .n x => some (e.set i (if i = 0 then .fr x else .ow x))
  | .s k => (P.frz (.s k) e).bind fun z => some (z.2.set i (.fr z.1))) := rfl
theorem ap_sNx (e : DEnv) : sNx e = (.ok (.nx, e)) := rfl
theorem ap_sSeq (m n : SDen) (e : DEnv) : sSeq m n e = ((m e).bind fun a => match a.1 with
  | .nx => n a.2
  | f => .ok (f, a.2)) := rfl
theorem ap_sAsg (m : EDen) (bd : BDn) (e : DEnv) : sAsg m bd e = ((m e).bind fun a => (ofO (bd a.1 a.2)).bind fun e' => .ok (.nx, e')) := rfl
theorem ap_sDrop (m : EDen) (e : DEnv) : sDrop m e = ((m e).bind fun a => .ok (.nx, a.2)) := rfl
theorem ap_sRet (m : EDen) (e : DEnv) : sRet m e = ((m e).bind fun a => .ok (.rt a.1, a.2)) := rfl
theorem ap_sRetN (e : DEnv) : sRetN e = (.ok (.rt (.d .non), e)) := rfl
theorem ap_sIf (t : TDen) (m n : SDen) (e : DEnv) : sIf t m n e = ((t e).bind fun a => if a.1 then m a.2 else n a.2) := rfl
theorem ap_bTup (bs : List BDn) (p : P) (e : DEnv) : bTup bs p e = (match p.vw e with
  | some (.tup ds) => bEach bs ds e
  | _ => none) := rfl
theorem ap_bLst (bs : List BDn) (p : P) (e : DEnv) : bLst bs p e = (match p.vw e with
  | some (.lst ds) => bEach bs ds e
  | _ => none) := rfl
theorem ap_sFor (m : IDen) (bd : BDn) (body : SDen) (e : DEnv) : sFor m bd body e = ((m e).bind fun a => forD bd body a.1 a.2) := rfl
theorem ap_sWhile (n : Nat) (t : TDen) (body : SDen) (e : DEnv) : sWhile n t body e = (whileD t body n e) := rfl
theorem ap_aNil (e : DEnv) : aNil e = (.ok ([], e)) := rfl
theorem ap_aCons (m : EDen) (ms : ADen) (e : DEnv) : aCons m ms e = ((m e).bind fun a => (ms a.2).bind fun c => .ok (a.1.fz :: c.1, c.2)) := rfl
theorem ap_eCall (n : Nat) (mf : List D → Res (P × D)) (ms : ADen) (e : DEnv) : eCall n mf ms e = ((ms e).bind fun a => (ofO (frzs a.1 a.2)).bind fun z => if z.1.length = n then outV (mf z.1) z.2 else .stuck) := rfl
theorem ap_eCallI (n i : Nat) (mf : List D → Res (P × D)) (ms : ADen) (e : DEnv) : eCallI n i mf ms e = (match (e[i]? : Option Sl) with
  | some (Sl.ow _) => (ms e).bind fun a => (ofO (frzs a.1 a.2)).bind fun z => match (z.2[i]? : Option Sl) with
    | some (Sl.ow d0) => if z.1.length + 1 = n then outI i (mf (d0 :: z.1)) z.2 else .stuck
    | _ => .stuck
  | _ => .stuck) := rfl
theorem ap_eMeth (c : Nat) (m : Str) (n : Nat) (mf : List D → Res (P × D)) (mo : EDen) (ms : ADen) (e : DEnv) : eMeth c m n mf mo ms e = ((mo e).bind fun o => (ofO (o.1.vw o.2)).bind fun d => if isObj c m d then (ms o.2).bind fun a => (ofO (frzs (o.1.fz :: a.1) a.2)).bind fun z => if z.1.length = n then outV (mf z.1) z.2 else .stuck else .stuck) := rfl
theorem ap_eMethI (c : Nat) (m : Str) (n i : Nat) (mf : List D → Res (P × D)) (ms : ADen) (e : DEnv) : eMethI c m n i mf ms e = (match (e[i]? : Option Sl) with
  | some (Sl.ow d) => if isObj c m d then (ms e).bind fun a => (ofO (frzs a.1 a.2)).bind fun z => match (z.2[i]? : Option Sl) with
      | some (Sl.ow d0) => if z.1.length + 1 = n then outI i (mf (d0 :: z.1)) z.2 else .stuck
      | _ => .stuck
    else .stuck
  | _ => .stuck) := rfl
theorem ap_eMake (c n : Nat) (mf : List D → Res (P × D)) (ms : ADen) (e : DEnv) : eMake c n mf ms e = ((ms e).bind fun a => (ofO (frzs a.1 a.2)).bind fun z => if z.1.length + 1 = n then outK (mf (.obj c [] :: z.1)) z.2 else .stuck) := rfl
theorem ap_eFnA (f : List P → DEnv → Res (P × DEnv)) (ms : ADen) (e : DEnv) : eFnA f ms e = ((ms e).bind fun a => f a.1 a.2) := rfl
theorem ap_eFld (c : Nat) (f : Str) (mo : EDen) (e : DEnv) : eFld c f mo e = (un1 mo (f1 (kFld c f))) e := rfl
theorem ap_sFldM (c i : Nat) (f : Str) (m : EDen) (e : DEnv) : sFldM c i f m e = ((m e).bind fun a => (ofO (a.1.frz a.2)).bind fun z => match (z.2[i]? : Option Sl) with
  | some (Sl.ow (.obj c' fs)) => if c' = c ∧ fs.length < 1000 then .ok (.nx, z.2.set i (.ow (.obj c (putD f z.1 fs)))) else .stuck
  | _ => .stuck) := rfl
theorem ap_sFldA (c i : Nat) (f : Str) (k : Int → Int → Int) (m : EDen) (e : DEnv) : sFldA c i f k m e = (match (e[i]? : Option Sl) with
  | some (Sl.ow (.obj c' fs)) => if c' = c then match fs.lookup f with
      | some (.int n) => (m e).bind fun a => match a.1 with
        | .d (.int j) => match (a.2[i]? : Option Sl) with
          | some (Sl.ow (.obj c2 fs2)) => if c2 = c ∧ fs2.length < 1000 then .ok (.nx, a.2.set i (.ow (.obj c (putD f (.int (k n j)) fs2)))) else .stuck
          | _ => .stuck
        | _ => .stuck
      | _ => .stuck
    else .stuck
  | _ => .stuck) := rfl
theorem ap_eIx (ma mb : EDen) (e : DEnv) : eIx ma mb e = (bin2 ma mb (f2 kIx)) e := rfl
theorem ap_eDGet (ma mb : EDen) (e : DEnv) : eDGet ma mb e = (bin2 ma mb (f2 kDGet)) e := rfl
theorem ap_eDIn (ma mb : EDen) (e : DEnv) : eDIn ma mb e = (bin2 ma mb (f2 kDIn)) e := rfl
theorem ap_eDNotIn (ma mb : EDen) (e : DEnv) : eDNotIn ma mb e = (bin2 ma mb (f2 kDNotIn)) e := rfl
theorem ap_eDGet2 (md mk mx : EDen) (e : DEnv) : eDGet2 md mk mx e = ((md e).bind fun a => (ofO (a.1.vw a.2)).bind fun d => if MM.isD d then (mk a.2).bind fun b => (mx b.2).bind fun c => (ofO (a.1.fz.vw c.2)).bind fun d => (ofO (b.1.fz.vw c.2)).bind fun k => (ofO (kGet d k)).bind fun o => match o with
  | some z => .ok (.d z, c.2)
  | none => .ok (c.1, c.2)
  else .stuck) := rfl
theorem ap_sAug (i : Nat) (k : Int → Int → Int) (m : EDen) (e : DEnv) : sAug i k m e = (match (e[i]? : Option Sl) with
  | some (Sl.fr (.int n)) => (m e).bind fun a => match a.1 with
    | .d (.int j) => .ok (.nx, a.2.set i (.fr (.int (k n j))))
    | _ => .stuck
  | _ => .stuck) := rfl
theorem ap_sPar (i j : Nat) (ms : ADen) (e : DEnv) : sPar i j ms e = ((ms e).bind fun a => (ofO (frzs a.1 a.2)).bind fun z => match z.1 with
  | [x, y] => .ok (.nx, (z.2.set i (.fr x)).set j (.fr y))
  | _ => .stuck) := rfl
theorem ap_sPar3 (i j l : Nat) (ms : ADen) (e : DEnv) : sPar3 i j l ms e = ((ms e).bind fun a => (ofO (frzs a.1 a.2)).bind fun z => match z.1 with
  | [x, y, w] => .ok (.nx, ((z.2.set i (.fr x)).set j (.fr y)).set l (.fr w))
  | _ => .stuck) := rfl
theorem ap_sPut (i : Nat) (mk mv : EDen) (e : DEnv) : sPut i mk mv e = ((mv e).bind fun a => match (a.2[i]? : Option Sl) with
  | some (Sl.ow _) => (mk a.2).bind fun b => (ofO (b.1.frz b.2)).bind fun y => (ofO (a.1.fz.frz y.2)).bind fun z => match (z.2[i]? : Option Sl) with
    | some (Sl.ow o) => (ofO (putAt o y.1 z.1)).bind fun o' => .ok (.nx, z.2.set i (.ow o'))
    | _ => .stuck
  | _ => .stuck) := rfl
theorem ap_eApp (i : Nat) (m : EDen) (e : DEnv) : eApp i m e = (match (e[i]? : Option Sl) with
  | some (Sl.ow (.lst _)) => (m e).bind fun a => (ofO (a.1.frz a.2)).bind fun z => match (z.2[i]? : Option Sl) with
    | some (Sl.ow (.lst l)) => if l.length < 16777216 then .ok (.d .non, z.2.set i (.ow (.lst (l ++ [z.1])))) else .stuck
    | _ => .stuck
  | _ => .stuck) := rfl
theorem ap_ePop (i : Nat) (e : DEnv) : ePop i e = (match (e[i]? : Option Sl) with
  | some (Sl.ow (.lst l)) => match l[l.length - 1]? with
    | some d => .ok (.d d, e.set i (.ow (.lst l.dropLast)))
    | none => .stuck
  | _ => .stuck) := rfl
theorem ap_eTup (ms : ADen) (e : DEnv) : eTup ms e = ((ms e).bind fun a => (ofO (frzs a.1 a.2)).bind fun z => if z.1.length ≤ 16777216 then .ok (.d (.tup z.1), z.2) else .stuck) := rfl
theorem ap_eLst (ms : ADen) (e : DEnv) : eLst ms e = ((ms e).bind fun a => (ofO (frzs a.1 a.2)).bind fun z => if z.1.length ≤ 16777216 then .ok (.n (.lst z.1), z.2) else .stuck) := rfl
theorem ap_eDNK (e : DEnv) : eDNK e = (.ok (.n (.dK []), e)) := rfl
theorem ap_eDNT (e : DEnv) : eDNT e = (.ok (.n (.dT []), e)) := rfl
theorem ap_eCatS (ma mc : EDen) (e : DEnv) : eCatS ma mc e = (bin2 ma mc (f2 kCatS)) e := rfl
theorem ap_eCatL (ma mc : EDen) (e : DEnv) : eCatL ma mc e = (bin2 ma mc (n2 kCatL)) e := rfl
theorem ap_eCatT (ma mc : EDen) (e : DEnv) : eCatT ma mc e = (bin2 ma mc (f2 kCatT)) e := rfl
theorem ap_eRepL (ma mc : EDen) (e : DEnv) : eRepL ma mc e = (bin2 ma mc (n2 kRepL)) e := rfl
theorem ap_eIn (ma mc : EDen) (e : DEnv) : eIn ma mc e = (bin2 ma mc (f2 kIn)) e := rfl
theorem ap_eNotIn (ma mc : EDen) (e : DEnv) : eNotIn ma mc e = (bin2 ma mc (f2 kNotIn)) e := rfl
theorem ap_eInS (ma mc : EDen) (e : DEnv) : eInS ma mc e = (bin2 ma mc (f2 kInS)) e := rfl
theorem ap_eNotInS (ma mc : EDen) (e : DEnv) : eNotInS ma mc e = (bin2 ma mc (f2 kNotInS)) e := rfl
theorem ap_eEqD (ma mc : EDen) (e : DEnv) : eEqD ma mc e = (bin2 ma mc (f2 kEqD)) e := rfl
theorem ap_eNeD (ma mc : EDen) (e : DEnv) : eNeD ma mc e = (bin2 ma mc (f2 kNeD)) e := rfl
theorem ap_oNo (e : DEnv) : oNo e = (.ok (none, e)) := rfl
theorem ap_oAt (m : EDen) (e : DEnv) : oAt m e = ((m e).bind fun a => match a.1 with
  | .d (.int i) => .ok (some i, a.2)
  | _ => .stuck) := rfl
theorem ap_eSl (mo : EDen) (ml mh : ODen) (e : DEnv) : eSl mo ml mh e = ((mo e).bind fun a => (ml a.2).bind fun l => (mh l.2).bind fun h => (ofO (a.1.fz.vw h.2)).bind fun d => (ofO (kSl d l.1 h.1)).bind fun p => .ok (p, h.2)) := rfl
theorem ap_eRev (m : EDen) (e : DEnv) : eRev m e = (un1 m (n1 kRev)) e := rfl
theorem ap_iL (m : EDen) (e : DEnv) : iL m e = ((m e).bind fun a => (ofO (a.1.frz a.2)).bind fun z => (ofO (asL z.1)).bind fun l => .ok (l, z.2)) := rfl
theorem ap_iT (m : EDen) (e : DEnv) : iT m e = ((m e).bind fun a => (ofO (a.1.frz a.2)).bind fun z => (ofO (asT z.1)).bind fun l => .ok (l, z.2)) := rfl
theorem ap_iR1 (ms : ADen) (e : DEnv) : iR1 ms e = ((ms e).bind fun a => match a.1 with
  | [.d (.int j)] => if rgOk j then .ok (rgL 0 j.toNat, a.2) else .stuck
  | _ => .stuck) := rfl
theorem ap_iR2 (ms : ADen) (e : DEnv) : iR2 ms e = ((ms e).bind fun a => match a.1 with
  | [.d (.int i), .d (.int j)] => if rgOk i && rgOk j then .ok (rgL i (j - i).toNat, a.2) else .stuck
  | _ => .stuck) := rfl
theorem ap_iR3 (ms : ADen) (e : DEnv) : iR3 ms e = ((ms e).bind fun a => match a.1 with
  | [.d (.int i), .d (.int j), .d (.int c)] => if decide (c = -1) && rgOk i && rgOk j then .ok (rgC i (-1) (i - j).toNat, a.2) else .stuck
  | _ => .stuck) := rfl
theorem ap_iEn (ms : ADen) (e : DEnv) : iEn ms e = ((ms e).bind fun a => (ofO (frzs a.1 a.2)).bind fun z => match z.1 with
  | [d] => (ofO (asL d)).bind fun l => .ok (enD 0 l, z.2)
  | _ => .stuck) := rfl
theorem ap_iZp (ms : ADen) (e : DEnv) : iZp ms e = ((ms e).bind fun a => (ofO (frzs a.1 a.2)).bind fun z => match z.1 with
  | [d, f] => match asT d, asT f with
    | some l, some m => .ok (zpD l m, z.2)
    | _, _ => (ofO (asL d)).bind fun l => (ofO (asL f)).bind fun m => .ok (zpD l m, z.2)
  | _ => .stuck) := rfl
theorem ap_iS (m : EDen) (e : DEnv) : iS m e = ((m e).bind fun a => match a.1 with
  | .d (.str s) => .ok (s.cps.toList.map fun c => .str ⟨#[c]⟩, a.2)
  | _ => .stuck) := rfl
theorem ap_sForD (pth : DEnv → Option D) (bd : BDn) (body : SDen) (e : DEnv) : sForD pth bd body e = ((ofO (pth e)).bind fun d => (ofO (keysD d)).bind fun ks => forD bd body ks e) := rfl
theorem ap_tYs (e : DEnv) : tYs e = (.ok (true, e)) := rfl
theorem ap_eLc (vs : List Nat) (mi : IDen) (bd : BDn) (t : TDen) (m : EDen) (e : DEnv) : eLc vs mi bd t m e = ((mi e).bind fun a => (ofO (lcD vs bd t m a.1 (wipeE vs a.2) [])).bind fun z => .ok (.n (.lst z.1), restE a.2 vs z.2)) := rfl
theorem ap_eLcD (vs : List Nat) (pth : DEnv → Option D) (bd : BDn) (t : TDen) (m : EDen) (e : DEnv) : eLcD vs pth bd t m e = ((ofO (pth e)).bind fun d => (ofO (keysD d)).bind fun ks => (ofO (lcD vs bd t m ks (wipeE vs e) [])).bind fun z => .ok (.n (.lst z.1), restE e vs z.2)) := rfl
theorem ap_sRaise (c : Nat) (e : DEnv) : sRaise c e = (.err c none e) := rfl
theorem ap_eIsi (tb : Tag → Option Bool) (m : EDen) (e : DEnv) : eIsi tb m e = (un1 m (f1 (kIsi tb))) e := rfl
theorem ap_eOwn (chk : D → D → Bool) (mf : List D → Res (P × D)) (ma mc : EDen) (e : DEnv) : eOwn chk mf ma mc e = (bin2 ma mc (ownF chk mf)) e := rfl
theorem ap_eOwnIn (c : Nat) (mf : List D → Res (P × D)) (ma mc : EDen) (e : DEnv) : eOwnIn c mf ma mc e = (bin2 ma mc (inF c mf)) e := rfl
theorem ap_eOwnNeg (c : Nat) (mf : List D → Res (P × D)) (mo : EDen) (e : DEnv) : eOwnNeg c mf mo e = (un1 mo fun p e => (ofO (p.vw e)).bind fun d => if isObj c Str.empty d then (ofO (frzs [p.fz] e)).bind fun z => outV (mf z.1) z.2 else .stuck) e := rfl
theorem ap_eDc (vs : List Nat) (mi : IDen) (bd : BDn) (t : TDen) (mk mv : EDen) (e : DEnv) : eDc vs mi bd t mk mv e = ((mi e).bind fun a => (ofO (dcD vs bd t mk mv a.1 (wipeE vs a.2) [])).bind fun z => .ok (.n (.dK z.1), restE a.2 vs z.2)) := rfl
theorem ap_eLc2 (vs vs1 : List Nat) (mi : IDen) (bd : BDn) (t : TDen) (mi1 : IDen) (bd1 : BDn) (t1 : TDen) (m : EDen) (e : DEnv) : eLc2 vs vs1 mi bd t mi1 bd1 t1 m e = ((mi e).bind fun a => (ofO (lc2D vs vs1 bd t mi1 bd1 t1 m a.1 (wipeE vs a.2) [])).bind fun z => .ok (.n (.lst z.1), restE a.2 vs z.2)) := rfl
theorem ap_sTry (mb : SDen) (hs : List ((Nat → Option Bool) × SDen)) (e : DEnv) : sTry mb hs e = (match mb e with
  | .err c f e' => pick c (dropOwn e') (.err c f e') hs
  | r => r) := rfl
theorem ap_eDisp (ps : List (EDen × EDen)) (e : DEnv) : eDisp ps e = ((ofO (dispD ps e)).bind fun z => if z.1.length ≤ 15 then .ok (.n (.dK (mergeD [] z.1)), z.2) else .stuck) := rfl
/-- a mark that keeps the simplifier off x -/
structure Prot {β : Sort u} (x : β) : Type where
def bnd {α β : Type} (r : Res α) (k : α → Res β) (p : Prot k) : Res β := r.bind k
theorem bnd_of {α β : Type} (r : Res α) (k : α → Res β) : r.bind k = bnd r k ⟨⟩ := rfl
theorem bnd_ok {α β : Type} (a : α) (k : α → Res β) (p : Prot k) : bnd (.ok a) k p = k a := rfl
theorem bnd_err {α β : Type} (c f e) (k : α → Res β) (p : Prot k) : bnd (.err c f e) k p = .err c f e := rfl
theorem bnd_stuck {α β : Type} (k : α → Res β) (p : Prot k) : bnd .stuck k p = .stuck := rfl
/-- it answers, and so -/
def Ev {α : Type} (r : Res α) (Q : α → Prop) (_ : Prot Q := ⟨⟩) : Prop := match r with
  | .ok a => Q a
  | _ => False
theorem ev_bnd {α β : Type} (r : Res α) (k : α → Res β) (p : Prot k) (Q : β → Prop) (q : Prot Q) : Ev (bnd r k p) Q q = Ev r (fun a => Ev (k a) Q) := by cases r <;> rfl
theorem ev_ok {α : Type} (a : α) (Q : α → Prop) : Ev (.ok a) Q = Q a := rfl
theorem ev_bind {α β : Type} (r : Res α) (k : α → Res β) (Q : β → Prop) : Ev (r.bind k) Q = Ev r (fun a => Ev (k a) Q) := by cases r <;> rfl
theorem Ev.mono {α : Type} {r : Res α} {Q Q' : α → Prop} (h : Ev r Q) (q : ∀ a, Q a → Q' a) : Ev r Q' := by cases r <;> first | exact q _ h | exact h
theorem Ev.out {α : Type} {r : Res α} {Q : α → Prop} (h : Ev r Q) : ∃ a, r = .ok a ∧ Q a := by cases r <;> first | exact ⟨_, rfl, h⟩ | exact h.elim
def EvO {α : Type} (r : Option α) (Q : α → Prop) (_ : Prot Q := ⟨⟩) : Prop := match r with
  | some a => Q a
  | none => False
theorem EvO.mono {α : Type} {r : Option α} {Q Q' : α → Prop} (h : EvO r Q) (q : ∀ a, Q a → Q' a) : EvO r Q' := by cases r <;> first | exact q _ h | exact h
theorem EvO.out {α : Type} {r : Option α} {Q : α → Prop} (h : EvO r Q) : ∃ a, r = some a ∧ Q a := by cases r <;> first | exact ⟨_, rfl, h⟩ | exact h.elim
theorem ev_ofO {α : Type} (r : Option α) (Q : α → Prop) : Ev (ofO r) Q = EvO r Q := by cases r <;> rfl
/-- a comprehension over an invariant -/
theorem lcD_inv {vs : List Nat} {bd : BDn} {t : TDen} {m : EDen} (I : DEnv → Prop) (E : D → D → Prop) : ∀ (ds : List D) (w : DEnv) (acc : List D), I w → acc.length + ds.length ≤ 16777216 →
    (∀ d, d ∈ ds → ∀ w, I w → EvO (bd (.d d) w) fun e1 => Ev (t e1) fun c => c.1 = true ∧ Ev (m c.2) fun p => EvO (p.1.frz p.2) fun z => E d z.1 ∧ I (wipeE vs z.2)) →
    EvO (lcD vs bd t m ds w acc) fun z => (∃ zs : List D, z.1 = acc ++ zs ∧ zs.length = ds.length ∧ ∀ y, y ∈ zs → ∃ d, d ∈ ds ∧ E d y) ∧ I z.2
  | [], w, acc, hw, _, _ => ⟨⟨[], by simp, rfl, by simp⟩, hw⟩
  | d :: ds, w, acc, hw, hl, h => by
    have hl2 : acc.length + (ds.length + 1) ≤ 16777216 := by simpa using hl
    obtain ⟨e1, h1, h2⟩ := (h d (by simp) w hw).out
    obtain ⟨⟨c, e2⟩, h3, hc, h4⟩ := h2.out
    obtain ⟨⟨p, e3⟩, h5, h6⟩ := h4.out
    obtain ⟨⟨y, e4⟩, h7, h8, h9⟩ := h6.out
    simp only at hc h5 h7 h8 h9
    subst hc
    have r := lcD_inv I E ds (wipeE vs e4) (acc ++ [y]) h9 (by simp; omega) fun d hd w hw => h d (by simp [hd]) w hw
    obtain ⟨z, r1, ⟨zs, r2, r3, r4⟩, r5⟩ := r.out
    unfold lcD
    simp only [h1, Option.bind_some, h3, h5, h7]
    rw [if_pos (by omega), r1]
    exact ⟨⟨y :: zs, by rw [r2]; simp, by simp [r3], fun y' hy => by
      rcases List.mem_cons.mp hy with rfl | hy
      · exact ⟨d, by simp, h8⟩
      · obtain ⟨d', q1, q2⟩ := r4 y' hy
        exact ⟨d', by simp [q1], q2⟩⟩, r5⟩
/-- a comprehension that leaves its names as they were -/
theorem lcD_pure {vs : List Nat} {bd : BDn} {t : TDen} {m : EDen} {w : DEnv} (f : D → Bool) (k : D → D) : ∀ (ds : List D) (acc : List D), acc.length + ds.length ≤ 16777216 →
    (∀ d, d ∈ ds → EvO (bd (.d d) w) fun e1 => Ev (t e1) fun c => c.1 = f d ∧ (f d = false → wipeE vs c.2 = w) ∧ (f d = true → Ev (m c.2) fun p => EvO (p.1.frz p.2) fun z => z.1 = k d ∧ wipeE vs z.2 = w)) →
    lcD vs bd t m ds w acc = some (acc ++ (ds.filter f).map k, w)
  | [], acc, _, _ => by simp [lcD]
  | d :: ds, acc, hl, h => by
    have hl2 : acc.length + (ds.length + 1) ≤ 16777216 := by simpa using hl
    obtain ⟨e1, h1, h2⟩ := (h d (by simp)).out
    obtain ⟨⟨c, e2⟩, h3, hc, h4, h5⟩ := h2.out
    simp only at hc h4 h5
    unfold lcD
    cases hf : f d with
    | false =>
      rw [hf] at hc
      subst hc
      simp only [h1, Option.bind_some, h3]
      rw [h4 hf, lcD_pure f k ds acc (by omega) fun d hd => h d (by simp [hd])]
      simp [List.filter_cons, hf]
    | true =>
      rw [hf] at hc
      subst hc
      obtain ⟨⟨p, e3⟩, h6, h7⟩ := (h5 hf).out
      obtain ⟨⟨y, e4⟩, h8, h9, h10⟩ := h7.out
      simp only at h8 h9 h10
      simp only [h1, Option.bind_some, h3, h6, h8]
      rw [if_pos (by omega), h9, h10, lcD_pure f k ds (acc ++ [k d]) (by simp; omega) fun d hd => h d (by simp [hd])]
      simp [List.filter_cons, hf]
theorem ev_eLc {vs : List Nat} {mi : IDen} {bd : BDn} {t : TDen} {m : EDen} {e : DEnv} {Q : P × DEnv → Prop} (h : Ev (mi e) fun a => EvO (lcD vs bd t m a.1 (wipeE vs a.2) []) fun z => Q (.n (.lst z.1), restE a.2 vs z.2)) : Ev (eLc vs mi bd t m e) Q := by
  rw [ap_eLc, ev_bind]
  refine h.mono fun a h2 => ?_
  rw [ev_bind, ev_ofO]
  exact h2
/-- .. with its source's data known -/
theorem eLc_pure {vs : List Nat} {mi : IDen} {bd : BDn} {t : TDen} {m : EDen} {e e1 : DEnv} (ds : List D) (f : D → Bool) (k : D → D) (hs : mi e = .ok (ds, e1)) (hl : ds.length ≤ 16777216)
    (h : ∀ d, d ∈ ds → EvO (bd (.d d) (wipeE vs e1)) fun e2 => Ev (t e2) fun c => c.1 = f d ∧ (f d = false → wipeE vs c.2 = wipeE vs e1) ∧ (f d = true → Ev (m c.2) fun p => EvO (p.1.frz p.2) fun z => z.1 = k d ∧ wipeE vs z.2 = wipeE vs e1)) :
    eLc vs mi bd t m e = .ok (.n (.lst ((ds.filter f).map k)), restE e1 vs (wipeE vs e1)) := by
  rw [ap_eLc, hs]
  simp only [Res.bind_ok]
  rw [lcD_pure f k ds [] (by simpa using hl) h]
  simp
/-- a for loop over an invariant, nothing returned -/
theorem forD_inv {bd : BDn} {body : SDen} {T : List D} (I : List D → DEnv → Prop) : ∀ (ds done : List D) (e : DEnv), done ++ ds = T → I done e →
    (∀ dn d rest e, dn ++ d :: rest = T → I dn e → d ∈ T → EvO (bd (.d d) e) fun e1 => Ev (body e1) fun a => (a.1 = .nx ∨ a.1 = .ct) ∧ I (dn ++ [d]) a.2) →
    Ev (forD bd body ds e) fun a => a.1 = .nx ∧ I T a.2
  | [], done, e, hT, h, _ => ⟨rfl, by rw [← hT]; simpa using h⟩
  | d :: ds, done, e, hT, h, hb => by
    obtain ⟨e1, h1, h2⟩ := (hb done d ds e hT h (by rw [← hT]; simp)).out
    obtain ⟨⟨fl, e2⟩, h3, h4, h5⟩ := h2.out
    simp only at h4 h5
    have r := forD_inv I ds (done ++ [d]) e2 (by rw [← hT]; simp) h5 hb
    unfold forD
    rcases h4 with rfl | rfl
    · simp only [h1, ofO_some, Res.bind_ok, h3]
      exact r
    · simp only [h1, ofO_some, Res.bind_ok, h3]
      exact r
end MM

set_option maxHeartbeats 2000000
namespace MM
open PySem PySem.Spec PyProof.Rows L2
/-! ### sizes -/
theorem bits_le {a b : Int} (h : a.natAbs ≤ b.natAbs) : Builtin.Int.intBits a ≤ Builtin.Int.intBits b := by
  unfold Builtin.Int.intBits
  by_cases ha : a = 0
  · simp [ha]
  · by_cases hb : b = 0
    · subst hb; simp at h; exact absurd h ha
    · have ha2 : (a == 0) = false := by simpa using ha
      have hb2 : (b == 0) = false := by simpa using hb
      rw [ha2, hb2]
      have h1 : a.natAbs ≠ 0 := by omega
      have h2 : b.natAbs ≠ 0 := by omega
      have h3 : a.natAbs.log2 ≤ b.natAbs.log2 := (Nat.le_log2 h2).mpr (Nat.le_trans (Nat.log2_self_le h1) h)
      simpa using h3
theorem bits31 {s : Int} (h0 : 0 ≤ s) (h1 : s < 2147483647) : Builtin.Int.intBits s ≤ 31 := by
  have h := bits_le (a := s) (b := 2147483647) (by omega)
  have e : Builtin.Int.intBits 2147483647 = 31 := by decide +kernel
  omega
theorem b48271 : Builtin.Int.intBits 48271 = 16 := by decide +kernel
theorem b69621 : Builtin.Int.intBits 69621 = 17 := by decide +kernel
theorem b16807 : Builtin.Int.intBits 16807 = 15 := by decide +kernel
/-- the drawer's state -/
def DOk (d : D) : Prop := ∃ (ns : List Int) (p b s : Int), d = .lst [.lst (ns.map .int), .int p, .int b, .int s] ∧ 0 ≤ p ∧ 0 ≤ b ∧ Builtin.Int.intBits b ≤ 1048576 ∧ 0 ≤ s ∧ s < 2147483647 ∧ ∀ z ∈ ns, Builtin.Int.intBits z ≤ 1048576
theorem scal_int (i j : Int) : scal (.int i) (.int j) = true := rfl
theorem dci (i j : Int) : decide (V.int i = V.int j) = decide (i = j) := by simp
theorem atI_nat {α : Type} {l : List α} {p : Int} (h0 : 0 ≤ p) : atI l p = l[p.toNat]? := by
  unfold atI ixN
  rw [if_pos h0]
  by_cases h : p < l.length
  · rw [if_pos h]; rfl
  · rw [if_neg h]
    have : l.length ≤ p.toNat := by omega
    simp [this]
theorem at0 {α : Type} (a : α) (l : List α) : atI (a :: l) 0 = some a := by rw [atI_nat (by omega)]; rfl
theorem at1 {α : Type} (a b : α) (l : List α) : atI (a :: b :: l) 1 = some b := by rw [atI_nat (by omega)]; rfl
theorem at2 {α : Type} (a b c : α) (l : List α) : atI (a :: b :: c :: l) 2 = some c := by rw [atI_nat (by omega)]; rfl
theorem at3 {α : Type} (a b c d : α) (l : List α) : atI (a :: b :: c :: d :: l) 3 = some d := by rw [atI_nat (by omega)]; rfl
theorem ixN_nat {n : Nat} {p : Int} (h0 : 0 ≤ p) (h : p < n) : ixN n p = some p.toNat := by unfold ixN; rw [if_pos h0, if_pos h]
end MM
namespace Ak02
open PySem PySem.Spec PyProof.Rows L2 MM
theorem R_draw {N : Nat} {d : D} {k : Int} (h : DOk d) (hk : 0 < k) (hk2 : k.natAbs.log2 < 9000) : ∃ r d', r__law_draw N [d, .int k] = .ok (.d (.int r), d') ∧ 0 ≤ r ∧ r < k ∧ DOk d' := by
  obtain ⟨ns, p, b, s, rfl, hp, hb, hbb, hs, hs2, hz⟩ := h
  have hs3 := bits31 hs hs2
  have m1 : mulOk s 48271 = true := by unfold mulOk; rw [b48271]; exact decide_eq_true (by omega)
  have m3 : ∀ t : Int, mulOk (t % 2147483647) 16807 = true := fun t => by have := bits31 (s := t % 2147483647) (by omega) (by omega); unfold mulOk; rw [b16807]; exact decide_eq_true (by omega)
  have dv : divOk k = true := by unfold divOk; simp [hk, hk2]
  have x0 : ixN 4 0 = some 0 := rfl
  have x1 : ixN 4 1 = some 1 := rfl
  have x2 : ixN 4 2 = some 2 := rfl
  have x3 : ixN 4 3 = some 3 := rfl
  have fin : ∀ r t p' b' : Int, 0 ≤ p' → 0 ≤ b' → Builtin.Int.intBits b' ≤ 1048576 → DOk (D.lst [.lst (ns.map .int), .int p', .int b', .int (t % 2147483647)]) := fun r t p' b' h1 h2 h3 => ⟨ns, p', b', _, rfl, h1, h2, h3, by omega, by omega, hz⟩
  have em : ∀ x : Int, 0 ≤ x % k ∧ x % k < k := fun x => ⟨Int.emod_nonneg _ (by omega), Int.emod_lt_of_pos _ hk⟩
  have dq : ∀ b' : Int, 0 ≤ b' → Builtin.Int.intBits b' ≤ 1048576 → 0 ≤ b' / k ∧ Builtin.Int.intBits (b' / k) ≤ 1048576 := fun b' h0 h1 => by
    have q0 := Int.ediv_nonneg (b := k) h0 (by omega)
    have q1 := Int.ediv_le_self k h0
    exact ⟨q0, Nat.le_trans (bits_le (by omega)) h1⟩
  have z0 : Builtin.Int.intBits 0 ≤ 1048576 := by decide
  by_cases b0 : b = 0
  · subst b0
    by_cases hl : p < ns.length
    · have hl2 : p.toNat < ns.length := by omega
      have e1 : atI (ns.map D.int) p = some (.int ns[p.toNat]) := by rw [atI_nat hp]; simp [hl2]
      have hc := hz _ (List.getElem_mem hl2)
      generalize ns[p.toNat] = c at e1 hc
      have m2 : mulOk c 69621 = true := by unfold mulOk; rw [b69621]; exact decide_eq_true (by omega)
      by_cases hc2 : (1000000000000000000 : Int) ≤ c
      · have c0 : ¬ c = 0 := by omega
        have c1 : 0 < c := by omega
        simp [r__law_draw, m__law_draw, runV, runI, ends, endsI, sSeq, sAsg, sRet, sRetN, sIf, sNx, sDrop, sPar, sPar3, sPut, sAug, sFldM, sFor, eVar, eC, bin2, un1, f1, f2, n1, n2, eAdd, eSub, eMul, eDiv, eMod, eModN, ePow, eNeg, eLt, eLe, eGt, eGe, eEq, eNe, eIs, eIsNot, tst, tAn, tO, tNo, eAn, eO, eNo, eIf, kI, kMul, kDiv, kMod, kModN, kPow, kNeg, kB, kEq, kNe, scV, scal, kIs, kIsNot, MM.isNon, kTru, tTr, asg, P.frz, P.vw, P.fz, aNil, aCons, frzs, vws, eCall, eCallI, outV, outI, outK, eMake, eMeth, MM.isObj, hasNo, eFnA, fA, nA, asL, asT, d1, d2, kLen, kAbs, kInt, kMax2, kMin2, kList, kTuple, eFld, kFld, eIx, kIx, MM.putAt, eApp, ePop, eTup, eLst, kIsi, eIsi, tagOf, sRaise, sTry, pick, noE, eOwn, ownF, bothC, eOwnIn, inF, iL, iT, iR1, iR2, tYs, Res.bind_ok, Res.bind_err, Res.bind_stuck, ofO_some, ofO_none, wipeE, restE, frOnly, at0, at1, at2, at3, x0, x1, x2, x3, e1, hl, hc2, dv, hk, c0, c1, scal_int, dci]
        exact ⟨_, _, ⟨rfl, rfl⟩, (em _).1, (em _).2, ns, _, _, _, rfl, by omega, (dq c (by omega) hc).1, (dq c (by omega) hc).2, hs, hs2, hz⟩
      · simp [r__law_draw, m__law_draw, runV, runI, ends, endsI, sSeq, sAsg, sRet, sRetN, sIf, sNx, sDrop, sPar, sPar3, sPut, sAug, sFldM, sFor, eVar, eC, bin2, un1, f1, f2, n1, n2, eAdd, eSub, eMul, eDiv, eMod, eModN, ePow, eNeg, eLt, eLe, eGt, eGe, eEq, eNe, eIs, eIsNot, tst, tAn, tO, tNo, eAn, eO, eNo, eIf, kI, kMul, kDiv, kMod, kModN, kPow, kNeg, kB, kEq, kNe, scV, scal, kIs, kIsNot, MM.isNon, kTru, tTr, asg, P.frz, P.vw, P.fz, aNil, aCons, frzs, vws, eCall, eCallI, outV, outI, outK, eMake, eMeth, MM.isObj, hasNo, eFnA, fA, nA, asL, asT, d1, d2, kLen, kAbs, kInt, kMax2, kMin2, kList, kTuple, eFld, kFld, eIx, kIx, MM.putAt, eApp, ePop, eTup, eLst, kIsi, eIsi, tagOf, sRaise, sTry, pick, noE, eOwn, ownF, bothC, eOwnIn, inF, iL, iT, iR1, iR2, tYs, Res.bind_ok, Res.bind_err, Res.bind_stuck, ofO_some, ofO_none, wipeE, restE, frOnly, at0, at1, at2, at3, x0, x1, x2, x3, e1, hl, hc2, dv, hk, m1, m2, m3, scal_int, dci]
        exact ⟨_, _, ⟨rfl, rfl⟩, (em _).1, (em _).2, fin 0 _ _ _ (by omega) (by omega) z0⟩
    · simp [r__law_draw, m__law_draw, runV, runI, ends, endsI, sSeq, sAsg, sRet, sRetN, sIf, sNx, sDrop, sPar, sPar3, sPut, sAug, sFldM, sFor, eVar, eC, bin2, un1, f1, f2, n1, n2, eAdd, eSub, eMul, eDiv, eMod, eModN, ePow, eNeg, eLt, eLe, eGt, eGe, eEq, eNe, eIs, eIsNot, tst, tAn, tO, tNo, eAn, eO, eNo, eIf, kI, kMul, kDiv, kMod, kModN, kPow, kNeg, kB, kEq, kNe, scV, scal, kIs, kIsNot, MM.isNon, kTru, tTr, asg, P.frz, P.vw, P.fz, aNil, aCons, frzs, vws, eCall, eCallI, outV, outI, outK, eMake, eMeth, MM.isObj, hasNo, eFnA, fA, nA, asL, asT, d1, d2, kLen, kAbs, kInt, kMax2, kMin2, kList, kTuple, eFld, kFld, eIx, kIx, MM.putAt, eApp, ePop, eTup, eLst, kIsi, eIsi, tagOf, sRaise, sTry, pick, noE, eOwn, ownF, bothC, eOwnIn, inF, iL, iT, iR1, iR2, tYs, Res.bind_ok, Res.bind_err, Res.bind_stuck, ofO_some, ofO_none, wipeE, restE, frOnly, at0, at1, at2, at3, x0, x1, x2, x3, hl, dv, hk, m1, m3, scal_int, dci]
      exact ⟨_, _, ⟨rfl, rfl⟩, (em _).1, (em _).2, fin 0 _ _ _ (by omega) (by omega) z0⟩
  · have c1 : 0 < b := by omega
    simp [r__law_draw, m__law_draw, runV, runI, ends, endsI, sSeq, sAsg, sRet, sRetN, sIf, sNx, sDrop, sPar, sPar3, sPut, sAug, sFldM, sFor, eVar, eC, bin2, un1, f1, f2, n1, n2, eAdd, eSub, eMul, eDiv, eMod, eModN, ePow, eNeg, eLt, eLe, eGt, eGe, eEq, eNe, eIs, eIsNot, tst, tAn, tO, tNo, eAn, eO, eNo, eIf, kI, kMul, kDiv, kMod, kModN, kPow, kNeg, kB, kEq, kNe, scV, scal, kIs, kIsNot, MM.isNon, kTru, tTr, asg, P.frz, P.vw, P.fz, aNil, aCons, frzs, vws, eCall, eCallI, outV, outI, outK, eMake, eMeth, MM.isObj, hasNo, eFnA, fA, nA, asL, asT, d1, d2, kLen, kAbs, kInt, kMax2, kMin2, kList, kTuple, eFld, kFld, eIx, kIx, MM.putAt, eApp, ePop, eTup, eLst, kIsi, eIsi, tagOf, sRaise, sTry, pick, noE, eOwn, ownF, bothC, eOwnIn, inF, iL, iT, iR1, iR2, tYs, Res.bind_ok, Res.bind_err, Res.bind_stuck, ofO_some, ofO_none, wipeE, restE, frOnly, at0, at1, at2, at3, x0, x1, x2, x3, dv, hk, m1, m3, b0, c1, scal_int, dci]
    exact ⟨_, _, ⟨rfl, rfl⟩, (em _).1, (em _).2, ns, _, _, _, rfl, by omega, (dq b hb hbb).1, (dq b hb hbb).2, hs, hs2, hz⟩
end Ak02

set_option maxHeartbeats 2000000
namespace MM
theorem evo_some {α : Type} (a : α) (Q : α → Prop) : EvO (some a) Q = Q a := rfl
def finI (fl : Fl) (e : DEnv) : Res (P × D) := match fl with
  | .nx => endsI e (.d .non)
  | .rt p => endsI e p
  | _ => .stuck
def finV (nl : Nat) (fl : Fl) (e : DEnv) : Res (P × D) := match fl with
  | .nx => .ok (.d .non, .non)
  | .rt p => ends nl e p
  | _ => .stuck
theorem ev_runI {nl : Nat} {m : SDen} {d0 : D} {ds : List D} {Q : P × D → Prop} (h : Ev (m (.ow d0 :: (ds.map .fr ++ List.replicate (nl - (ds.length + 1)) .no))) fun a => Ev (finI a.1 a.2) Q) : Ev (runI nl m (d0 :: ds)) Q := by
  unfold runI
  dsimp only
  obtain ⟨⟨fl, e⟩, h1, h2⟩ := h.out
  rw [h1]
  cases fl <;> exact h2
theorem ev_runV {nl : Nat} {m : SDen} {ds : List D} {Q : P × D → Prop} (h : Ev (m (ds.map .fr ++ List.replicate (nl - ds.length) .no)) fun a => Ev (finV nl a.1 a.2) Q) : Ev (runV nl m ds) Q := by
  unfold runV
  obtain ⟨⟨fl, e⟩, h1, h2⟩ := h.out
  rw [h1]
  cases fl <;> exact h2
theorem rgL_mem {lo : Int} {n : Nat} {d : D} (h : d ∈ rgL lo n) : ∃ i : Nat, i < n ∧ d = .int (lo + i) := by
  unfold rgL at h
  obtain ⟨t, h1, h2⟩ := List.mem_map.mp h
  exact ⟨t, List.mem_range.mp h1, h2.symm⟩
theorem rgL_len {lo : Int} {n : Nat} : (rgL lo n).length = n := by simp [rgL]
end MM
namespace Ak02
open PySem PySem.Spec PyProof.Rows L2 MM
def S16 : List Int := [0, 1, 2, 3, 4, 6, 8, 9, 12, 18, 30, 36, 60, 77, 210, 64]
theorem S16_len : S16.length = 16 := rfl
theorem ints_of {xs : List D} {S : List Int} (h : ∀ y ∈ xs, ∃ x ∈ S, y = .int x) : ∃ ns : List Int, xs = ns.map .int ∧ ∀ x ∈ ns, x ∈ S := by
  induction xs with
  | nil => exact ⟨[], rfl, by simp⟩
  | cons y ys ih =>
    obtain ⟨x, hx, rfl⟩ := h y (by simp)
    obtain ⟨ns, rfl, h2⟩ := ih fun z hz => h z (by simp [hz])
    exact ⟨x :: ns, rfl, fun z hz => (List.mem_cons.mp hz).elim (fun e => e ▸ hx) (h2 _)⟩
theorem R_numbers {N : Nat} {d : D} (h : DOk d) : Ev (r__law_numbers N [d]) fun a => ∃ (xs : List Int) (d' : D), a = (.n (.lst (xs.map .int)), d') ∧ xs.length ≤ 4 ∧ (∀ x ∈ xs, x ∈ S16) ∧ DOk d' := by
  obtain ⟨r, d', hr, r0, r1, hd⟩ := R_draw (N := N) h (k := 5) (by decide) (by decide +kernel)
  refine ev_runI ?_
  simp [m__law_numbers, ap_bin2, ap_un1, ap_eVar, ap_eC, ap_eAdd, ap_eSub, ap_eMul, ap_eDiv, ap_eMod, ap_eModN, ap_ePow, ap_eNeg, ap_tst, ap_eLt, ap_eLe, ap_eGt, ap_eGe, ap_eEq, ap_eNe, ap_eIs, ap_eIsNot, ap_tAn, ap_tO, ap_tNo, ap_eAn, ap_eO, ap_eNo, ap_eIf, ap_tTr, ap_eOT, ap_asg, ap_sNx, ap_sSeq, ap_sAsg, ap_sDrop, ap_sRet, ap_sRetN, ap_sIf, ap_bTup, ap_bLst, ap_aNil, ap_aCons, ap_eCall, ap_eCallI, ap_eMeth, ap_eMethI, ap_eMake, ap_eFnA, ap_eFld, ap_sFldM, ap_sFldA, ap_eIx, ap_eDGet, ap_eDIn, ap_eDNotIn, ap_eDGet2, ap_sAug, ap_sPar, ap_sPar3, ap_sPut, ap_eApp, ap_ePop, ap_eTup, ap_eLst, ap_eDNK, ap_eDNT, ap_eCatS, ap_eCatL, ap_eCatT, ap_eRepL, ap_eIn, ap_eNotIn, ap_eInS, ap_eNotInS, ap_eEqD, ap_eNeD, ap_oNo, ap_oAt, ap_eSl, ap_eRev, ap_iL, ap_iT, ap_iR1, ap_iR2, ap_iR3, ap_iEn, ap_iZp, ap_iS, ap_tYs, ap_sRaise, ap_eIsi, ap_eOwn, ap_eOwnIn, ap_eOwnNeg, ap_sTry, ap_eDisp, f1, f2, n1, n2, fA, nA, d1, d2, kI, kMul, kDiv, kMod, kModN, kPow, kNeg, kB, kEq, kNe, scV, scal_int, dci, kIs, kIsNot, MM.isNon, kTru, P.frz, P.vw, P.fz, frzs, vws, outV, outI, outK, MM.isObj, hasNo, asL, asT, kLen, kAbs, kInt, kMax2, kMin2, kList, kTuple, kFld, kIx, MM.putAt, kIsi, tagOf, noE, ownF, bothC, inF, rgOk, wipeE, restE, frOnly, ev_ok, ev_bnd, ↓bnd_of, bnd_ok, bnd_err, bnd_stuck, ev_ofO, evo_some, endsI, ends, finI, finV, ofO_some, ofO_none]
  refine ev_eLc ?_
  have rg : -4611686018427387904 ≤ r ∧ r < 4611686018427387904 := by omega
  simp [ap_bin2, ap_un1, ap_eVar, ap_eC, ap_eAdd, ap_eSub, ap_eMul, ap_eDiv, ap_eMod, ap_eModN, ap_ePow, ap_eNeg, ap_tst, ap_eLt, ap_eLe, ap_eGt, ap_eGe, ap_eEq, ap_eNe, ap_eIs, ap_eIsNot, ap_tAn, ap_tO, ap_tNo, ap_eAn, ap_eO, ap_eNo, ap_eIf, ap_tTr, ap_eOT, ap_asg, ap_sNx, ap_sSeq, ap_sAsg, ap_sDrop, ap_sRet, ap_sRetN, ap_sIf, ap_bTup, ap_bLst, ap_aNil, ap_aCons, ap_eCall, ap_eCallI, ap_eMeth, ap_eMethI, ap_eMake, ap_eFnA, ap_eFld, ap_sFldM, ap_sFldA, ap_eIx, ap_eDGet, ap_eDIn, ap_eDNotIn, ap_eDGet2, ap_sAug, ap_sPar, ap_sPar3, ap_sPut, ap_eApp, ap_ePop, ap_eTup, ap_eLst, ap_eDNK, ap_eDNT, ap_eCatS, ap_eCatL, ap_eCatT, ap_eRepL, ap_eIn, ap_eNotIn, ap_eInS, ap_eNotInS, ap_eEqD, ap_eNeD, ap_oNo, ap_oAt, ap_eSl, ap_eRev, ap_iL, ap_iT, ap_iR1, ap_iR2, ap_iR3, ap_iEn, ap_iZp, ap_iS, ap_tYs, ap_sRaise, ap_eIsi, ap_eOwn, ap_eOwnIn, ap_eOwnNeg, ap_sTry, ap_eDisp, f1, f2, n1, n2, fA, nA, d1, d2, kI, kMul, kDiv, kMod, kModN, kPow, kNeg, kB, kEq, kNe, scV, scal_int, dci, kIs, kIsNot, MM.isNon, kTru, P.frz, P.vw, P.fz, frzs, vws, outV, outI, outK, MM.isObj, hasNo, asL, asT, kLen, kAbs, kInt, kMax2, kMin2, kList, kTuple, kFld, kIx, MM.putAt, kIsi, tagOf, noE, ownF, bothC, inF, rgOk, wipeE, restE, frOnly, ev_ok, ev_bnd, ↓bnd_of, bnd_ok, bnd_err, bnd_stuck, ev_ofO, evo_some, endsI, ends, finI, finV, ofO_some, ofO_none, hr, rg]
  refine EvO.mono (lcD_inv (fun w => ∃ d, DOk d ∧ w = [.ow d, .ow (.lst (S16.map .int)), .no]) (fun _ y => ∃ x ∈ S16, y = .int x) _ _ _ ⟨d', hd, rfl⟩ (by rw [rgL_len]; simp; omega) ?_) ?_
  · rintro y hy w ⟨d, hd, rfl⟩
    obtain ⟨q, d', hq, q0, q1, hd'⟩ := R_draw (N := N) hd (k := 16) (by decide) (by decide +kernel)
    have hq1 : q.toNat < S16.length := by rw [S16_len]; omega
    have e1 : atI (S16.map D.int) q = some (.int S16[q.toNat]) := by rw [atI_nat q0]; simp [hq1]
    obtain ⟨i, _, rfl⟩ := rgL_mem hy
    simp [ap_bin2, ap_un1, ap_eVar, ap_eC, ap_eAdd, ap_eSub, ap_eMul, ap_eDiv, ap_eMod, ap_eModN, ap_ePow, ap_eNeg, ap_tst, ap_eLt, ap_eLe, ap_eGt, ap_eGe, ap_eEq, ap_eNe, ap_eIs, ap_eIsNot, ap_tAn, ap_tO, ap_tNo, ap_eAn, ap_eO, ap_eNo, ap_eIf, ap_tTr, ap_eOT, ap_asg, ap_sNx, ap_sSeq, ap_sAsg, ap_sDrop, ap_sRet, ap_sRetN, ap_sIf, ap_bTup, ap_bLst, ap_aNil, ap_aCons, ap_eCall, ap_eCallI, ap_eMeth, ap_eMethI, ap_eMake, ap_eFnA, ap_eFld, ap_sFldM, ap_sFldA, ap_eIx, ap_eDGet, ap_eDIn, ap_eDNotIn, ap_eDGet2, ap_sAug, ap_sPar, ap_sPar3, ap_sPut, ap_eApp, ap_ePop, ap_eTup, ap_eLst, ap_eDNK, ap_eDNT, ap_eCatS, ap_eCatL, ap_eCatT, ap_eRepL, ap_eIn, ap_eNotIn, ap_eInS, ap_eNotInS, ap_eEqD, ap_eNeD, ap_oNo, ap_oAt, ap_eSl, ap_eRev, ap_iL, ap_iT, ap_iR1, ap_iR2, ap_iR3, ap_iEn, ap_iZp, ap_iS, ap_tYs, ap_sRaise, ap_eIsi, ap_eOwn, ap_eOwnIn, ap_eOwnNeg, ap_sTry, ap_eDisp, f1, f2, n1, n2, fA, nA, d1, d2, kI, kMul, kDiv, kMod, kModN, kPow, kNeg, kB, kEq, kNe, scV, scal_int, dci, kIs, kIsNot, MM.isNon, kTru, P.frz, P.vw, P.fz, frzs, vws, outV, outI, outK, MM.isObj, hasNo, asL, asT, kLen, kAbs, kInt, kMax2, kMin2, kList, kTuple, kFld, kIx, MM.putAt, kIsi, tagOf, noE, ownF, bothC, inF, rgOk, wipeE, restE, frOnly, ev_ok, ev_bnd, ↓bnd_of, bnd_ok, bnd_err, bnd_stuck, ev_ofO, evo_some, endsI, ends, finI, finV, ofO_some, ofO_none, hq, S16_len, e1]
    exact hd'
  · rintro ⟨zs, w⟩ ⟨⟨zs', h1, h2, h3⟩, dd, hdd, rfl⟩
    simp only [List.nil_append] at h1
    subst h1
    obtain ⟨ns, rfl, h4⟩ := ints_of (S := S16) fun y hy => by
      obtain ⟨_, _, hx⟩ := h3 y hy
      exact hx
    simp [ap_bin2, ap_un1, ap_eVar, ap_eC, ap_eAdd, ap_eSub, ap_eMul, ap_eDiv, ap_eMod, ap_eModN, ap_ePow, ap_eNeg, ap_tst, ap_eLt, ap_eLe, ap_eGt, ap_eGe, ap_eEq, ap_eNe, ap_eIs, ap_eIsNot, ap_tAn, ap_tO, ap_tNo, ap_eAn, ap_eO, ap_eNo, ap_eIf, ap_tTr, ap_eOT, ap_asg, ap_sNx, ap_sSeq, ap_sAsg, ap_sDrop, ap_sRet, ap_sRetN, ap_sIf, ap_bTup, ap_bLst, ap_aNil, ap_aCons, ap_eCall, ap_eCallI, ap_eMeth, ap_eMethI, ap_eMake, ap_eFnA, ap_eFld, ap_sFldM, ap_sFldA, ap_eIx, ap_eDGet, ap_eDIn, ap_eDNotIn, ap_eDGet2, ap_sAug, ap_sPar, ap_sPar3, ap_sPut, ap_eApp, ap_ePop, ap_eTup, ap_eLst, ap_eDNK, ap_eDNT, ap_eCatS, ap_eCatL, ap_eCatT, ap_eRepL, ap_eIn, ap_eNotIn, ap_eInS, ap_eNotInS, ap_eEqD, ap_eNeD, ap_oNo, ap_oAt, ap_eSl, ap_eRev, ap_iL, ap_iT, ap_iR1, ap_iR2, ap_iR3, ap_iEn, ap_iZp, ap_iS, ap_tYs, ap_sRaise, ap_eIsi, ap_eOwn, ap_eOwnIn, ap_eOwnNeg, ap_sTry, ap_eDisp, f1, f2, n1, n2, fA, nA, d1, d2, kI, kMul, kDiv, kMod, kModN, kPow, kNeg, kB, kEq, kNe, scV, scal_int, dci, kIs, kIsNot, MM.isNon, kTru, P.frz, P.vw, P.fz, frzs, vws, outV, outI, outK, MM.isObj, hasNo, asL, asT, kLen, kAbs, kInt, kMax2, kMin2, kList, kTuple, kFld, kIx, MM.putAt, kIsi, tagOf, noE, ownF, bothC, inF, rgOk, wipeE, restE, frOnly, ev_ok, ev_bnd, ↓bnd_of, bnd_ok, bnd_err, bnd_stuck, ev_ofO, evo_some, endsI, ends, finI, finV, ofO_some, ofO_none]
    refine ⟨ns, _, ⟨rfl, rfl⟩, ?_, h4, hdd⟩
    rw [rgL_len] at h2
    simp at h2
    omega
end Ak02

set_option maxHeartbeats 2000000
namespace MM
open PySem PySem.Spec PyProof.Rows L2
theorem blsF_map {α : Type} (l : List α) (f : α → Bool) : blsL (l.map fun x => D.bl (f x)) = some (l.map f) := by
  induction l with
  | nil => rfl
  | cons x l ih => simp [blsL, ih]
theorem kAny_map {α : Type} (l : List α) (f : α → Bool) : kAny (.lst (l.map fun x => D.bl (f x))) = some (.bl (l.any f)) := by
  show (blsL (l.map fun x => D.bl (f x))).bind (fun ns => some (D.bl (ns.any id))) = _
  rw [blsF_map]
  simp
theorem kAll_map {α : Type} (l : List α) (f : α → Bool) : kAll (.lst (l.map fun x => D.bl (f x))) = some (.bl (l.all f)) := by
  show (blsL (l.map fun x => D.bl (f x))).bind (fun ns => some (D.bl (ns.all id))) = _
  rw [blsF_map]
  simp
/-- a comprehension over integers -/
theorem ev_lcI {vs : List Nat} {mi : IDen} {bd : BDn} {t : TDen} {m : EDen} {e e1 : DEnv} {Q : P × DEnv → Prop} (xs : List Int) (f : Int → Bool) (k : Int → D) (hs : mi e = .ok (xs.map .int, e1)) (hl : xs.length ≤ 16777216)
    (h : ∀ x, x ∈ xs → EvO (bd (.d (.int x)) (wipeE vs e1)) fun e2 => Ev (t e2) fun c => c.1 = f x ∧ (f x = false → wipeE vs c.2 = wipeE vs e1) ∧ (f x = true → Ev (m c.2) fun p => EvO (p.1.frz p.2) fun z => z.1 = k x ∧ wipeE vs z.2 = wipeE vs e1))
    (q : Q (.n (.lst ((xs.filter f).map k)), restE e1 vs (wipeE vs e1))) : Ev (eLc vs mi bd t m e) Q := by
  let f' : D → Bool := fun d => match d with
    | .int i => f i
    | _ => false
  let k' : D → D := fun d => match d with
    | .int i => k i
    | _ => .non
  rw [eLc_pure (xs.map .int) f' k' hs (by simpa using hl) fun d hd => by
    obtain ⟨x, hx, rfl⟩ := List.mem_map.mp hd
    exact h x hx]
  have e2 : ((xs.map D.int).filter f').map k' = (xs.filter f).map k := by
    rw [List.filter_map, List.map_map]
    rfl
  rw [ev_ok, e2]
  exact q
/-- the keys of a display comprehension of integers -/
def uq : List Int → List Int → List Int
  | acc, [] => acc
  | acc, x :: xs => uq (if x ∈ acc then acc else acc ++ [x]) xs
def uqK (acc : List Int) : List (Key × D) := acc.map fun i => (.inl i, .bl true)
theorem dput_uq (acc : List Int) (x : Int) : dput (uqK acc) (.inl x) (.bl true) = uqK (if x ∈ acc then acc else acc ++ [x]) := by
  unfold dput
  by_cases h : x ∈ acc
  · have : ((uqK acc).any fun kv => decide (kv.1 = (.inl x : Key))) = true := by
      simp [uqK, h]
    rw [if_pos this, if_pos h]
    unfold uqK
    rw [List.map_map]
    apply List.map_congr_left
    intro i _
    simp only [Function.comp]
    split <;> simp_all
  · have : ¬ ((uqK acc).any fun kv => decide (kv.1 = (.inl x : Key))) = true := by
      simp [uqK, h]
    rw [if_neg this, if_neg h]
    simp [uqK]
theorem keysI_uq (acc : List Int) : keysI (uqK acc) = some acc := by
  induction acc with
  | nil => rfl
  | cons i r ih => simp only [uqK, List.map_cons, keysI]; rw [show (r.map fun i => ((.inl i : Key), D.bl true)) = uqK r from rfl, ih]; rfl
theorem uq_mem (xs : List Int) : ∀ acc i, i ∈ uq acc xs ↔ i ∈ acc ∨ i ∈ xs := by
  induction xs with
  | nil => intro acc i; simp [uq]
  | cons x xs ih =>
    intro acc i
    rw [uq, ih]
    by_cases h : x ∈ acc
    · simp only [if_pos h, List.mem_cons]
      constructor
      · exact fun q => q.elim Or.inl fun a => Or.inr (Or.inr a)
      · exact fun q => q.elim Or.inl fun a => a.elim (fun e => Or.inl (e ▸ h)) Or.inr
    · simp only [if_neg h, List.mem_cons, List.mem_append, List.mem_singleton]
      simp [or_assoc]
theorem uq_nodup (xs : List Int) : ∀ acc, acc.Nodup → (uq acc xs).Nodup := by
  induction xs with
  | nil => intro acc h; exact h
  | cons x xs ih =>
    intro acc h
    rw [uq]
    apply ih
    by_cases hx : x ∈ acc
    · rw [if_pos hx]; exact h
    · rw [if_neg hx, List.nodup_append]
      exact ⟨h, by simp, fun a ha b hb e => by simp at hb; subst hb; subst e; exact hx ha⟩
theorem uq_len (xs : List Int) : ∀ acc, (uq acc xs).length ≤ acc.length + xs.length := by
  induction xs with
  | nil => intro acc; simp [uq]
  | cons x xs ih =>
    intro acc
    rw [uq]
    have := ih (if x ∈ acc then acc else acc ++ [x])
    by_cases hx : x ∈ acc
    · rw [if_pos hx] at this ⊢
      simp only [List.length_cons]
      omega
    · rw [if_neg hx] at this ⊢
      simp only [List.length_cons, List.length_append, List.length_nil] at this ⊢
      omega
/-- a dict comprehension {x: True} -/
theorem dcD_uq {vs : List Nat} {bd : BDn} {mk mv : EDen} {w : DEnv} : ∀ (xs : List Int) (acc : List Int), acc.length + xs.length ≤ 16777216 →
    (∀ x, x ∈ xs → EvO (bd (.d (.int x)) w) fun e1 => Ev (mk e1) fun a => a.1 = .d (.int x) ∧ Ev (mv a.2) fun p => EvO (p.1.frz p.2) fun z => z.1 = .bl true ∧ wipeE vs z.2 = w) →
    dcD vs bd tYs mk mv (xs.map .int) w (uqK acc) = some (uqK (uq acc xs), w)
  | [], acc, _, _ => rfl
  | x :: xs, acc, hl, h => by
    have hl2 : acc.length + (xs.length + 1) ≤ 16777216 := by simpa using hl
    obtain ⟨e1, h1, h2⟩ := (h x (by simp)).out
    obtain ⟨⟨a, e2⟩, h3, h4, h5⟩ := h2.out
    obtain ⟨⟨p, e3⟩, h6, h7⟩ := h5.out
    obtain ⟨⟨y, e4⟩, h8, h9, h10⟩ := h7.out
    simp only at h4 h6 h8 h9 h10
    subst h4
    subst h9
    rw [List.map_cons]
    unfold dcD
    simp only [h1, Option.bind_some, tYs, h3, keyOf, h6, h8]
    rw [if_pos (by simp [uqK]; omega), h10, dput_uq, dcD_uq xs _ (by
      split
      · omega
      · rw [List.length_append, List.length_singleton]; omega) fun x' hx => h x' (by simp [hx])]
    rfl
/-! sorted -/
theorem insI_mem (i : Int) (l : List Int) (j : Int) : j ∈ insI i l ↔ j = i ∨ j ∈ l := by
  induction l with
  | nil => simp [insI]
  | cons a l ih =>
    unfold insI
    split
    · simp
    · simp only [List.mem_cons, ih]
      constructor
      · rintro (a | a | a) <;> simp [a]
      · rintro (a | a | a) <;> simp [a]
theorem isort_mem (l : List Int) (j : Int) : j ∈ isort l ↔ j ∈ l := by
  induction l with
  | nil => rfl
  | cons a l ih => simp [isort, insI_mem, ih]
theorem insI_len (i : Int) (l : List Int) : (insI i l).length = l.length + 1 := by
  induction l with
  | nil => rfl
  | cons a l ih => unfold insI; split <;> simp [ih]
theorem isort_len (l : List Int) : (isort l).length = l.length := by
  induction l with
  | nil => rfl
  | cons a l ih => simp [isort, insI_len, ih]
theorem insI_lt (i : Int) (l : List Int) (h : l.Pairwise (· < ·)) (hi : i ∉ l) : (insI i l).Pairwise (· < ·) := by
  induction l with
  | nil => simp [insI]
  | cons a l ih =>
    rw [List.pairwise_cons] at h
    simp only [List.mem_cons, not_or] at hi
    unfold insI
    split
    · rename_i hle
      refine List.pairwise_cons.mpr ⟨fun b hb => ?_, List.pairwise_cons.mpr h⟩
      rcases List.mem_cons.mp hb with rfl | hb
      · omega
      · have := h.1 b hb; omega
    · rename_i hle
      refine List.pairwise_cons.mpr ⟨fun b hb => ?_, ih h.2 hi.2⟩
      rcases (insI_mem i l b).mp hb with rfl | hb
      · omega
      · exact h.1 b hb
theorem isort_lt (l : List Int) (h : l.Nodup) : (isort l).Pairwise (· < ·) := by
  induction l with
  | nil => simp [isort]
  | cons a l ih =>
    rw [List.nodup_cons] at h
    exact insI_lt a _ (ih h.2) fun c => h.1 ((isort_mem l a).mp c)
theorem insI_id (i : Int) (l : List Int) (h : ∀ b ∈ l, i < b) : insI i l = i :: l := by
  cases l with
  | nil => rfl
  | cons a l => unfold insI; rw [if_pos (by have := h a (by simp); omega)]
theorem isort_id (l : List Int) (h : l.Pairwise (· < ·)) : isort l = l := by
  induction l with
  | nil => rfl
  | cons a l ih =>
    rw [List.pairwise_cons] at h
    rw [isort, ih h.2, insI_id a l h.1]
theorem uq_id (xs : List Int) : ∀ acc, (acc ++ xs).Nodup → uq acc xs = acc ++ xs := by
  induction xs with
  | nil => intro acc _; simp [uq]
  | cons x xs ih =>
    intro acc h
    have hx : x ∉ acc := by
      rw [List.nodup_append] at h
      exact fun c => h.2.2 x c x (by simp) rfl
    rw [uq, if_neg hx, ih _ (by simpa using h)]
    simp
theorem lt_nodup (l : List Int) (h : l.Pairwise (· < ·)) : l.Nodup := h.imp fun h e => by omega
theorem lt_ext {l m : List Int} (h : l.Pairwise (· < ·)) (k : m.Pairwise (· < ·)) (e : ∀ i, i ∈ l ↔ i ∈ m) : l = m := by
  induction l generalizing m with
  | nil =>
    cases m with
    | nil => rfl
    | cons b m => exact absurd ((e b).mpr (by simp)) (by simp)
  | cons a l ih =>
    cases m with
    | nil => exact absurd ((e a).mp (by simp)) (by simp)
    | cons b m =>
      rw [List.pairwise_cons] at h k
      have hab : a = b := by
        rcases List.mem_cons.mp ((e a).mp (by simp)) with q | q
        · exact q
        · rcases List.mem_cons.mp ((e b).mpr (by simp)) with q2 | q2
          · exact q2.symm
          · have := h.1 b q2; have := k.1 a q; omega
      subst hab
      refine congrArg _ (ih h.2 k.2 fun i => ⟨fun hi => ?_, fun hi => ?_⟩)
      · rcases List.mem_cons.mp ((e i).mp (by simp [hi])) with q | q
        · subst q; have := h.1 i hi; omega
        · exact q
      · rcases List.mem_cons.mp ((e i).mpr (by simp [hi])) with q | q
        · subst q; have := k.1 i hi; omega
        · exact q
end MM

set_option maxHeartbeats 2000000
namespace MM
open PySem PySem.Spec PyProof.Rows L2
/-- divides, as the program has it -/
def dv (a b : Int) : Bool := decide (b = 0) || (!decide (a = 0) && decide (b % a = 0))
theorem map_int_inj {l m : List Int} (h : l.map D.int = m.map D.int) : l = m := by
  induction l generalizing m with
  | nil => cases m with
    | nil => rfl
    | cons b m => cases h
  | cons a l ih => cases m with
    | nil => cases h
    | cons b m =>
      simp only [List.map_cons, List.cons.injEq, D.int.injEq] at h
      rw [h.1, ih h.2]
theorem dv_iff {a b : Int} : dv a b = true ↔ a ∣ b := by
  unfold dv
  by_cases hb : b = 0
  · subst hb; simp
  · by_cases ha : a = 0
    · subst ha; simp [hb]
    · simp [hb, ha, Int.dvd_iff_emod_eq_zero]
/-- an element that no other one is over -/
def mx (l : List Int) (a : Int) : Bool := !(l.any fun b => dv a b && !decide (a = b))
def srt (xs : List Int) : List Int := isort (uq [] xs)
def tops (xs : List Int) : List Int := (srt xs).filter (mx (srt xs))
theorem srt_lt (xs : List Int) : (srt xs).Pairwise (· < ·) := isort_lt _ (uq_nodup xs [] (by simp))
theorem srt_mem (xs : List Int) (i : Int) : i ∈ srt xs ↔ i ∈ xs := by simp [srt, isort_mem, uq_mem]
theorem tops_lt (xs : List Int) : (tops xs).Pairwise (· < ·) := (srt_lt xs).filter _
theorem tops_mem {xs : List Int} {a : Int} : a ∈ tops xs ↔ a ∈ xs ∧ ∀ b ∈ xs, a ∣ b → a = b := by
  unfold tops mx
  rw [List.mem_filter, srt_mem]
  simp only [Bool.not_eq_true', List.any_eq_false, srt_mem, Bool.and_eq_true, dv_iff, decide_eq_false_iff_not, not_and, Decidable.not_not]
end MM
namespace Ak02
open PySem PySem.Spec PyProof.Rows L2 MM
theorem R_divides {N : Nat} {a b : Int} (ha : 0 ≤ a) : r_divides N [.int a, .int b] = .ok (.d (.bl (dv a b)), .non) := by
  obtain ⟨x, h, rfl⟩ := (show Ev (r_divides N [.int a, .int b]) fun z => z = (.d (.bl (dv a b)), .non) by
    refine ev_runV ?_
    unfold dv
    by_cases hb : b = 0
    · simp [m_divides, ap_bin2, ap_un1, ap_eVar, ap_eC, ap_eAdd, ap_eSub, ap_eMul, ap_eDiv, ap_eMod, ap_eModN, ap_ePow, ap_eNeg, ap_tst, ap_eLt, ap_eLe, ap_eGt, ap_eGe, ap_eEq, ap_eNe, ap_eIs, ap_eIsNot, ap_tAn, ap_tO, ap_tNo, ap_eAn, ap_eO, ap_eNo, ap_eIf, ap_tTr, ap_eOT, ap_asg, ap_sNx, ap_sSeq, ap_sAsg, ap_sDrop, ap_sRet, ap_sRetN, ap_sIf, ap_bTup, ap_bLst, ap_aNil, ap_aCons, ap_eCall, ap_eCallI, ap_eMeth, ap_eMethI, ap_eMake, ap_eFnA, ap_eFld, ap_sFldM, ap_sFldA, ap_eIx, ap_eDGet, ap_eDIn, ap_eDNotIn, ap_eDGet2, ap_sAug, ap_sPar, ap_sPar3, ap_sPut, ap_eApp, ap_ePop, ap_eTup, ap_eLst, ap_eDNK, ap_eDNT, ap_eCatS, ap_eCatL, ap_eCatT, ap_eRepL, ap_eIn, ap_eNotIn, ap_eInS, ap_eNotInS, ap_eEqD, ap_eNeD, ap_oNo, ap_oAt, ap_eSl, ap_eRev, ap_iL, ap_iT, ap_iR1, ap_iR2, ap_iR3, ap_iEn, ap_iZp, ap_iS, ap_tYs, ap_sRaise, ap_eIsi, ap_eOwn, ap_eOwnIn, ap_eOwnNeg, ap_sTry, ap_eDisp, f1, f2, n1, n2, fA, nA, d1, d2, kI, kMul, kDiv, kMod, kModN, kPow, kNeg, kB, kEq, kNe, scV, scal_int, dci, kIs, kIsNot, MM.isNon, kTru, P.frz, P.vw, P.fz, frzs, vws, outV, outI, outK, MM.isObj, hasNo, asL, asT, kLen, kAbs, kInt, kMax2, kMin2, kList, kTuple, kFld, kIx, MM.putAt, kIsi, tagOf, noE, ownF, bothC, inF, rgOk, wipeE, restE, frOnly, ev_ok, ev_bnd, ↓bnd_of, bnd_ok, bnd_err, bnd_stuck, ev_ofO, evo_some, endsI, ends, finI, finV, ofO_some, ofO_none, hb]
    · by_cases h0 : a = 0
      · simp [m_divides, ap_bin2, ap_un1, ap_eVar, ap_eC, ap_eAdd, ap_eSub, ap_eMul, ap_eDiv, ap_eMod, ap_eModN, ap_ePow, ap_eNeg, ap_tst, ap_eLt, ap_eLe, ap_eGt, ap_eGe, ap_eEq, ap_eNe, ap_eIs, ap_eIsNot, ap_tAn, ap_tO, ap_tNo, ap_eAn, ap_eO, ap_eNo, ap_eIf, ap_tTr, ap_eOT, ap_asg, ap_sNx, ap_sSeq, ap_sAsg, ap_sDrop, ap_sRet, ap_sRetN, ap_sIf, ap_bTup, ap_bLst, ap_aNil, ap_aCons, ap_eCall, ap_eCallI, ap_eMeth, ap_eMethI, ap_eMake, ap_eFnA, ap_eFld, ap_sFldM, ap_sFldA, ap_eIx, ap_eDGet, ap_eDIn, ap_eDNotIn, ap_eDGet2, ap_sAug, ap_sPar, ap_sPar3, ap_sPut, ap_eApp, ap_ePop, ap_eTup, ap_eLst, ap_eDNK, ap_eDNT, ap_eCatS, ap_eCatL, ap_eCatT, ap_eRepL, ap_eIn, ap_eNotIn, ap_eInS, ap_eNotInS, ap_eEqD, ap_eNeD, ap_oNo, ap_oAt, ap_eSl, ap_eRev, ap_iL, ap_iT, ap_iR1, ap_iR2, ap_iR3, ap_iEn, ap_iZp, ap_iS, ap_tYs, ap_sRaise, ap_eIsi, ap_eOwn, ap_eOwnIn, ap_eOwnNeg, ap_sTry, ap_eDisp, f1, f2, n1, n2, fA, nA, d1, d2, kI, kMul, kDiv, kMod, kModN, kPow, kNeg, kB, kEq, kNe, scV, scal_int, dci, kIs, kIsNot, MM.isNon, kTru, P.frz, P.vw, P.fz, frzs, vws, outV, outI, outK, MM.isObj, hasNo, asL, asT, kLen, kAbs, kInt, kMax2, kMin2, kList, kTuple, kFld, kIx, MM.putAt, kIsi, tagOf, noE, ownF, bothC, inF, rgOk, wipeE, restE, frOnly, ev_ok, ev_bnd, ↓bnd_of, bnd_ok, bnd_err, bnd_stuck, ev_ofO, evo_some, endsI, ends, finI, finV, ofO_some, ofO_none, hb, h0]
      · have : 0 < a := by omega
        simp [m_divides, ap_bin2, ap_un1, ap_eVar, ap_eC, ap_eAdd, ap_eSub, ap_eMul, ap_eDiv, ap_eMod, ap_eModN, ap_ePow, ap_eNeg, ap_tst, ap_eLt, ap_eLe, ap_eGt, ap_eGe, ap_eEq, ap_eNe, ap_eIs, ap_eIsNot, ap_tAn, ap_tO, ap_tNo, ap_eAn, ap_eO, ap_eNo, ap_eIf, ap_tTr, ap_eOT, ap_asg, ap_sNx, ap_sSeq, ap_sAsg, ap_sDrop, ap_sRet, ap_sRetN, ap_sIf, ap_bTup, ap_bLst, ap_aNil, ap_aCons, ap_eCall, ap_eCallI, ap_eMeth, ap_eMethI, ap_eMake, ap_eFnA, ap_eFld, ap_sFldM, ap_sFldA, ap_eIx, ap_eDGet, ap_eDIn, ap_eDNotIn, ap_eDGet2, ap_sAug, ap_sPar, ap_sPar3, ap_sPut, ap_eApp, ap_ePop, ap_eTup, ap_eLst, ap_eDNK, ap_eDNT, ap_eCatS, ap_eCatL, ap_eCatT, ap_eRepL, ap_eIn, ap_eNotIn, ap_eInS, ap_eNotInS, ap_eEqD, ap_eNeD, ap_oNo, ap_oAt, ap_eSl, ap_eRev, ap_iL, ap_iT, ap_iR1, ap_iR2, ap_iR3, ap_iEn, ap_iZp, ap_iS, ap_tYs, ap_sRaise, ap_eIsi, ap_eOwn, ap_eOwnIn, ap_eOwnNeg, ap_sTry, ap_eDisp, f1, f2, n1, n2, fA, nA, d1, d2, kI, kMul, kDiv, kMod, kModN, kPow, kNeg, kB, kEq, kNe, scV, scal_int, dci, kIs, kIsNot, MM.isNon, kTru, P.frz, P.vw, P.fz, frzs, vws, outV, outI, outK, MM.isObj, hasNo, asL, asT, kLen, kAbs, kInt, kMax2, kMin2, kList, kTuple, kFld, kIx, MM.putAt, kIsi, tagOf, noE, ownF, bothC, inF, rgOk, wipeE, restE, frOnly, ev_ok, ev_bnd, ↓bnd_of, bnd_ok, bnd_err, bnd_stuck, ev_ofO, evo_some, endsI, ends, finI, finV, ofO_some, ofO_none, hb, h0, this]).out
  exact h
theorem R_whole_int {N : Nat} {a : Int} : r_is_whole N [.int a] = .ok (.d (.bl true), .non) := rfl
theorem R_whole_bl {N : Nat} {a : Bool} : r_is_whole N [.bl a] = .ok (.d (.bl false), .non) := rfl
theorem R_whole_non {N : Nat} : r_is_whole N [.non] = .ok (.d (.bl false), .non) := rfl
theorem R_whole_str {N : Nat} {a : Str} : r_is_whole N [.str a] = .ok (.d (.bl false), .non) := rfl
theorem R_greatest {N : Nat} {xs : List Int} (h0 : ∀ x ∈ xs, 0 ≤ x) (hl : xs.length < 64) : r_greatest_ones N [.lst (xs.map .int)] = .ok (.d (.tup ((tops xs).map .int)), .non) := by
  obtain ⟨x, h, rfl⟩ := (show Ev (r_greatest_ones N [.lst (xs.map .int)]) fun z => z = (.d (.tup ((tops xs).map .int)), .non) by
    refine ev_runV ?_
    simp [m_greatest_ones, ap_bin2, ap_un1, ap_eVar, ap_eC, ap_eAdd, ap_eSub, ap_eMul, ap_eDiv, ap_eMod, ap_eModN, ap_ePow, ap_eNeg, ap_tst, ap_eLt, ap_eLe, ap_eGt, ap_eGe, ap_eEq, ap_eNe, ap_eIs, ap_eIsNot, ap_tAn, ap_tO, ap_tNo, ap_eAn, ap_eO, ap_eNo, ap_eIf, ap_tTr, ap_eOT, ap_asg, ap_sNx, ap_sSeq, ap_sAsg, ap_sDrop, ap_sRet, ap_sRetN, ap_sIf, ap_bTup, ap_bLst, ap_aNil, ap_aCons, ap_eCall, ap_eCallI, ap_eMeth, ap_eMethI, ap_eMake, ap_eFnA, ap_eFld, ap_sFldM, ap_sFldA, ap_eIx, ap_eDGet, ap_eDIn, ap_eDNotIn, ap_eDGet2, ap_sAug, ap_sPar, ap_sPar3, ap_sPut, ap_eApp, ap_ePop, ap_eTup, ap_eLst, ap_eDNK, ap_eDNT, ap_eCatS, ap_eCatL, ap_eCatT, ap_eRepL, ap_eIn, ap_eNotIn, ap_eInS, ap_eNotInS, ap_eEqD, ap_eNeD, ap_oNo, ap_oAt, ap_eSl, ap_eRev, ap_iL, ap_iT, ap_iR1, ap_iR2, ap_iR3, ap_iEn, ap_iZp, ap_iS, ap_tYs, ap_sRaise, ap_eIsi, ap_eOwn, ap_eOwnIn, ap_eOwnNeg, ap_sTry, ap_eDisp, f1, f2, n1, n2, fA, nA, d1, d2, kI, kMul, kDiv, kMod, kModN, kPow, kNeg, kB, kEq, kNe, scV, scal_int, dci, kIs, kIsNot, MM.isNon, kTru, P.frz, P.vw, P.fz, frzs, vws, outV, outI, outK, MM.isObj, hasNo, asL, asT, kLen, kAbs, kInt, kMax2, kMin2, kList, kTuple, kFld, kIx, MM.putAt, kIsi, tagOf, noE, ownF, bothC, inF, rgOk, wipeE, restE, frOnly, ev_ok, ev_bnd, ↓bnd_of, bnd_ok, bnd_err, bnd_stuck, ev_ofO, evo_some, endsI, ends, finI, finV, ofO_some, ofO_none]
    rw [ap_eDc]
    simp [ap_bin2, ap_un1, ap_eVar, ap_eC, ap_eAdd, ap_eSub, ap_eMul, ap_eDiv, ap_eMod, ap_eModN, ap_ePow, ap_eNeg, ap_tst, ap_eLt, ap_eLe, ap_eGt, ap_eGe, ap_eEq, ap_eNe, ap_eIs, ap_eIsNot, ap_tAn, ap_tO, ap_tNo, ap_eAn, ap_eO, ap_eNo, ap_eIf, ap_tTr, ap_eOT, ap_asg, ap_sNx, ap_sSeq, ap_sAsg, ap_sDrop, ap_sRet, ap_sRetN, ap_sIf, ap_bTup, ap_bLst, ap_aNil, ap_aCons, ap_eCall, ap_eCallI, ap_eMeth, ap_eMethI, ap_eMake, ap_eFnA, ap_eFld, ap_sFldM, ap_sFldA, ap_eIx, ap_eDGet, ap_eDIn, ap_eDNotIn, ap_eDGet2, ap_sAug, ap_sPar, ap_sPar3, ap_sPut, ap_eApp, ap_ePop, ap_eTup, ap_eLst, ap_eDNK, ap_eDNT, ap_eCatS, ap_eCatL, ap_eCatT, ap_eRepL, ap_eIn, ap_eNotIn, ap_eInS, ap_eNotInS, ap_eEqD, ap_eNeD, ap_oNo, ap_oAt, ap_eSl, ap_eRev, ap_iL, ap_iT, ap_iR1, ap_iR2, ap_iR3, ap_iEn, ap_iZp, ap_iS, ap_tYs, ap_sRaise, ap_eIsi, ap_eOwn, ap_eOwnIn, ap_eOwnNeg, ap_sTry, ap_eDisp, f1, f2, n1, n2, fA, nA, d1, d2, kI, kMul, kDiv, kMod, kModN, kPow, kNeg, kB, kEq, kNe, scV, scal_int, dci, kIs, kIsNot, MM.isNon, kTru, P.frz, P.vw, P.fz, frzs, vws, outV, outI, outK, MM.isObj, hasNo, asL, asT, kLen, kAbs, kInt, kMax2, kMin2, kList, kTuple, kFld, kIx, MM.putAt, kIsi, tagOf, noE, ownF, bothC, inF, rgOk, wipeE, restE, frOnly, ev_ok, ev_bnd, ↓bnd_of, bnd_ok, bnd_err, bnd_stuck, ev_ofO, evo_some, endsI, ends, finI, finV, ofO_some, ofO_none]
    rw [show ([] : List (Key × D)) = uqK [] from rfl, dcD_uq xs [] (by simp; omega) fun x hx => by simp [ap_bin2, ap_un1, ap_eVar, ap_eC, ap_eAdd, ap_eSub, ap_eMul, ap_eDiv, ap_eMod, ap_eModN, ap_ePow, ap_eNeg, ap_tst, ap_eLt, ap_eLe, ap_eGt, ap_eGe, ap_eEq, ap_eNe, ap_eIs, ap_eIsNot, ap_tAn, ap_tO, ap_tNo, ap_eAn, ap_eO, ap_eNo, ap_eIf, ap_tTr, ap_eOT, ap_asg, ap_sNx, ap_sSeq, ap_sAsg, ap_sDrop, ap_sRet, ap_sRetN, ap_sIf, ap_bTup, ap_bLst, ap_aNil, ap_aCons, ap_eCall, ap_eCallI, ap_eMeth, ap_eMethI, ap_eMake, ap_eFnA, ap_eFld, ap_sFldM, ap_sFldA, ap_eIx, ap_eDGet, ap_eDIn, ap_eDNotIn, ap_eDGet2, ap_sAug, ap_sPar, ap_sPar3, ap_sPut, ap_eApp, ap_ePop, ap_eTup, ap_eLst, ap_eDNK, ap_eDNT, ap_eCatS, ap_eCatL, ap_eCatT, ap_eRepL, ap_eIn, ap_eNotIn, ap_eInS, ap_eNotInS, ap_eEqD, ap_eNeD, ap_oNo, ap_oAt, ap_eSl, ap_eRev, ap_iL, ap_iT, ap_iR1, ap_iR2, ap_iR3, ap_iEn, ap_iZp, ap_iS, ap_tYs, ap_sRaise, ap_eIsi, ap_eOwn, ap_eOwnIn, ap_eOwnNeg, ap_sTry, ap_eDisp, f1, f2, n1, n2, fA, nA, d1, d2, kI, kMul, kDiv, kMod, kModN, kPow, kNeg, kB, kEq, kNe, scV, scal_int, dci, kIs, kIsNot, MM.isNon, kTru, P.frz, P.vw, P.fz, frzs, vws, outV, outI, outK, MM.isObj, hasNo, asL, asT, kLen, kAbs, kInt, kMax2, kMin2, kList, kTuple, kFld, kIx, MM.putAt, kIsi, tagOf, noE, ownF, bothC, inF, rgOk, wipeE, restE, frOnly, ev_ok, ev_bnd, ↓bnd_of, bnd_ok, bnd_err, bnd_stuck, ev_ofO, evo_some, endsI, ends, finI, finV, ofO_some, ofO_none]]
    have ks : keysI (uqK (uq [] xs)) = some (uq [] xs) := keysI_uq _
    have kl : (uq [] xs).length < 64 := by have := uq_len xs []; simp at this; omega
    have e1 : kSorted (.dK (uqK (uq [] xs))) = some (.lst ((srt xs).map .int)) := by
      simp only [kSorted, ks, Option.bind_some, if_pos kl]
      rfl
    simp [ap_bin2, ap_un1, ap_eVar, ap_eC, ap_eAdd, ap_eSub, ap_eMul, ap_eDiv, ap_eMod, ap_eModN, ap_ePow, ap_eNeg, ap_tst, ap_eLt, ap_eLe, ap_eGt, ap_eGe, ap_eEq, ap_eNe, ap_eIs, ap_eIsNot, ap_tAn, ap_tO, ap_tNo, ap_eAn, ap_eO, ap_eNo, ap_eIf, ap_tTr, ap_eOT, ap_asg, ap_sNx, ap_sSeq, ap_sAsg, ap_sDrop, ap_sRet, ap_sRetN, ap_sIf, ap_bTup, ap_bLst, ap_aNil, ap_aCons, ap_eCall, ap_eCallI, ap_eMeth, ap_eMethI, ap_eMake, ap_eFnA, ap_eFld, ap_sFldM, ap_sFldA, ap_eIx, ap_eDGet, ap_eDIn, ap_eDNotIn, ap_eDGet2, ap_sAug, ap_sPar, ap_sPar3, ap_sPut, ap_eApp, ap_ePop, ap_eTup, ap_eLst, ap_eDNK, ap_eDNT, ap_eCatS, ap_eCatL, ap_eCatT, ap_eRepL, ap_eIn, ap_eNotIn, ap_eInS, ap_eNotInS, ap_eEqD, ap_eNeD, ap_oNo, ap_oAt, ap_eSl, ap_eRev, ap_iL, ap_iT, ap_iR1, ap_iR2, ap_iR3, ap_iEn, ap_iZp, ap_iS, ap_tYs, ap_sRaise, ap_eIsi, ap_eOwn, ap_eOwnIn, ap_eOwnNeg, ap_sTry, ap_eDisp, f1, f2, n1, n2, fA, nA, d1, d2, kI, kMul, kDiv, kMod, kModN, kPow, kNeg, kB, kEq, kNe, scV, scal_int, dci, kIs, kIsNot, MM.isNon, kTru, P.frz, P.vw, P.fz, frzs, vws, outV, outI, outK, MM.isObj, hasNo, asL, asT, kLen, kAbs, kInt, kMax2, kMin2, kList, kTuple, kFld, kIx, MM.putAt, kIsi, tagOf, noE, ownF, bothC, inF, rgOk, wipeE, restE, frOnly, ev_ok, ev_bnd, ↓bnd_of, bnd_ok, bnd_err, bnd_stuck, ev_ofO, evo_some, endsI, ends, finI, finV, ofO_some, ofO_none, e1]
    rw [ap_sFor]
    simp [ap_bin2, ap_un1, ap_eVar, ap_eC, ap_eAdd, ap_eSub, ap_eMul, ap_eDiv, ap_eMod, ap_eModN, ap_ePow, ap_eNeg, ap_tst, ap_eLt, ap_eLe, ap_eGt, ap_eGe, ap_eEq, ap_eNe, ap_eIs, ap_eIsNot, ap_tAn, ap_tO, ap_tNo, ap_eAn, ap_eO, ap_eNo, ap_eIf, ap_tTr, ap_eOT, ap_asg, ap_sNx, ap_sSeq, ap_sAsg, ap_sDrop, ap_sRet, ap_sRetN, ap_sIf, ap_bTup, ap_bLst, ap_aNil, ap_aCons, ap_eCall, ap_eCallI, ap_eMeth, ap_eMethI, ap_eMake, ap_eFnA, ap_eFld, ap_sFldM, ap_sFldA, ap_eIx, ap_eDGet, ap_eDIn, ap_eDNotIn, ap_eDGet2, ap_sAug, ap_sPar, ap_sPar3, ap_sPut, ap_eApp, ap_ePop, ap_eTup, ap_eLst, ap_eDNK, ap_eDNT, ap_eCatS, ap_eCatL, ap_eCatT, ap_eRepL, ap_eIn, ap_eNotIn, ap_eInS, ap_eNotInS, ap_eEqD, ap_eNeD, ap_oNo, ap_oAt, ap_eSl, ap_eRev, ap_iL, ap_iT, ap_iR1, ap_iR2, ap_iR3, ap_iEn, ap_iZp, ap_iS, ap_tYs, ap_sRaise, ap_eIsi, ap_eOwn, ap_eOwnIn, ap_eOwnNeg, ap_sTry, ap_eDisp, f1, f2, n1, n2, fA, nA, d1, d2, kI, kMul, kDiv, kMod, kModN, kPow, kNeg, kB, kEq, kNe, scV, scal_int, dci, kIs, kIsNot, MM.isNon, kTru, P.frz, P.vw, P.fz, frzs, vws, outV, outI, outK, MM.isObj, hasNo, asL, asT, kLen, kAbs, kInt, kMax2, kMin2, kList, kTuple, kFld, kIx, MM.putAt, kIsi, tagOf, noE, ownF, bothC, inF, rgOk, wipeE, restE, frOnly, ev_ok, ev_bnd, ↓bnd_of, bnd_ok, bnd_err, bnd_stuck, ev_ofO, evo_some, endsI, ends, finI, finV, ofO_some, ofO_none]
    have s0 : ∀ x ∈ srt xs, 0 ≤ x := fun x hx => h0 x ((srt_mem xs x).mp hx)
    have sl : (srt xs).length < 64 := by simpa [srt, isort_len] using kl
    refine Ev.mono (forD_inv (fun dn w => ∃ (is : List Int) (o5 : Sl), dn = is.map .int ∧ ∃ o4, w = [.fr (.lst (xs.map .int)), .ow (.lst ((is.filter (mx (srt xs))).map .int)), .fr (.lst ((srt xs).map .int)), .no, o4, .no]) _ [] _ rfl ⟨[], .no, rfl, _, rfl⟩ ?_) ?_
    · rintro dn d rest w hT ⟨is, o5, rfl, o4, rfl⟩ hd
      have il : is.length < 64 := by have := congrArg List.length hT; simp at this; omega
      obtain ⟨x, hx, rfl⟩ := List.mem_map.mp hd
      simp [ap_bin2, ap_un1, ap_eVar, ap_eC, ap_eAdd, ap_eSub, ap_eMul, ap_eDiv, ap_eMod, ap_eModN, ap_ePow, ap_eNeg, ap_tst, ap_eLt, ap_eLe, ap_eGt, ap_eGe, ap_eEq, ap_eNe, ap_eIs, ap_eIsNot, ap_tAn, ap_tO, ap_tNo, ap_eAn, ap_eO, ap_eNo, ap_eIf, ap_tTr, ap_eOT, ap_asg, ap_sNx, ap_sSeq, ap_sAsg, ap_sDrop, ap_sRet, ap_sRetN, ap_sIf, ap_bTup, ap_bLst, ap_aNil, ap_aCons, ap_eCall, ap_eCallI, ap_eMeth, ap_eMethI, ap_eMake, ap_eFnA, ap_eFld, ap_sFldM, ap_sFldA, ap_eIx, ap_eDGet, ap_eDIn, ap_eDNotIn, ap_eDGet2, ap_sAug, ap_sPar, ap_sPar3, ap_sPut, ap_eApp, ap_ePop, ap_eTup, ap_eLst, ap_eDNK, ap_eDNT, ap_eCatS, ap_eCatL, ap_eCatT, ap_eRepL, ap_eIn, ap_eNotIn, ap_eInS, ap_eNotInS, ap_eEqD, ap_eNeD, ap_oNo, ap_oAt, ap_eSl, ap_eRev, ap_iL, ap_iT, ap_iR1, ap_iR2, ap_iR3, ap_iEn, ap_iZp, ap_iS, ap_tYs, ap_sRaise, ap_eIsi, ap_eOwn, ap_eOwnIn, ap_eOwnNeg, ap_sTry, ap_eDisp, f1, f2, n1, n2, fA, nA, d1, d2, kI, kMul, kDiv, kMod, kModN, kPow, kNeg, kB, kEq, kNe, scV, scal_int, dci, kIs, kIsNot, MM.isNon, kTru, P.frz, P.vw, P.fz, frzs, vws, outV, outI, outK, MM.isObj, hasNo, asL, asT, kLen, kAbs, kInt, kMax2, kMin2, kList, kTuple, kFld, kIx, MM.putAt, kIsi, tagOf, noE, ownF, bothC, inF, rgOk, wipeE, restE, frOnly, ev_ok, ev_bnd, ↓bnd_of, bnd_ok, bnd_err, bnd_stuck, ev_ofO, evo_some, endsI, ends, finI, finV, ofO_some, ofO_none]
      refine ev_lcI (srt xs) (fun _ => true) (fun b => .bl (dv x b && !decide (x = b))) (by rfl) (by omega) (fun b hb => ?_) ?_
      · simp [ap_bin2, ap_un1, ap_eVar, ap_eC, ap_eAdd, ap_eSub, ap_eMul, ap_eDiv, ap_eMod, ap_eModN, ap_ePow, ap_eNeg, ap_tst, ap_eLt, ap_eLe, ap_eGt, ap_eGe, ap_eEq, ap_eNe, ap_eIs, ap_eIsNot, ap_tAn, ap_tO, ap_tNo, ap_eAn, ap_eO, ap_eNo, ap_eIf, ap_tTr, ap_eOT, ap_asg, ap_sNx, ap_sSeq, ap_sAsg, ap_sDrop, ap_sRet, ap_sRetN, ap_sIf, ap_bTup, ap_bLst, ap_aNil, ap_aCons, ap_eCall, ap_eCallI, ap_eMeth, ap_eMethI, ap_eMake, ap_eFnA, ap_eFld, ap_sFldM, ap_sFldA, ap_eIx, ap_eDGet, ap_eDIn, ap_eDNotIn, ap_eDGet2, ap_sAug, ap_sPar, ap_sPar3, ap_sPut, ap_eApp, ap_ePop, ap_eTup, ap_eLst, ap_eDNK, ap_eDNT, ap_eCatS, ap_eCatL, ap_eCatT, ap_eRepL, ap_eIn, ap_eNotIn, ap_eInS, ap_eNotInS, ap_eEqD, ap_eNeD, ap_oNo, ap_oAt, ap_eSl, ap_eRev, ap_iL, ap_iT, ap_iR1, ap_iR2, ap_iR3, ap_iEn, ap_iZp, ap_iS, ap_tYs, ap_sRaise, ap_eIsi, ap_eOwn, ap_eOwnIn, ap_eOwnNeg, ap_sTry, ap_eDisp, f1, f2, n1, n2, fA, nA, d1, d2, kI, kMul, kDiv, kMod, kModN, kPow, kNeg, kB, kEq, kNe, scV, scal_int, dci, kIs, kIsNot, MM.isNon, kTru, P.frz, P.vw, P.fz, frzs, vws, outV, outI, outK, MM.isObj, hasNo, asL, asT, kLen, kAbs, kInt, kMax2, kMin2, kList, kTuple, kFld, kIx, MM.putAt, kIsi, tagOf, noE, ownF, bothC, inF, rgOk, wipeE, restE, frOnly, ev_ok, ev_bnd, ↓bnd_of, bnd_ok, bnd_err, bnd_stuck, ev_ofO, evo_some, endsI, ends, finI, finV, ofO_some, ofO_none, R_divides (s0 x hx)]
        cases hq : dv x b <;> simp [ap_bin2, ap_un1, ap_eVar, ap_eC, ap_eAdd, ap_eSub, ap_eMul, ap_eDiv, ap_eMod, ap_eModN, ap_ePow, ap_eNeg, ap_tst, ap_eLt, ap_eLe, ap_eGt, ap_eGe, ap_eEq, ap_eNe, ap_eIs, ap_eIsNot, ap_tAn, ap_tO, ap_tNo, ap_eAn, ap_eO, ap_eNo, ap_eIf, ap_tTr, ap_eOT, ap_asg, ap_sNx, ap_sSeq, ap_sAsg, ap_sDrop, ap_sRet, ap_sRetN, ap_sIf, ap_bTup, ap_bLst, ap_aNil, ap_aCons, ap_eCall, ap_eCallI, ap_eMeth, ap_eMethI, ap_eMake, ap_eFnA, ap_eFld, ap_sFldM, ap_sFldA, ap_eIx, ap_eDGet, ap_eDIn, ap_eDNotIn, ap_eDGet2, ap_sAug, ap_sPar, ap_sPar3, ap_sPut, ap_eApp, ap_ePop, ap_eTup, ap_eLst, ap_eDNK, ap_eDNT, ap_eCatS, ap_eCatL, ap_eCatT, ap_eRepL, ap_eIn, ap_eNotIn, ap_eInS, ap_eNotInS, ap_eEqD, ap_eNeD, ap_oNo, ap_oAt, ap_eSl, ap_eRev, ap_iL, ap_iT, ap_iR1, ap_iR2, ap_iR3, ap_iEn, ap_iZp, ap_iS, ap_tYs, ap_sRaise, ap_eIsi, ap_eOwn, ap_eOwnIn, ap_eOwnNeg, ap_sTry, ap_eDisp, f1, f2, n1, n2, fA, nA, d1, d2, kI, kMul, kDiv, kMod, kModN, kPow, kNeg, kB, kEq, kNe, scV, scal_int, dci, kIs, kIsNot, MM.isNon, kTru, P.frz, P.vw, P.fz, frzs, vws, outV, outI, outK, MM.isObj, hasNo, asL, asT, kLen, kAbs, kInt, kMax2, kMin2, kList, kTuple, kFld, kIx, MM.putAt, kIsi, tagOf, noE, ownF, bothC, inF, rgOk, wipeE, restE, frOnly, ev_ok, ev_bnd, ↓bnd_of, bnd_ok, bnd_err, bnd_stuck, ev_ofO, evo_some, endsI, ends, finI, finV, ofO_some, ofO_none, hq]
      · have hf : (srt xs).filter (fun _ => true) = srt xs := by simp
        simp only [hf]
        have hm := kAny_map (srt xs) fun b => dv x b && !decide (x = b)
        cases hq : (srt xs).any fun b => dv x b && !decide (x = b)
        · have hx2 : mx (srt xs) x = true := by unfold mx; rw [hq]; rfl
          simp [ap_bin2, ap_un1, ap_eVar, ap_eC, ap_eAdd, ap_eSub, ap_eMul, ap_eDiv, ap_eMod, ap_eModN, ap_ePow, ap_eNeg, ap_tst, ap_eLt, ap_eLe, ap_eGt, ap_eGe, ap_eEq, ap_eNe, ap_eIs, ap_eIsNot, ap_tAn, ap_tO, ap_tNo, ap_eAn, ap_eO, ap_eNo, ap_eIf, ap_tTr, ap_eOT, ap_asg, ap_sNx, ap_sSeq, ap_sAsg, ap_sDrop, ap_sRet, ap_sRetN, ap_sIf, ap_bTup, ap_bLst, ap_aNil, ap_aCons, ap_eCall, ap_eCallI, ap_eMeth, ap_eMethI, ap_eMake, ap_eFnA, ap_eFld, ap_sFldM, ap_sFldA, ap_eIx, ap_eDGet, ap_eDIn, ap_eDNotIn, ap_eDGet2, ap_sAug, ap_sPar, ap_sPar3, ap_sPut, ap_eApp, ap_ePop, ap_eTup, ap_eLst, ap_eDNK, ap_eDNT, ap_eCatS, ap_eCatL, ap_eCatT, ap_eRepL, ap_eIn, ap_eNotIn, ap_eInS, ap_eNotInS, ap_eEqD, ap_eNeD, ap_oNo, ap_oAt, ap_eSl, ap_eRev, ap_iL, ap_iT, ap_iR1, ap_iR2, ap_iR3, ap_iEn, ap_iZp, ap_iS, ap_tYs, ap_sRaise, ap_eIsi, ap_eOwn, ap_eOwnIn, ap_eOwnNeg, ap_sTry, ap_eDisp, f1, f2, n1, n2, fA, nA, d1, d2, kI, kMul, kDiv, kMod, kModN, kPow, kNeg, kB, kEq, kNe, scV, scal_int, dci, kIs, kIsNot, MM.isNon, kTru, P.frz, P.vw, P.fz, frzs, vws, outV, outI, outK, MM.isObj, hasNo, asL, asT, kLen, kAbs, kInt, kMax2, kMin2, kList, kTuple, kFld, kIx, MM.putAt, kIsi, tagOf, noE, ownF, bothC, inF, rgOk, wipeE, restE, frOnly, ev_ok, ev_bnd, ↓bnd_of, bnd_ok, bnd_err, bnd_stuck, ev_ofO, evo_some, endsI, ends, finI, finV, ofO_some, ofO_none, hm, hq]
          rw [if_pos (by have := List.length_filter_le (mx (srt xs)) is; omega)]
          exact ⟨.inl rfl, is ++ [x], .no, by simp, .fr (.int x), by simp [List.filter_append, hx2]⟩
        · have hx2 : mx (srt xs) x = false := by unfold mx; rw [hq]; rfl
          simp [ap_bin2, ap_un1, ap_eVar, ap_eC, ap_eAdd, ap_eSub, ap_eMul, ap_eDiv, ap_eMod, ap_eModN, ap_ePow, ap_eNeg, ap_tst, ap_eLt, ap_eLe, ap_eGt, ap_eGe, ap_eEq, ap_eNe, ap_eIs, ap_eIsNot, ap_tAn, ap_tO, ap_tNo, ap_eAn, ap_eO, ap_eNo, ap_eIf, ap_tTr, ap_eOT, ap_asg, ap_sNx, ap_sSeq, ap_sAsg, ap_sDrop, ap_sRet, ap_sRetN, ap_sIf, ap_bTup, ap_bLst, ap_aNil, ap_aCons, ap_eCall, ap_eCallI, ap_eMeth, ap_eMethI, ap_eMake, ap_eFnA, ap_eFld, ap_sFldM, ap_sFldA, ap_eIx, ap_eDGet, ap_eDIn, ap_eDNotIn, ap_eDGet2, ap_sAug, ap_sPar, ap_sPar3, ap_sPut, ap_eApp, ap_ePop, ap_eTup, ap_eLst, ap_eDNK, ap_eDNT, ap_eCatS, ap_eCatL, ap_eCatT, ap_eRepL, ap_eIn, ap_eNotIn, ap_eInS, ap_eNotInS, ap_eEqD, ap_eNeD, ap_oNo, ap_oAt, ap_eSl, ap_eRev, ap_iL, ap_iT, ap_iR1, ap_iR2, ap_iR3, ap_iEn, ap_iZp, ap_iS, ap_tYs, ap_sRaise, ap_eIsi, ap_eOwn, ap_eOwnIn, ap_eOwnNeg, ap_sTry, ap_eDisp, f1, f2, n1, n2, fA, nA, d1, d2, kI, kMul, kDiv, kMod, kModN, kPow, kNeg, kB, kEq, kNe, scV, scal_int, dci, kIs, kIsNot, MM.isNon, kTru, P.frz, P.vw, P.fz, frzs, vws, outV, outI, outK, MM.isObj, hasNo, asL, asT, kLen, kAbs, kInt, kMax2, kMin2, kList, kTuple, kFld, kIx, MM.putAt, kIsi, tagOf, noE, ownF, bothC, inF, rgOk, wipeE, restE, frOnly, ev_ok, ev_bnd, ↓bnd_of, bnd_ok, bnd_err, bnd_stuck, ev_ofO, evo_some, endsI, ends, finI, finV, ofO_some, ofO_none, hm, hq]
          exact ⟨is ++ [x], by simp, .no, by simp [List.filter_append, hx2]⟩
    · rintro ⟨fl, w⟩ ⟨rfl, is, o5, hd, o4, rfl⟩
      simp only [List.nil_append] at hd
      have e := map_int_inj hd
      subst e
      simp [ap_bin2, ap_un1, ap_eVar, ap_eC, ap_eAdd, ap_eSub, ap_eMul, ap_eDiv, ap_eMod, ap_eModN, ap_ePow, ap_eNeg, ap_tst, ap_eLt, ap_eLe, ap_eGt, ap_eGe, ap_eEq, ap_eNe, ap_eIs, ap_eIsNot, ap_tAn, ap_tO, ap_tNo, ap_eAn, ap_eO, ap_eNo, ap_eIf, ap_tTr, ap_eOT, ap_asg, ap_sNx, ap_sSeq, ap_sAsg, ap_sDrop, ap_sRet, ap_sRetN, ap_sIf, ap_bTup, ap_bLst, ap_aNil, ap_aCons, ap_eCall, ap_eCallI, ap_eMeth, ap_eMethI, ap_eMake, ap_eFnA, ap_eFld, ap_sFldM, ap_sFldA, ap_eIx, ap_eDGet, ap_eDIn, ap_eDNotIn, ap_eDGet2, ap_sAug, ap_sPar, ap_sPar3, ap_sPut, ap_eApp, ap_ePop, ap_eTup, ap_eLst, ap_eDNK, ap_eDNT, ap_eCatS, ap_eCatL, ap_eCatT, ap_eRepL, ap_eIn, ap_eNotIn, ap_eInS, ap_eNotInS, ap_eEqD, ap_eNeD, ap_oNo, ap_oAt, ap_eSl, ap_eRev, ap_iL, ap_iT, ap_iR1, ap_iR2, ap_iR3, ap_iEn, ap_iZp, ap_iS, ap_tYs, ap_sRaise, ap_eIsi, ap_eOwn, ap_eOwnIn, ap_eOwnNeg, ap_sTry, ap_eDisp, f1, f2, n1, n2, fA, nA, d1, d2, kI, kMul, kDiv, kMod, kModN, kPow, kNeg, kB, kEq, kNe, scV, scal_int, dci, kIs, kIsNot, MM.isNon, kTru, P.frz, P.vw, P.fz, frzs, vws, outV, outI, outK, MM.isObj, hasNo, asL, asT, kLen, kAbs, kInt, kMax2, kMin2, kList, kTuple, kFld, kIx, MM.putAt, kIsi, tagOf, noE, ownF, bothC, inF, rgOk, wipeE, restE, frOnly, ev_ok, ev_bnd, ↓bnd_of, bnd_ok, bnd_err, bnd_stuck, ev_ofO, evo_some, endsI, ends, finI, finV, ofO_some, ofO_none]
      rfl).out
  exact h
end Ak02

set_option maxHeartbeats 2000000
namespace MM
open PySem PySem.Spec PyProof.Rows L2
theorem pyDs_int (l : List Int) : pyDs (l.map .int) = some (l.map .int) := by
  induction l with
  | nil => rfl
  | cons a l ih => simp [pyDs, pyD, ih]
theorem lay_int (l : List Int) : PyData.canLayAll0 (l.map PyData.int) = true := by
  induction l with
  | nil => rfl
  | cons a l ih => simp [PyData.canLayAll0, PyData.canLay0, ih]
theorem dep_int (l : List Int) : PyData.depthAll (l.map PyData.int) = 0 := by
  induction l with
  | nil => rfl
  | cons a l ih => simp [PyData.depthAll, PyData.depth, ih]
theorem eqvAll_int (l m : List Int) : PyData.eqvAll (l.map .int) (m.map .int) = decide (l = m) := by
  induction l generalizing m with
  | nil => cases m <;> simp [PyData.eqvAll]
  | cons a l ih => cases m with
    | nil => simp [PyData.eqvAll]
    | cons b m =>
      simp only [List.map_cons, PyData.eqvAll, PyData.eqv, ih]
      by_cases h1 : a = b <;> by_cases h2 : l = m <;> simp [h1, h2]
theorem sh_tup (l : List Int) : SeqAt.shaped (.tuple (l.map .int)) = true := by
  simp [SeqAt.shaped, PyData.canLay0, lay_int, PyData.depth, dep_int]
theorem sh_lst (l : List Int) : SeqAt.shaped (.list (l.map .int)) = true := by
  simp [SeqAt.shaped, PyData.canLay0, lay_int, PyData.depth, dep_int]
theorem kEqB_tup (l m : List Int) : kEqB (.tup (l.map .int)) (.tup (m.map .int)) = some (decide (l = m)) := by
  simp [kEqB, pyD, pyDs_int, sh_tup, PyData.eqv, eqvAll_int]
theorem kEqB_lst (l m : List Int) : kEqB (.lst (l.map .int)) (.lst (m.map .int)) = some (decide (l = m)) := by
  simp [kEqB, pyD, pyDs_int, sh_lst, PyData.eqv, eqvAll_int]
theorem flVs_int (l : List Int) : flVs (l.map .int) = some (l.map .int) := by
  induction l with
  | nil => rfl
  | cons a l ih => simp [flVs, flV, ih]
theorem flt_true {α : Type} (l : List α) : l.filter (fun _ => true) = l := by simp
/-- a comprehension of two sources, pure -/
theorem lc2D_pure {vs vs1 : List Nat} {bd : BDn} {mi1 : IDen} {bd1 : BDn} {m : EDen} {w : DEnv} (xs ys : List Int) (k : Int → Int → D) (hy : ys.length < 1000) : ∀ (zs : List Int) (acc : List D), (∀ x ∈ zs, x ∈ xs) → acc.length + zs.length * ys.length ≤ 16777216 →
    (∀ x, x ∈ xs → EvO (bd (.d (.int x)) w) fun e1 => ∃ e3, mi1 e1 = .ok (ys.map .int, e3) ∧ wipeE vs (wipeE vs1 e3) = w ∧
      ∀ y, y ∈ ys → EvO (bd1 (.d (.int y)) (wipeE vs1 e3)) fun e4 => Ev (m e4) fun p => EvO (p.1.frz p.2) fun z => z.1 = k x y ∧ wipeE vs1 z.2 = wipeE vs1 e3) →
    lc2D vs vs1 bd tYs mi1 bd1 tYs m (zs.map .int) w acc = some (acc ++ (zs.flatMap fun x => ys.map fun y => k x y), w)
  | [], acc, _, _, _ => by simp [lc2D]
  | x :: zs, acc, hz, hl, h => by
    obtain ⟨e1, h1, e3, h2, h3, h4⟩ := (h x (hz x (by simp))).out
    have hl2 : acc.length + (zs.length * ys.length + ys.length) ≤ 16777216 := by
      rw [List.length_cons, Nat.add_mul, Nat.one_mul] at hl
      exact hl
    have hin := lcD_pure (vs := vs1) (bd := bd1) (t := tYs) (m := m) (w := wipeE vs1 e3) (fun _ => true) (fun d => match d with
      | .int y => k x y
      | _ => .non) (ys.map .int) acc (by simp; omega) fun d hd => by
        obtain ⟨y, hy, rfl⟩ := List.mem_map.mp hd
        exact (h4 y hy).mono fun e4 h5 => ⟨rfl, fun e => by simp at e, fun _ => h5⟩
    rw [List.map_cons]
    unfold lc2D
    simp only [h1, Option.bind_some, ap_tYs, h2]
    rw [hin]
    simp only [Option.bind_some, flt_true, List.map_map]
    rw [h3]
    have hk : List.map ((fun d => match d with
      | .int y => k x y
      | _ => .non) ∘ D.int) ys = ys.map fun y => k x y := rfl
    rw [hk]
    have r := lc2D_pure xs ys k hy zs (acc ++ ys.map fun y => k x y) (fun z hz2 => hz z (by simp [hz2])) (by simp; omega) h
    rw [r]
    simp
theorem ev_lc2I {vs vs1 : List Nat} {mi : IDen} {bd : BDn} {mi1 : IDen} {bd1 : BDn} {m : EDen} {e e1 : DEnv} {Q : P × DEnv → Prop} (xs ys : List Int) (k : Int → Int → D) (hs : mi e = .ok (xs.map .int, e1)) (hx : xs.length < 1000) (hy : ys.length < 1000)
    (h : ∀ x, x ∈ xs → EvO (bd (.d (.int x)) (wipeE vs e1)) fun e2 => ∃ e3, mi1 e2 = .ok (ys.map .int, e3) ∧ wipeE vs (wipeE vs1 e3) = wipeE vs e1 ∧
      ∀ y, y ∈ ys → EvO (bd1 (.d (.int y)) (wipeE vs1 e3)) fun e4 => Ev (m e4) fun p => EvO (p.1.frz p.2) fun z => z.1 = k x y ∧ wipeE vs1 z.2 = wipeE vs1 e3)
    (q : Q (.n (.lst (xs.flatMap fun x => ys.map fun y => k x y)), restE e1 vs (wipeE vs e1))) : Ev (eLc2 vs vs1 mi bd tYs mi1 bd1 tYs m e) Q := by
  rw [ap_eLc2, hs]
  simp only [Res.bind_ok]
  rw [lc2D_pure xs ys k hy xs [] (fun x hx => hx) (by have := Nat.mul_le_mul (Nat.le_of_lt hx) (Nat.le_of_lt hy); simp; omega) h]
  rw [ofO_some, Res.bind_ok, ev_ok, List.nil_append]
  exact q
end MM
namespace Ak02
open PySem PySem.Spec PyProof.Rows L2 MM
def mod (xs : List Int) : D := .obj 0 [("numbers", .tup ((tops xs).map .int))]
/-- its lists -/
structure Nn (xs : List Int) : Prop where
  nn : ∀ x ∈ xs, 0 ≤ x
  ln : xs.length < 64
theorem Nn.tops {xs : List Int} (h : Nn xs) : ∀ x ∈ tops xs, 0 ≤ x := fun x hx => h.nn x (tops_mem.mp hx).1
theorem tops_len {xs : List Int} : (tops xs).length ≤ xs.length := by
  unfold tops
  refine Nat.le_trans (List.length_filter_le _ _) ?_
  unfold srt
  rw [isort_len]
  simpa using uq_len xs []
theorem R_init {N : Nat} {xs : List Int} (h : Nn xs) : r_Moduli__init_ N [.obj 0 [], .lst (xs.map .int)] = .ok (.d .non, mod xs) := by
  obtain ⟨x, h, rfl⟩ := (show Ev (r_Moduli__init_ N [.obj 0 [], .lst (xs.map .int)]) fun z => z = (.d .non, mod xs) by
    refine ev_runI ?_
    simp [m_Moduli__init_, ap_bin2, ap_un1, ap_eVar, ap_eC, ap_eAdd, ap_eSub, ap_eMul, ap_eDiv, ap_eMod, ap_eModN, ap_ePow, ap_eNeg, ap_tst, ap_eLt, ap_eLe, ap_eGt, ap_eGe, ap_eEq, ap_eNe, ap_eIs, ap_eIsNot, ap_tAn, ap_tO, ap_tNo, ap_eAn, ap_eO, ap_eNo, ap_eIf, ap_tTr, ap_eOT, ap_asg, ap_sNx, ap_sSeq, ap_sAsg, ap_sDrop, ap_sRet, ap_sRetN, ap_sIf, ap_bTup, ap_bLst, ap_aNil, ap_aCons, ap_eCall, ap_eCallI, ap_eMeth, ap_eMethI, ap_eMake, ap_eFnA, ap_eFld, ap_sFldM, ap_sFldA, ap_eIx, ap_eDGet, ap_eDIn, ap_eDNotIn, ap_eDGet2, ap_sAug, ap_sPar, ap_sPar3, ap_sPut, ap_eApp, ap_ePop, ap_eTup, ap_eLst, ap_eDNK, ap_eDNT, ap_eCatS, ap_eCatL, ap_eCatT, ap_eRepL, ap_eIn, ap_eNotIn, ap_eInS, ap_eNotInS, ap_eEqD, ap_eNeD, ap_oNo, ap_oAt, ap_eSl, ap_eRev, ap_iL, ap_iT, ap_iR1, ap_iR2, ap_iR3, ap_iEn, ap_iZp, ap_iS, ap_tYs, ap_sRaise, ap_eIsi, ap_eOwn, ap_eOwnIn, ap_eOwnNeg, ap_sTry, ap_eDisp, f1, f2, n1, n2, fA, nA, d1, d2, kI, kMul, kDiv, kMod, kModN, kPow, kNeg, kB, kEq, kNe, scV, scal_int, dci, kIs, kIsNot, MM.isNon, kTru, P.frz, P.vw, P.fz, frzs, vws, outV, outI, outK, MM.isObj, hasNo, asL, asT, kLen, kAbs, kInt, kMax2, kMin2, kList, kTuple, kFld, kIx, MM.putAt, kIsi, tagOf, noE, ownF, bothC, inF, rgOk, wipeE, restE, frOnly, ev_ok, ev_bnd, ↓bnd_of, bnd_ok, bnd_err, bnd_stuck, ev_ofO, evo_some, endsI, ends, finI, finV, ofO_some, ofO_none, flt_true, tb_list]
    refine ev_lcI xs (fun _ => true) (fun b => .bl (decide (0 ≤ b))) (by rfl) (by have := h.ln; omega) (fun b hb => ?_) ?_
    · simp [ap_bin2, ap_un1, ap_eVar, ap_eC, ap_eAdd, ap_eSub, ap_eMul, ap_eDiv, ap_eMod, ap_eModN, ap_ePow, ap_eNeg, ap_tst, ap_eLt, ap_eLe, ap_eGt, ap_eGe, ap_eEq, ap_eNe, ap_eIs, ap_eIsNot, ap_tAn, ap_tO, ap_tNo, ap_eAn, ap_eO, ap_eNo, ap_eIf, ap_tTr, ap_eOT, ap_asg, ap_sNx, ap_sSeq, ap_sAsg, ap_sDrop, ap_sRet, ap_sRetN, ap_sIf, ap_bTup, ap_bLst, ap_aNil, ap_aCons, ap_eCall, ap_eCallI, ap_eMeth, ap_eMethI, ap_eMake, ap_eFnA, ap_eFld, ap_sFldM, ap_sFldA, ap_eIx, ap_eDGet, ap_eDIn, ap_eDNotIn, ap_eDGet2, ap_sAug, ap_sPar, ap_sPar3, ap_sPut, ap_eApp, ap_ePop, ap_eTup, ap_eLst, ap_eDNK, ap_eDNT, ap_eCatS, ap_eCatL, ap_eCatT, ap_eRepL, ap_eIn, ap_eNotIn, ap_eInS, ap_eNotInS, ap_eEqD, ap_eNeD, ap_oNo, ap_oAt, ap_eSl, ap_eRev, ap_iL, ap_iT, ap_iR1, ap_iR2, ap_iR3, ap_iEn, ap_iZp, ap_iS, ap_tYs, ap_sRaise, ap_eIsi, ap_eOwn, ap_eOwnIn, ap_eOwnNeg, ap_sTry, ap_eDisp, f1, f2, n1, n2, fA, nA, d1, d2, kI, kMul, kDiv, kMod, kModN, kPow, kNeg, kB, kEq, kNe, scV, scal_int, dci, kIs, kIsNot, MM.isNon, kTru, P.frz, P.vw, P.fz, frzs, vws, outV, outI, outK, MM.isObj, hasNo, asL, asT, kLen, kAbs, kInt, kMax2, kMin2, kList, kTuple, kFld, kIx, MM.putAt, kIsi, tagOf, noE, ownF, bothC, inF, rgOk, wipeE, restE, frOnly, ev_ok, ev_bnd, ↓bnd_of, bnd_ok, bnd_err, bnd_stuck, ev_ofO, evo_some, endsI, ends, finI, finV, ofO_some, ofO_none, flt_true, R_whole_int]
    · have hm := kAll_map xs fun b => decide (0 ≤ b)
      have ha : (xs.all fun b => decide (0 ≤ b)) = true := by simpa using h.nn
      simp [ap_bin2, ap_un1, ap_eVar, ap_eC, ap_eAdd, ap_eSub, ap_eMul, ap_eDiv, ap_eMod, ap_eModN, ap_ePow, ap_eNeg, ap_tst, ap_eLt, ap_eLe, ap_eGt, ap_eGe, ap_eEq, ap_eNe, ap_eIs, ap_eIsNot, ap_tAn, ap_tO, ap_tNo, ap_eAn, ap_eO, ap_eNo, ap_eIf, ap_tTr, ap_eOT, ap_asg, ap_sNx, ap_sSeq, ap_sAsg, ap_sDrop, ap_sRet, ap_sRetN, ap_sIf, ap_bTup, ap_bLst, ap_aNil, ap_aCons, ap_eCall, ap_eCallI, ap_eMeth, ap_eMethI, ap_eMake, ap_eFnA, ap_eFld, ap_sFldM, ap_sFldA, ap_eIx, ap_eDGet, ap_eDIn, ap_eDNotIn, ap_eDGet2, ap_sAug, ap_sPar, ap_sPar3, ap_sPut, ap_eApp, ap_ePop, ap_eTup, ap_eLst, ap_eDNK, ap_eDNT, ap_eCatS, ap_eCatL, ap_eCatT, ap_eRepL, ap_eIn, ap_eNotIn, ap_eInS, ap_eNotInS, ap_eEqD, ap_eNeD, ap_oNo, ap_oAt, ap_eSl, ap_eRev, ap_iL, ap_iT, ap_iR1, ap_iR2, ap_iR3, ap_iEn, ap_iZp, ap_iS, ap_tYs, ap_sRaise, ap_eIsi, ap_eOwn, ap_eOwnIn, ap_eOwnNeg, ap_sTry, ap_eDisp, f1, f2, n1, n2, fA, nA, d1, d2, kI, kMul, kDiv, kMod, kModN, kPow, kNeg, kB, kEq, kNe, scV, scal_int, dci, kIs, kIsNot, MM.isNon, kTru, P.frz, P.vw, P.fz, frzs, vws, outV, outI, outK, MM.isObj, hasNo, asL, asT, kLen, kAbs, kInt, kMax2, kMin2, kList, kTuple, kFld, kIx, MM.putAt, kIsi, tagOf, noE, ownF, bothC, inF, rgOk, wipeE, restE, frOnly, ev_ok, ev_bnd, ↓bnd_of, bnd_ok, bnd_err, bnd_stuck, ev_ofO, evo_some, endsI, ends, finI, finV, ofO_some, ofO_none, flt_true, hm, ha, R_greatest h.nn h.ln, putD, mod]).out
  exact h
theorem R_contains_int {N : Nat} {xs : List Int} {n : Int} (h : Nn xs) : r_Moduli__contains_ N [mod xs, .int n] = .ok (.d (.bl (decide (1 ≤ n) && (tops xs).any (dv n))), .non) := by
  obtain ⟨x, h, rfl⟩ := (show Ev (r_Moduli__contains_ N [mod xs, .int n]) fun z => z = (.d (.bl (decide (1 ≤ n) && (tops xs).any (dv n))), .non) by
    refine ev_runV ?_
    by_cases hn : 1 ≤ n
    · simp [m_Moduli__contains_, ap_bin2, ap_un1, ap_eVar, ap_eC, ap_eAdd, ap_eSub, ap_eMul, ap_eDiv, ap_eMod, ap_eModN, ap_ePow, ap_eNeg, ap_tst, ap_eLt, ap_eLe, ap_eGt, ap_eGe, ap_eEq, ap_eNe, ap_eIs, ap_eIsNot, ap_tAn, ap_tO, ap_tNo, ap_eAn, ap_eO, ap_eNo, ap_eIf, ap_tTr, ap_eOT, ap_asg, ap_sNx, ap_sSeq, ap_sAsg, ap_sDrop, ap_sRet, ap_sRetN, ap_sIf, ap_bTup, ap_bLst, ap_aNil, ap_aCons, ap_eCall, ap_eCallI, ap_eMeth, ap_eMethI, ap_eMake, ap_eFnA, ap_eFld, ap_sFldM, ap_sFldA, ap_eIx, ap_eDGet, ap_eDIn, ap_eDNotIn, ap_eDGet2, ap_sAug, ap_sPar, ap_sPar3, ap_sPut, ap_eApp, ap_ePop, ap_eTup, ap_eLst, ap_eDNK, ap_eDNT, ap_eCatS, ap_eCatL, ap_eCatT, ap_eRepL, ap_eIn, ap_eNotIn, ap_eInS, ap_eNotInS, ap_eEqD, ap_eNeD, ap_oNo, ap_oAt, ap_eSl, ap_eRev, ap_iL, ap_iT, ap_iR1, ap_iR2, ap_iR3, ap_iEn, ap_iZp, ap_iS, ap_tYs, ap_sRaise, ap_eIsi, ap_eOwn, ap_eOwnIn, ap_eOwnNeg, ap_sTry, ap_eDisp, f1, f2, n1, n2, fA, nA, d1, d2, kI, kMul, kDiv, kMod, kModN, kPow, kNeg, kB, kEq, kNe, scV, scal_int, dci, kIs, kIsNot, MM.isNon, kTru, P.frz, P.vw, P.fz, frzs, vws, outV, outI, outK, MM.isObj, hasNo, asL, asT, kLen, kAbs, kInt, kMax2, kMin2, kList, kTuple, kFld, kIx, MM.putAt, kIsi, tagOf, noE, ownF, bothC, inF, rgOk, wipeE, restE, frOnly, ev_ok, ev_bnd, ↓bnd_of, bnd_ok, bnd_err, bnd_stuck, ev_ofO, evo_some, endsI, ends, finI, finV, ofO_some, ofO_none, flt_true, R_whole_int, hn]
      refine ev_lcI (tops xs) (fun _ => true) (fun b => .bl (dv n b)) (by rfl) (by have := h.ln; have := @tops_len xs; omega) (fun b hb => ?_) ?_
      · simp [ap_bin2, ap_un1, ap_eVar, ap_eC, ap_eAdd, ap_eSub, ap_eMul, ap_eDiv, ap_eMod, ap_eModN, ap_ePow, ap_eNeg, ap_tst, ap_eLt, ap_eLe, ap_eGt, ap_eGe, ap_eEq, ap_eNe, ap_eIs, ap_eIsNot, ap_tAn, ap_tO, ap_tNo, ap_eAn, ap_eO, ap_eNo, ap_eIf, ap_tTr, ap_eOT, ap_asg, ap_sNx, ap_sSeq, ap_sAsg, ap_sDrop, ap_sRet, ap_sRetN, ap_sIf, ap_bTup, ap_bLst, ap_aNil, ap_aCons, ap_eCall, ap_eCallI, ap_eMeth, ap_eMethI, ap_eMake, ap_eFnA, ap_eFld, ap_sFldM, ap_sFldA, ap_eIx, ap_eDGet, ap_eDIn, ap_eDNotIn, ap_eDGet2, ap_sAug, ap_sPar, ap_sPar3, ap_sPut, ap_eApp, ap_ePop, ap_eTup, ap_eLst, ap_eDNK, ap_eDNT, ap_eCatS, ap_eCatL, ap_eCatT, ap_eRepL, ap_eIn, ap_eNotIn, ap_eInS, ap_eNotInS, ap_eEqD, ap_eNeD, ap_oNo, ap_oAt, ap_eSl, ap_eRev, ap_iL, ap_iT, ap_iR1, ap_iR2, ap_iR3, ap_iEn, ap_iZp, ap_iS, ap_tYs, ap_sRaise, ap_eIsi, ap_eOwn, ap_eOwnIn, ap_eOwnNeg, ap_sTry, ap_eDisp, f1, f2, n1, n2, fA, nA, d1, d2, kI, kMul, kDiv, kMod, kModN, kPow, kNeg, kB, kEq, kNe, scV, scal_int, dci, kIs, kIsNot, MM.isNon, kTru, P.frz, P.vw, P.fz, frzs, vws, outV, outI, outK, MM.isObj, hasNo, asL, asT, kLen, kAbs, kInt, kMax2, kMin2, kList, kTuple, kFld, kIx, MM.putAt, kIsi, tagOf, noE, ownF, bothC, inF, rgOk, wipeE, restE, frOnly, ev_ok, ev_bnd, ↓bnd_of, bnd_ok, bnd_err, bnd_stuck, ev_ofO, evo_some, endsI, ends, finI, finV, ofO_some, ofO_none, flt_true, R_divides (N := N) (a := n) (b := b) (by omega)]
      · have hm := kAny_map (tops xs) fun b => dv n b
        simp [ap_bin2, ap_un1, ap_eVar, ap_eC, ap_eAdd, ap_eSub, ap_eMul, ap_eDiv, ap_eMod, ap_eModN, ap_ePow, ap_eNeg, ap_tst, ap_eLt, ap_eLe, ap_eGt, ap_eGe, ap_eEq, ap_eNe, ap_eIs, ap_eIsNot, ap_tAn, ap_tO, ap_tNo, ap_eAn, ap_eO, ap_eNo, ap_eIf, ap_tTr, ap_eOT, ap_asg, ap_sNx, ap_sSeq, ap_sAsg, ap_sDrop, ap_sRet, ap_sRetN, ap_sIf, ap_bTup, ap_bLst, ap_aNil, ap_aCons, ap_eCall, ap_eCallI, ap_eMeth, ap_eMethI, ap_eMake, ap_eFnA, ap_eFld, ap_sFldM, ap_sFldA, ap_eIx, ap_eDGet, ap_eDIn, ap_eDNotIn, ap_eDGet2, ap_sAug, ap_sPar, ap_sPar3, ap_sPut, ap_eApp, ap_ePop, ap_eTup, ap_eLst, ap_eDNK, ap_eDNT, ap_eCatS, ap_eCatL, ap_eCatT, ap_eRepL, ap_eIn, ap_eNotIn, ap_eInS, ap_eNotInS, ap_eEqD, ap_eNeD, ap_oNo, ap_oAt, ap_eSl, ap_eRev, ap_iL, ap_iT, ap_iR1, ap_iR2, ap_iR3, ap_iEn, ap_iZp, ap_iS, ap_tYs, ap_sRaise, ap_eIsi, ap_eOwn, ap_eOwnIn, ap_eOwnNeg, ap_sTry, ap_eDisp, f1, f2, n1, n2, fA, nA, d1, d2, kI, kMul, kDiv, kMod, kModN, kPow, kNeg, kB, kEq, kNe, scV, scal_int, dci, kIs, kIsNot, MM.isNon, kTru, P.frz, P.vw, P.fz, frzs, vws, outV, outI, outK, MM.isObj, hasNo, asL, asT, kLen, kAbs, kInt, kMax2, kMin2, kList, kTuple, kFld, kIx, MM.putAt, kIsi, tagOf, noE, ownF, bothC, inF, rgOk, wipeE, restE, frOnly, ev_ok, ev_bnd, ↓bnd_of, bnd_ok, bnd_err, bnd_stuck, ev_ofO, evo_some, endsI, ends, finI, finV, ofO_some, ofO_none, flt_true, hm, hn]
    · simp [m_Moduli__contains_, ap_bin2, ap_un1, ap_eVar, ap_eC, ap_eAdd, ap_eSub, ap_eMul, ap_eDiv, ap_eMod, ap_eModN, ap_ePow, ap_eNeg, ap_tst, ap_eLt, ap_eLe, ap_eGt, ap_eGe, ap_eEq, ap_eNe, ap_eIs, ap_eIsNot, ap_tAn, ap_tO, ap_tNo, ap_eAn, ap_eO, ap_eNo, ap_eIf, ap_tTr, ap_eOT, ap_asg, ap_sNx, ap_sSeq, ap_sAsg, ap_sDrop, ap_sRet, ap_sRetN, ap_sIf, ap_bTup, ap_bLst, ap_aNil, ap_aCons, ap_eCall, ap_eCallI, ap_eMeth, ap_eMethI, ap_eMake, ap_eFnA, ap_eFld, ap_sFldM, ap_sFldA, ap_eIx, ap_eDGet, ap_eDIn, ap_eDNotIn, ap_eDGet2, ap_sAug, ap_sPar, ap_sPar3, ap_sPut, ap_eApp, ap_ePop, ap_eTup, ap_eLst, ap_eDNK, ap_eDNT, ap_eCatS, ap_eCatL, ap_eCatT, ap_eRepL, ap_eIn, ap_eNotIn, ap_eInS, ap_eNotInS, ap_eEqD, ap_eNeD, ap_oNo, ap_oAt, ap_eSl, ap_eRev, ap_iL, ap_iT, ap_iR1, ap_iR2, ap_iR3, ap_iEn, ap_iZp, ap_iS, ap_tYs, ap_sRaise, ap_eIsi, ap_eOwn, ap_eOwnIn, ap_eOwnNeg, ap_sTry, ap_eDisp, f1, f2, n1, n2, fA, nA, d1, d2, kI, kMul, kDiv, kMod, kModN, kPow, kNeg, kB, kEq, kNe, scV, scal_int, dci, kIs, kIsNot, MM.isNon, kTru, P.frz, P.vw, P.fz, frzs, vws, outV, outI, outK, MM.isObj, hasNo, asL, asT, kLen, kAbs, kInt, kMax2, kMin2, kList, kTuple, kFld, kIx, MM.putAt, kIsi, tagOf, noE, ownF, bothC, inF, rgOk, wipeE, restE, frOnly, ev_ok, ev_bnd, ↓bnd_of, bnd_ok, bnd_err, bnd_stuck, ev_ofO, evo_some, endsI, ends, finI, finV, ofO_some, ofO_none, flt_true, R_whole_int, hn]).out
  exact h
theorem R_le {N : Nat} {xs ys : List Int} (h : Nn xs) (k : Nn ys) : r_Moduli__le_ N [mod xs, mod ys] = .ok (.d (.bl ((tops xs).all fun a => (tops ys).any fun b => dv a b)), .non) := by
  obtain ⟨x, h, rfl⟩ := (show Ev (r_Moduli__le_ N [mod xs, mod ys]) fun z => z = (.d (.bl ((tops xs).all fun a => (tops ys).any fun b => dv a b)), .non) by
    refine ev_runV ?_
    simp [m_Moduli__le_, ap_bin2, ap_un1, ap_eVar, ap_eC, ap_eAdd, ap_eSub, ap_eMul, ap_eDiv, ap_eMod, ap_eModN, ap_ePow, ap_eNeg, ap_tst, ap_eLt, ap_eLe, ap_eGt, ap_eGe, ap_eEq, ap_eNe, ap_eIs, ap_eIsNot, ap_tAn, ap_tO, ap_tNo, ap_eAn, ap_eO, ap_eNo, ap_eIf, ap_tTr, ap_eOT, ap_asg, ap_sNx, ap_sSeq, ap_sAsg, ap_sDrop, ap_sRet, ap_sRetN, ap_sIf, ap_bTup, ap_bLst, ap_aNil, ap_aCons, ap_eCall, ap_eCallI, ap_eMeth, ap_eMethI, ap_eMake, ap_eFnA, ap_eFld, ap_sFldM, ap_sFldA, ap_eIx, ap_eDGet, ap_eDIn, ap_eDNotIn, ap_eDGet2, ap_sAug, ap_sPar, ap_sPar3, ap_sPut, ap_eApp, ap_ePop, ap_eTup, ap_eLst, ap_eDNK, ap_eDNT, ap_eCatS, ap_eCatL, ap_eCatT, ap_eRepL, ap_eIn, ap_eNotIn, ap_eInS, ap_eNotInS, ap_eEqD, ap_eNeD, ap_oNo, ap_oAt, ap_eSl, ap_eRev, ap_iL, ap_iT, ap_iR1, ap_iR2, ap_iR3, ap_iEn, ap_iZp, ap_iS, ap_tYs, ap_sRaise, ap_eIsi, ap_eOwn, ap_eOwnIn, ap_eOwnNeg, ap_sTry, ap_eDisp, f1, f2, n1, n2, fA, nA, d1, d2, kI, kMul, kDiv, kMod, kModN, kPow, kNeg, kB, kEq, kNe, scV, scal_int, dci, kIs, kIsNot, MM.isNon, kTru, P.frz, P.vw, P.fz, frzs, vws, outV, outI, outK, MM.isObj, hasNo, asL, asT, kLen, kAbs, kInt, kMax2, kMin2, kList, kTuple, kFld, kIx, MM.putAt, kIsi, tagOf, noE, ownF, bothC, inF, rgOk, wipeE, restE, frOnly, ev_ok, ev_bnd, ↓bnd_of, bnd_ok, bnd_err, bnd_stuck, ev_ofO, evo_some, endsI, ends, finI, finV, ofO_some, ofO_none, flt_true]
    refine ev_lcI (tops xs) (fun _ => true) (fun a => .bl ((tops ys).any fun b => dv a b)) (by rfl) (by have := h.ln; have := @tops_len xs; omega) (fun a ha => ?_) ?_
    · simp [ap_bin2, ap_un1, ap_eVar, ap_eC, ap_eAdd, ap_eSub, ap_eMul, ap_eDiv, ap_eMod, ap_eModN, ap_ePow, ap_eNeg, ap_tst, ap_eLt, ap_eLe, ap_eGt, ap_eGe, ap_eEq, ap_eNe, ap_eIs, ap_eIsNot, ap_tAn, ap_tO, ap_tNo, ap_eAn, ap_eO, ap_eNo, ap_eIf, ap_tTr, ap_eOT, ap_asg, ap_sNx, ap_sSeq, ap_sAsg, ap_sDrop, ap_sRet, ap_sRetN, ap_sIf, ap_bTup, ap_bLst, ap_aNil, ap_aCons, ap_eCall, ap_eCallI, ap_eMeth, ap_eMethI, ap_eMake, ap_eFnA, ap_eFld, ap_sFldM, ap_sFldA, ap_eIx, ap_eDGet, ap_eDIn, ap_eDNotIn, ap_eDGet2, ap_sAug, ap_sPar, ap_sPar3, ap_sPut, ap_eApp, ap_ePop, ap_eTup, ap_eLst, ap_eDNK, ap_eDNT, ap_eCatS, ap_eCatL, ap_eCatT, ap_eRepL, ap_eIn, ap_eNotIn, ap_eInS, ap_eNotInS, ap_eEqD, ap_eNeD, ap_oNo, ap_oAt, ap_eSl, ap_eRev, ap_iL, ap_iT, ap_iR1, ap_iR2, ap_iR3, ap_iEn, ap_iZp, ap_iS, ap_tYs, ap_sRaise, ap_eIsi, ap_eOwn, ap_eOwnIn, ap_eOwnNeg, ap_sTry, ap_eDisp, f1, f2, n1, n2, fA, nA, d1, d2, kI, kMul, kDiv, kMod, kModN, kPow, kNeg, kB, kEq, kNe, scV, scal_int, dci, kIs, kIsNot, MM.isNon, kTru, P.frz, P.vw, P.fz, frzs, vws, outV, outI, outK, MM.isObj, hasNo, asL, asT, kLen, kAbs, kInt, kMax2, kMin2, kList, kTuple, kFld, kIx, MM.putAt, kIsi, tagOf, noE, ownF, bothC, inF, rgOk, wipeE, restE, frOnly, ev_ok, ev_bnd, ↓bnd_of, bnd_ok, bnd_err, bnd_stuck, ev_ofO, evo_some, endsI, ends, finI, finV, ofO_some, ofO_none, flt_true]
      refine ev_lcI (tops ys) (fun _ => true) (fun b => .bl (dv a b)) (by rfl) (by have := k.ln; have := @tops_len ys; omega) (fun b hb => ?_) ?_
      · simp [ap_bin2, ap_un1, ap_eVar, ap_eC, ap_eAdd, ap_eSub, ap_eMul, ap_eDiv, ap_eMod, ap_eModN, ap_ePow, ap_eNeg, ap_tst, ap_eLt, ap_eLe, ap_eGt, ap_eGe, ap_eEq, ap_eNe, ap_eIs, ap_eIsNot, ap_tAn, ap_tO, ap_tNo, ap_eAn, ap_eO, ap_eNo, ap_eIf, ap_tTr, ap_eOT, ap_asg, ap_sNx, ap_sSeq, ap_sAsg, ap_sDrop, ap_sRet, ap_sRetN, ap_sIf, ap_bTup, ap_bLst, ap_aNil, ap_aCons, ap_eCall, ap_eCallI, ap_eMeth, ap_eMethI, ap_eMake, ap_eFnA, ap_eFld, ap_sFldM, ap_sFldA, ap_eIx, ap_eDGet, ap_eDIn, ap_eDNotIn, ap_eDGet2, ap_sAug, ap_sPar, ap_sPar3, ap_sPut, ap_eApp, ap_ePop, ap_eTup, ap_eLst, ap_eDNK, ap_eDNT, ap_eCatS, ap_eCatL, ap_eCatT, ap_eRepL, ap_eIn, ap_eNotIn, ap_eInS, ap_eNotInS, ap_eEqD, ap_eNeD, ap_oNo, ap_oAt, ap_eSl, ap_eRev, ap_iL, ap_iT, ap_iR1, ap_iR2, ap_iR3, ap_iEn, ap_iZp, ap_iS, ap_tYs, ap_sRaise, ap_eIsi, ap_eOwn, ap_eOwnIn, ap_eOwnNeg, ap_sTry, ap_eDisp, f1, f2, n1, n2, fA, nA, d1, d2, kI, kMul, kDiv, kMod, kModN, kPow, kNeg, kB, kEq, kNe, scV, scal_int, dci, kIs, kIsNot, MM.isNon, kTru, P.frz, P.vw, P.fz, frzs, vws, outV, outI, outK, MM.isObj, hasNo, asL, asT, kLen, kAbs, kInt, kMax2, kMin2, kList, kTuple, kFld, kIx, MM.putAt, kIsi, tagOf, noE, ownF, bothC, inF, rgOk, wipeE, restE, frOnly, ev_ok, ev_bnd, ↓bnd_of, bnd_ok, bnd_err, bnd_stuck, ev_ofO, evo_some, endsI, ends, finI, finV, ofO_some, ofO_none, flt_true, R_divides (N := N) (a := a) (b := b) (h.tops a ha)]
      · have hm := kAny_map (tops ys) fun b => dv a b
        simp [ap_bin2, ap_un1, ap_eVar, ap_eC, ap_eAdd, ap_eSub, ap_eMul, ap_eDiv, ap_eMod, ap_eModN, ap_ePow, ap_eNeg, ap_tst, ap_eLt, ap_eLe, ap_eGt, ap_eGe, ap_eEq, ap_eNe, ap_eIs, ap_eIsNot, ap_tAn, ap_tO, ap_tNo, ap_eAn, ap_eO, ap_eNo, ap_eIf, ap_tTr, ap_eOT, ap_asg, ap_sNx, ap_sSeq, ap_sAsg, ap_sDrop, ap_sRet, ap_sRetN, ap_sIf, ap_bTup, ap_bLst, ap_aNil, ap_aCons, ap_eCall, ap_eCallI, ap_eMeth, ap_eMethI, ap_eMake, ap_eFnA, ap_eFld, ap_sFldM, ap_sFldA, ap_eIx, ap_eDGet, ap_eDIn, ap_eDNotIn, ap_eDGet2, ap_sAug, ap_sPar, ap_sPar3, ap_sPut, ap_eApp, ap_ePop, ap_eTup, ap_eLst, ap_eDNK, ap_eDNT, ap_eCatS, ap_eCatL, ap_eCatT, ap_eRepL, ap_eIn, ap_eNotIn, ap_eInS, ap_eNotInS, ap_eEqD, ap_eNeD, ap_oNo, ap_oAt, ap_eSl, ap_eRev, ap_iL, ap_iT, ap_iR1, ap_iR2, ap_iR3, ap_iEn, ap_iZp, ap_iS, ap_tYs, ap_sRaise, ap_eIsi, ap_eOwn, ap_eOwnIn, ap_eOwnNeg, ap_sTry, ap_eDisp, f1, f2, n1, n2, fA, nA, d1, d2, kI, kMul, kDiv, kMod, kModN, kPow, kNeg, kB, kEq, kNe, scV, scal_int, dci, kIs, kIsNot, MM.isNon, kTru, P.frz, P.vw, P.fz, frzs, vws, outV, outI, outK, MM.isObj, hasNo, asL, asT, kLen, kAbs, kInt, kMax2, kMin2, kList, kTuple, kFld, kIx, MM.putAt, kIsi, tagOf, noE, ownF, bothC, inF, rgOk, wipeE, restE, frOnly, ev_ok, ev_bnd, ↓bnd_of, bnd_ok, bnd_err, bnd_stuck, ev_ofO, evo_some, endsI, ends, finI, finV, ofO_some, ofO_none, flt_true, hm]
    · have hm := kAll_map (tops xs) fun a => (tops ys).any fun b => dv a b
      simp [ap_bin2, ap_un1, ap_eVar, ap_eC, ap_eAdd, ap_eSub, ap_eMul, ap_eDiv, ap_eMod, ap_eModN, ap_ePow, ap_eNeg, ap_tst, ap_eLt, ap_eLe, ap_eGt, ap_eGe, ap_eEq, ap_eNe, ap_eIs, ap_eIsNot, ap_tAn, ap_tO, ap_tNo, ap_eAn, ap_eO, ap_eNo, ap_eIf, ap_tTr, ap_eOT, ap_asg, ap_sNx, ap_sSeq, ap_sAsg, ap_sDrop, ap_sRet, ap_sRetN, ap_sIf, ap_bTup, ap_bLst, ap_aNil, ap_aCons, ap_eCall, ap_eCallI, ap_eMeth, ap_eMethI, ap_eMake, ap_eFnA, ap_eFld, ap_sFldM, ap_sFldA, ap_eIx, ap_eDGet, ap_eDIn, ap_eDNotIn, ap_eDGet2, ap_sAug, ap_sPar, ap_sPar3, ap_sPut, ap_eApp, ap_ePop, ap_eTup, ap_eLst, ap_eDNK, ap_eDNT, ap_eCatS, ap_eCatL, ap_eCatT, ap_eRepL, ap_eIn, ap_eNotIn, ap_eInS, ap_eNotInS, ap_eEqD, ap_eNeD, ap_oNo, ap_oAt, ap_eSl, ap_eRev, ap_iL, ap_iT, ap_iR1, ap_iR2, ap_iR3, ap_iEn, ap_iZp, ap_iS, ap_tYs, ap_sRaise, ap_eIsi, ap_eOwn, ap_eOwnIn, ap_eOwnNeg, ap_sTry, ap_eDisp, f1, f2, n1, n2, fA, nA, d1, d2, kI, kMul, kDiv, kMod, kModN, kPow, kNeg, kB, kEq, kNe, scV, scal_int, dci, kIs, kIsNot, MM.isNon, kTru, P.frz, P.vw, P.fz, frzs, vws, outV, outI, outK, MM.isObj, hasNo, asL, asT, kLen, kAbs, kInt, kMax2, kMin2, kList, kTuple, kFld, kIx, MM.putAt, kIsi, tagOf, noE, ownF, bothC, inF, rgOk, wipeE, restE, frOnly, ev_ok, ev_bnd, ↓bnd_of, bnd_ok, bnd_err, bnd_stuck, ev_ofO, evo_some, endsI, ends, finI, finV, ofO_some, ofO_none, flt_true, hm]).out
  exact h
theorem R_eq {N : Nat} {xs ys : List Int} : r_Moduli__eq_ N [mod xs, mod ys] = .ok (.d (.bl (decide (tops xs = tops ys))), .non) := by
  obtain ⟨x, h, rfl⟩ := (show Ev (r_Moduli__eq_ N [mod xs, mod ys]) fun z => z = (.d (.bl (decide (tops xs = tops ys))), .non) by
    refine ev_runV ?_
    have e := kEqB_tup (tops xs) (tops ys)
    simp [m_Moduli__eq_, ap_bin2, ap_un1, ap_eVar, ap_eC, ap_eAdd, ap_eSub, ap_eMul, ap_eDiv, ap_eMod, ap_eModN, ap_ePow, ap_eNeg, ap_tst, ap_eLt, ap_eLe, ap_eGt, ap_eGe, ap_eEq, ap_eNe, ap_eIs, ap_eIsNot, ap_tAn, ap_tO, ap_tNo, ap_eAn, ap_eO, ap_eNo, ap_eIf, ap_tTr, ap_eOT, ap_asg, ap_sNx, ap_sSeq, ap_sAsg, ap_sDrop, ap_sRet, ap_sRetN, ap_sIf, ap_bTup, ap_bLst, ap_aNil, ap_aCons, ap_eCall, ap_eCallI, ap_eMeth, ap_eMethI, ap_eMake, ap_eFnA, ap_eFld, ap_sFldM, ap_sFldA, ap_eIx, ap_eDGet, ap_eDIn, ap_eDNotIn, ap_eDGet2, ap_sAug, ap_sPar, ap_sPar3, ap_sPut, ap_eApp, ap_ePop, ap_eTup, ap_eLst, ap_eDNK, ap_eDNT, ap_eCatS, ap_eCatL, ap_eCatT, ap_eRepL, ap_eIn, ap_eNotIn, ap_eInS, ap_eNotInS, ap_eEqD, ap_eNeD, ap_oNo, ap_oAt, ap_eSl, ap_eRev, ap_iL, ap_iT, ap_iR1, ap_iR2, ap_iR3, ap_iEn, ap_iZp, ap_iS, ap_tYs, ap_sRaise, ap_eIsi, ap_eOwn, ap_eOwnIn, ap_eOwnNeg, ap_sTry, ap_eDisp, f1, f2, n1, n2, fA, nA, d1, d2, kI, kMul, kDiv, kMod, kModN, kPow, kNeg, kB, kEq, kNe, scV, scal_int, dci, kIs, kIsNot, MM.isNon, kTru, P.frz, P.vw, P.fz, frzs, vws, outV, outI, outK, MM.isObj, hasNo, asL, asT, kLen, kAbs, kInt, kMax2, kMin2, kList, kTuple, kFld, kIx, MM.putAt, kIsi, tagOf, noE, ownF, bothC, inF, rgOk, wipeE, restE, frOnly, ev_ok, ev_bnd, ↓bnd_of, bnd_ok, bnd_err, bnd_stuck, ev_ofO, evo_some, endsI, ends, finI, finV, ofO_some, ofO_none, flt_true, mod, tb_Moduli, kEqD, e, List.lookup]).out
  exact h
theorem R_tops {N : Nat} {xs : List Int} : r_Moduli_tops N [mod xs] = .ok (.d (.tup ((tops xs).map .int)), .non) := by
  obtain ⟨x, h, rfl⟩ := (show Ev (r_Moduli_tops N [mod xs]) fun z => z = (.d (.tup ((tops xs).map .int)), .non) by
    refine ev_runV ?_
    simp [m_Moduli_tops, ap_bin2, ap_un1, ap_eVar, ap_eC, ap_eAdd, ap_eSub, ap_eMul, ap_eDiv, ap_eMod, ap_eModN, ap_ePow, ap_eNeg, ap_tst, ap_eLt, ap_eLe, ap_eGt, ap_eGe, ap_eEq, ap_eNe, ap_eIs, ap_eIsNot, ap_tAn, ap_tO, ap_tNo, ap_eAn, ap_eO, ap_eNo, ap_eIf, ap_tTr, ap_eOT, ap_asg, ap_sNx, ap_sSeq, ap_sAsg, ap_sDrop, ap_sRet, ap_sRetN, ap_sIf, ap_bTup, ap_bLst, ap_aNil, ap_aCons, ap_eCall, ap_eCallI, ap_eMeth, ap_eMethI, ap_eMake, ap_eFnA, ap_eFld, ap_sFldM, ap_sFldA, ap_eIx, ap_eDGet, ap_eDIn, ap_eDNotIn, ap_eDGet2, ap_sAug, ap_sPar, ap_sPar3, ap_sPut, ap_eApp, ap_ePop, ap_eTup, ap_eLst, ap_eDNK, ap_eDNT, ap_eCatS, ap_eCatL, ap_eCatT, ap_eRepL, ap_eIn, ap_eNotIn, ap_eInS, ap_eNotInS, ap_eEqD, ap_eNeD, ap_oNo, ap_oAt, ap_eSl, ap_eRev, ap_iL, ap_iT, ap_iR1, ap_iR2, ap_iR3, ap_iEn, ap_iZp, ap_iS, ap_tYs, ap_sRaise, ap_eIsi, ap_eOwn, ap_eOwnIn, ap_eOwnNeg, ap_sTry, ap_eDisp, f1, f2, n1, n2, fA, nA, d1, d2, kI, kMul, kDiv, kMod, kModN, kPow, kNeg, kB, kEq, kNe, scV, scal_int, dci, kIs, kIsNot, MM.isNon, kTru, P.frz, P.vw, P.fz, frzs, vws, outV, outI, outK, MM.isObj, hasNo, asL, asT, kLen, kAbs, kInt, kMax2, kMin2, kList, kTuple, kFld, kIx, MM.putAt, kIsi, tagOf, noE, ownF, bothC, inF, rgOk, wipeE, restE, frOnly, ev_ok, ev_bnd, ↓bnd_of, bnd_ok, bnd_err, bnd_stuck, ev_ofO, evo_some, endsI, ends, finI, finV, ofO_some, ofO_none, flt_true, mod, List.lookup]).out
  exact h
end Ak02

set_option maxHeartbeats 2000000
namespace Ak02
open PySem PySem.Spec PyProof.Rows L2 MM
theorem cnt_pos (xs : List Int) (f : Int → Bool) : decide (0 < (xs.filter f).length) = xs.any f := by
  induction xs with
  | nil => rfl
  | cons x xs ih => cases h : f x <;> simp [List.filter_cons, h, ← ih]
theorem R_in {N : Nat} {xs : List Int} {n : Int} (hn : 0 < n) (hl : xs.length < 64) : r__law_in N [.lst (xs.map .int), .int n] = .ok (.d (.bl (xs.any fun x => decide (x % n = 0))), .non) := by
  obtain ⟨x, h, rfl⟩ := (show Ev (r__law_in N [.lst (xs.map .int), .int n]) fun z => z = (.d (.bl (xs.any fun x => decide (x % n = 0))), .non) by
    refine ev_runV ?_
    simp [m__law_in, ap_bin2, ap_un1, ap_eVar, ap_eC, ap_eAdd, ap_eSub, ap_eMul, ap_eDiv, ap_eMod, ap_eModN, ap_ePow, ap_eNeg, ap_tst, ap_eLt, ap_eLe, ap_eGt, ap_eGe, ap_eEq, ap_eNe, ap_eIs, ap_eIsNot, ap_tAn, ap_tO, ap_tNo, ap_eAn, ap_eO, ap_eNo, ap_eIf, ap_tTr, ap_eOT, ap_asg, ap_sNx, ap_sSeq, ap_sAsg, ap_sDrop, ap_sRet, ap_sRetN, ap_sIf, ap_bTup, ap_bLst, ap_aNil, ap_aCons, ap_eCall, ap_eCallI, ap_eMeth, ap_eMethI, ap_eMake, ap_eFnA, ap_eFld, ap_sFldM, ap_sFldA, ap_eIx, ap_eDGet, ap_eDIn, ap_eDNotIn, ap_eDGet2, ap_sAug, ap_sPar, ap_sPar3, ap_sPut, ap_eApp, ap_ePop, ap_eTup, ap_eLst, ap_eDNK, ap_eDNT, ap_eCatS, ap_eCatL, ap_eCatT, ap_eRepL, ap_eIn, ap_eNotIn, ap_eInS, ap_eNotInS, ap_eEqD, ap_eNeD, ap_oNo, ap_oAt, ap_eSl, ap_eRev, ap_iL, ap_iT, ap_iR1, ap_iR2, ap_iR3, ap_iEn, ap_iZp, ap_iS, ap_tYs, ap_sRaise, ap_eIsi, ap_eOwn, ap_eOwnIn, ap_eOwnNeg, ap_sTry, ap_eDisp, f1, f2, n1, n2, fA, nA, d1, d2, kI, kMul, kDiv, kMod, kModN, kPow, kNeg, kB, kEq, kNe, scV, scal_int, dci, kIs, kIsNot, MM.isNon, kTru, P.frz, P.vw, P.fz, frzs, vws, outV, outI, outK, MM.isObj, hasNo, asL, asT, kLen, kAbs, kInt, kMax2, kMin2, kList, kTuple, kFld, kIx, MM.putAt, kIsi, tagOf, noE, ownF, bothC, inF, rgOk, wipeE, restE, frOnly, ev_ok, ev_bnd, ↓bnd_of, bnd_ok, bnd_err, bnd_stuck, ev_ofO, evo_some, endsI, ends, finI, finV, ofO_some, ofO_none, flt_true]
    refine ev_lcI xs (fun x => decide (x % n = 0)) (fun x => .int x) (by rfl) (by omega) (fun a ha => ?_) ?_
    · simp [ap_bin2, ap_un1, ap_eVar, ap_eC, ap_eAdd, ap_eSub, ap_eMul, ap_eDiv, ap_eMod, ap_eModN, ap_ePow, ap_eNeg, ap_tst, ap_eLt, ap_eLe, ap_eGt, ap_eGe, ap_eEq, ap_eNe, ap_eIs, ap_eIsNot, ap_tAn, ap_tO, ap_tNo, ap_eAn, ap_eO, ap_eNo, ap_eIf, ap_tTr, ap_eOT, ap_asg, ap_sNx, ap_sSeq, ap_sAsg, ap_sDrop, ap_sRet, ap_sRetN, ap_sIf, ap_bTup, ap_bLst, ap_aNil, ap_aCons, ap_eCall, ap_eCallI, ap_eMeth, ap_eMethI, ap_eMake, ap_eFnA, ap_eFld, ap_sFldM, ap_sFldA, ap_eIx, ap_eDGet, ap_eDIn, ap_eDNotIn, ap_eDGet2, ap_sAug, ap_sPar, ap_sPar3, ap_sPut, ap_eApp, ap_ePop, ap_eTup, ap_eLst, ap_eDNK, ap_eDNT, ap_eCatS, ap_eCatL, ap_eCatT, ap_eRepL, ap_eIn, ap_eNotIn, ap_eInS, ap_eNotInS, ap_eEqD, ap_eNeD, ap_oNo, ap_oAt, ap_eSl, ap_eRev, ap_iL, ap_iT, ap_iR1, ap_iR2, ap_iR3, ap_iEn, ap_iZp, ap_iS, ap_tYs, ap_sRaise, ap_eIsi, ap_eOwn, ap_eOwnIn, ap_eOwnNeg, ap_sTry, ap_eDisp, f1, f2, n1, n2, fA, nA, d1, d2, kI, kMul, kDiv, kMod, kModN, kPow, kNeg, kB, kEq, kNe, scV, scal_int, dci, kIs, kIsNot, MM.isNon, kTru, P.frz, P.vw, P.fz, frzs, vws, outV, outI, outK, MM.isObj, hasNo, asL, asT, kLen, kAbs, kInt, kMax2, kMin2, kList, kTuple, kFld, kIx, MM.putAt, kIsi, tagOf, noE, ownF, bothC, inF, rgOk, wipeE, restE, frOnly, ev_ok, ev_bnd, ↓bnd_of, bnd_ok, bnd_err, bnd_stuck, ev_ofO, evo_some, endsI, ends, finI, finV, ofO_some, ofO_none, flt_true, hn]
    · simp only [ap_bin2, ap_un1, ap_eVar, ap_eC, ap_eAdd, ap_eSub, ap_eMul, ap_eDiv, ap_eMod, ap_eModN, ap_ePow, ap_eNeg, ap_tst, ap_eLt, ap_eLe, ap_eGt, ap_eGe, ap_eEq, ap_eNe, ap_eIs, ap_eIsNot, ap_tAn, ap_tO, ap_tNo, ap_eAn, ap_eO, ap_eNo, ap_eIf, ap_tTr, ap_eOT, ap_asg, ap_sNx, ap_sSeq, ap_sAsg, ap_sDrop, ap_sRet, ap_sRetN, ap_sIf, ap_bTup, ap_bLst, ap_aNil, ap_aCons, ap_eCall, ap_eCallI, ap_eMeth, ap_eMethI, ap_eMake, ap_eFnA, ap_eFld, ap_sFldM, ap_sFldA, ap_eIx, ap_eDGet, ap_eDIn, ap_eDNotIn, ap_eDGet2, ap_sAug, ap_sPar, ap_sPar3, ap_sPut, ap_eApp, ap_ePop, ap_eTup, ap_eLst, ap_eDNK, ap_eDNT, ap_eCatS, ap_eCatL, ap_eCatT, ap_eRepL, ap_eIn, ap_eNotIn, ap_eInS, ap_eNotInS, ap_eEqD, ap_eNeD, ap_oNo, ap_oAt, ap_eSl, ap_eRev, ap_iL, ap_iT, ap_iR1, ap_iR2, ap_iR3, ap_iEn, ap_iZp, ap_iS, ap_tYs, ap_sRaise, ap_eIsi, ap_eOwn, ap_eOwnIn, ap_eOwnNeg, ap_sTry, ap_eDisp, f1, f2, n1, n2, fA, nA, d1, d2, kI, kMul, kDiv, kMod, kModN, kPow, kNeg, kB, kEq, kNe, scV, scal_int, dci, kIs, kIsNot, MM.isNon, kTru, P.frz, P.vw, P.fz, frzs, vws, outV, outI, outK, MM.isObj, hasNo, asL, asT, kLen, kAbs, kInt, kMax2, kMin2, kList, kTuple, kFld, kIx, MM.putAt, kIsi, tagOf, noE, ownF, bothC, inF, rgOk, wipeE, restE, frOnly, ev_ok, ev_bnd, ↓bnd_of, bnd_ok, bnd_err, bnd_stuck, ev_ofO, evo_some, endsI, ends, finI, finV, ofO_some, ofO_none, flt_true, List.getElem?_cons_zero, List.getElem?_cons_succ, List.length_map]
      simp [ap_bin2, ap_un1, ap_eVar, ap_eC, ap_eAdd, ap_eSub, ap_eMul, ap_eDiv, ap_eMod, ap_eModN, ap_ePow, ap_eNeg, ap_tst, ap_eLt, ap_eLe, ap_eGt, ap_eGe, ap_eEq, ap_eNe, ap_eIs, ap_eIsNot, ap_tAn, ap_tO, ap_tNo, ap_eAn, ap_eO, ap_eNo, ap_eIf, ap_tTr, ap_eOT, ap_asg, ap_sNx, ap_sSeq, ap_sAsg, ap_sDrop, ap_sRet, ap_sRetN, ap_sIf, ap_bTup, ap_bLst, ap_aNil, ap_aCons, ap_eCall, ap_eCallI, ap_eMeth, ap_eMethI, ap_eMake, ap_eFnA, ap_eFld, ap_sFldM, ap_sFldA, ap_eIx, ap_eDGet, ap_eDIn, ap_eDNotIn, ap_eDGet2, ap_sAug, ap_sPar, ap_sPar3, ap_sPut, ap_eApp, ap_ePop, ap_eTup, ap_eLst, ap_eDNK, ap_eDNT, ap_eCatS, ap_eCatL, ap_eCatT, ap_eRepL, ap_eIn, ap_eNotIn, ap_eInS, ap_eNotInS, ap_eEqD, ap_eNeD, ap_oNo, ap_oAt, ap_eSl, ap_eRev, ap_iL, ap_iT, ap_iR1, ap_iR2, ap_iR3, ap_iEn, ap_iZp, ap_iS, ap_tYs, ap_sRaise, ap_eIsi, ap_eOwn, ap_eOwnIn, ap_eOwnNeg, ap_sTry, ap_eDisp, f1, f2, n1, n2, fA, nA, d1, d2, kI, kMul, kDiv, kMod, kModN, kPow, kNeg, kB, kEq, kNe, scV, scal_int, dci, kIs, kIsNot, MM.isNon, kTru, P.frz, P.vw, P.fz, frzs, vws, outV, outI, outK, MM.isObj, hasNo, asL, asT, kLen, kAbs, kInt, kMax2, kMin2, kList, kTuple, kFld, kIx, MM.putAt, kIsi, tagOf, noE, ownF, bothC, inF, rgOk, wipeE, restE, frOnly, ev_ok, ev_bnd, ↓bnd_of, bnd_ok, bnd_err, bnd_stuck, ev_ofO, evo_some, endsI, ends, finI, finV, ofO_some, ofO_none, flt_true, ← cnt_pos]).out
  exact h
theorem W_common (N : Nat) : ∀ (n a b : Nat), b < n → whileD (tTr (eVar 1)) (sPar 0 1 (aCons (eVar 1) (aCons (eMod (eVar 0) (eVar 1)) (aNil)))) n [.fr (.int a), .fr (.int b)] = .ok (.nx, [.fr (.int (Nat.gcd a b)), .fr (.int 0)])
  | 0, a, b, h => absurd h (Nat.not_lt_zero _)
  | n + 1, a, b, h => by
    unfold whileD
    by_cases hb : b = 0
    · subst hb
      simp [ap_bin2, ap_un1, ap_eVar, ap_eC, ap_eAdd, ap_eSub, ap_eMul, ap_eDiv, ap_eMod, ap_eModN, ap_ePow, ap_eNeg, ap_tst, ap_eLt, ap_eLe, ap_eGt, ap_eGe, ap_eEq, ap_eNe, ap_eIs, ap_eIsNot, ap_tAn, ap_tO, ap_tNo, ap_eAn, ap_eO, ap_eNo, ap_eIf, ap_tTr, ap_eOT, ap_asg, ap_sNx, ap_sSeq, ap_sAsg, ap_sDrop, ap_sRet, ap_sRetN, ap_sIf, ap_bTup, ap_bLst, ap_aNil, ap_aCons, ap_eCall, ap_eCallI, ap_eMeth, ap_eMethI, ap_eMake, ap_eFnA, ap_eFld, ap_sFldM, ap_sFldA, ap_eIx, ap_eDGet, ap_eDIn, ap_eDNotIn, ap_eDGet2, ap_sAug, ap_sPar, ap_sPar3, ap_sPut, ap_eApp, ap_ePop, ap_eTup, ap_eLst, ap_eDNK, ap_eDNT, ap_eCatS, ap_eCatL, ap_eCatT, ap_eRepL, ap_eIn, ap_eNotIn, ap_eInS, ap_eNotInS, ap_eEqD, ap_eNeD, ap_oNo, ap_oAt, ap_eSl, ap_eRev, ap_iL, ap_iT, ap_iR1, ap_iR2, ap_iR3, ap_iEn, ap_iZp, ap_iS, ap_tYs, ap_sRaise, ap_eIsi, ap_eOwn, ap_eOwnIn, ap_eOwnNeg, ap_sTry, ap_eDisp, f1, f2, n1, n2, fA, nA, d1, d2, kI, kMul, kDiv, kMod, kModN, kPow, kNeg, kB, kEq, kNe, scV, scal_int, dci, kIs, kIsNot, MM.isNon, kTru, P.frz, P.vw, P.fz, frzs, vws, outV, outI, outK, MM.isObj, hasNo, asL, asT, kLen, kAbs, kInt, kMax2, kMin2, kList, kTuple, kFld, kIx, MM.putAt, kIsi, tagOf, noE, ownF, bothC, inF, rgOk, wipeE, restE, frOnly, ev_ok, ev_bnd, ↓bnd_of, bnd_ok, bnd_err, bnd_stuck, ev_ofO, evo_some, endsI, ends, finI, finV, ofO_some, ofO_none, flt_true]
    · have hb2 : (0 : Int) < (b : Int) := by omega
      have hb3 : ((b : Int) != 0) = true := by simp; omega
      have r := W_common N n b (a % b) (by have := Nat.mod_lt a (Nat.pos_of_ne_zero hb); omega)
      have g : Nat.gcd b (a % b) = Nat.gcd a b := by rw [Nat.gcd_comm a b, Nat.gcd_rec b a, Nat.gcd_comm]
      rw [g] at r
      have c : ((a % b : Nat) : Int) = (a : Int) % (b : Int) := by simp
      rw [c] at r
      have hb4 : 0 < b := by omega
      simp [ap_bin2, ap_un1, ap_eVar, ap_eC, ap_eAdd, ap_eSub, ap_eMul, ap_eDiv, ap_eMod, ap_eModN, ap_ePow, ap_eNeg, ap_tst, ap_eLt, ap_eLe, ap_eGt, ap_eGe, ap_eEq, ap_eNe, ap_eIs, ap_eIsNot, ap_tAn, ap_tO, ap_tNo, ap_eAn, ap_eO, ap_eNo, ap_eIf, ap_tTr, ap_eOT, ap_asg, ap_sNx, ap_sSeq, ap_sAsg, ap_sDrop, ap_sRet, ap_sRetN, ap_sIf, ap_bTup, ap_bLst, ap_aNil, ap_aCons, ap_eCall, ap_eCallI, ap_eMeth, ap_eMethI, ap_eMake, ap_eFnA, ap_eFld, ap_sFldM, ap_sFldA, ap_eIx, ap_eDGet, ap_eDIn, ap_eDNotIn, ap_eDGet2, ap_sAug, ap_sPar, ap_sPar3, ap_sPut, ap_eApp, ap_ePop, ap_eTup, ap_eLst, ap_eDNK, ap_eDNT, ap_eCatS, ap_eCatL, ap_eCatT, ap_eRepL, ap_eIn, ap_eNotIn, ap_eInS, ap_eNotInS, ap_eEqD, ap_eNeD, ap_oNo, ap_oAt, ap_eSl, ap_eRev, ap_iL, ap_iT, ap_iR1, ap_iR2, ap_iR3, ap_iEn, ap_iZp, ap_iS, ap_tYs, ap_sRaise, ap_eIsi, ap_eOwn, ap_eOwnIn, ap_eOwnNeg, ap_sTry, ap_eDisp, f1, f2, n1, n2, fA, nA, d1, d2, kI, kMul, kDiv, kMod, kModN, kPow, kNeg, kB, kEq, kNe, scV, scal_int, dci, kIs, kIsNot, MM.isNon, kTru, P.frz, P.vw, P.fz, frzs, vws, outV, outI, outK, MM.isObj, hasNo, asL, asT, kLen, kAbs, kInt, kMax2, kMin2, kList, kTuple, kFld, kIx, MM.putAt, kIsi, tagOf, noE, ownF, bothC, inF, rgOk, wipeE, restE, frOnly, ev_ok, ev_bnd, ↓bnd_of, bnd_ok, bnd_err, bnd_stuck, ev_ofO, evo_some, endsI, ends, finI, finV, ofO_some, ofO_none, flt_true, hb2, hb, hb4]
      exact r
theorem fm_len {α β γ : Type} (l : List α) (m : List β) (f : α → β → γ) : (l.flatMap fun a => m.map (f a)).length = l.length * m.length := by
  induction l with
  | nil => simp
  | cons a l ih => simp only [List.flatMap_cons, List.length_append, List.length_map, ih, List.length_cons, Nat.add_mul, Nat.one_mul]; omega
theorem R_common {N : Nat} {a b : Int} (ha : 0 ≤ a) (hb : 0 ≤ b) (hN : b < N) : r_common N [.int a, .int b] = .ok (.d (.int (Int.gcd a b)), .non) := by
  obtain ⟨x, h, rfl⟩ := (show Ev (r_common N [.int a, .int b]) fun z => z = (.d (.int (Int.gcd a b)), .non) by
    refine ev_runV ?_
    obtain ⟨a, rfl⟩ := Int.eq_ofNat_of_zero_le ha
    obtain ⟨b, rfl⟩ := Int.eq_ofNat_of_zero_le hb
    have h1 : ¬ ((a : Int) < 0) := by omega
    have h2 : ¬ ((b : Int) < 0) := by omega
    have hw := W_common N N a b (by omega)
    simp [m_common, ap_bin2, ap_un1, ap_eVar, ap_eC, ap_eAdd, ap_eSub, ap_eMul, ap_eDiv, ap_eMod, ap_eModN, ap_ePow, ap_eNeg, ap_tst, ap_eLt, ap_eLe, ap_eGt, ap_eGe, ap_eEq, ap_eNe, ap_eIs, ap_eIsNot, ap_tAn, ap_tO, ap_tNo, ap_eAn, ap_eO, ap_eNo, ap_eIf, ap_tTr, ap_eOT, ap_asg, ap_sNx, ap_sSeq, ap_sAsg, ap_sDrop, ap_sRet, ap_sRetN, ap_sIf, ap_bTup, ap_bLst, ap_aNil, ap_aCons, ap_eCall, ap_eCallI, ap_eMeth, ap_eMethI, ap_eMake, ap_eFnA, ap_eFld, ap_sFldM, ap_sFldA, ap_eIx, ap_eDGet, ap_eDIn, ap_eDNotIn, ap_eDGet2, ap_sAug, ap_sPar, ap_sPar3, ap_sPut, ap_eApp, ap_ePop, ap_eTup, ap_eLst, ap_eDNK, ap_eDNT, ap_eCatS, ap_eCatL, ap_eCatT, ap_eRepL, ap_eIn, ap_eNotIn, ap_eInS, ap_eNotInS, ap_eEqD, ap_eNeD, ap_oNo, ap_oAt, ap_eSl, ap_eRev, ap_iL, ap_iT, ap_iR1, ap_iR2, ap_iR3, ap_iEn, ap_iZp, ap_iS, ap_tYs, ap_sRaise, ap_eIsi, ap_eOwn, ap_eOwnIn, ap_eOwnNeg, ap_sTry, ap_eDisp, f1, f2, n1, n2, fA, nA, d1, d2, kI, kMul, kDiv, kMod, kModN, kPow, kNeg, kB, kEq, kNe, scV, scal_int, dci, kIs, kIsNot, MM.isNon, kTru, P.frz, P.vw, P.fz, frzs, vws, outV, outI, outK, MM.isObj, hasNo, asL, asT, kLen, kAbs, kInt, kMax2, kMin2, kList, kTuple, kFld, kIx, MM.putAt, kIsi, tagOf, noE, ownF, bothC, inF, rgOk, wipeE, restE, frOnly, ev_ok, ev_bnd, ↓bnd_of, bnd_ok, bnd_err, bnd_stuck, ev_ofO, evo_some, endsI, ends, finI, finV, ofO_some, ofO_none, flt_true, h1, h2]
    rw [ap_sWhile]
    rw [hw]
    simp [ap_bin2, ap_un1, ap_eVar, ap_eC, ap_eAdd, ap_eSub, ap_eMul, ap_eDiv, ap_eMod, ap_eModN, ap_ePow, ap_eNeg, ap_tst, ap_eLt, ap_eLe, ap_eGt, ap_eGe, ap_eEq, ap_eNe, ap_eIs, ap_eIsNot, ap_tAn, ap_tO, ap_tNo, ap_eAn, ap_eO, ap_eNo, ap_eIf, ap_tTr, ap_eOT, ap_asg, ap_sNx, ap_sSeq, ap_sAsg, ap_sDrop, ap_sRet, ap_sRetN, ap_sIf, ap_bTup, ap_bLst, ap_aNil, ap_aCons, ap_eCall, ap_eCallI, ap_eMeth, ap_eMethI, ap_eMake, ap_eFnA, ap_eFld, ap_sFldM, ap_sFldA, ap_eIx, ap_eDGet, ap_eDIn, ap_eDNotIn, ap_eDGet2, ap_sAug, ap_sPar, ap_sPar3, ap_sPut, ap_eApp, ap_ePop, ap_eTup, ap_eLst, ap_eDNK, ap_eDNT, ap_eCatS, ap_eCatL, ap_eCatT, ap_eRepL, ap_eIn, ap_eNotIn, ap_eInS, ap_eNotInS, ap_eEqD, ap_eNeD, ap_oNo, ap_oAt, ap_eSl, ap_eRev, ap_iL, ap_iT, ap_iR1, ap_iR2, ap_iR3, ap_iEn, ap_iZp, ap_iS, ap_tYs, ap_sRaise, ap_eIsi, ap_eOwn, ap_eOwnIn, ap_eOwnNeg, ap_sTry, ap_eDisp, f1, f2, n1, n2, fA, nA, d1, d2, kI, kMul, kDiv, kMod, kModN, kPow, kNeg, kB, kEq, kNe, scV, scal_int, dci, kIs, kIsNot, MM.isNon, kTru, P.frz, P.vw, P.fz, frzs, vws, outV, outI, outK, MM.isObj, hasNo, asL, asT, kLen, kAbs, kInt, kMax2, kMin2, kList, kTuple, kFld, kIx, MM.putAt, kIsi, tagOf, noE, ownF, bothC, inF, rgOk, wipeE, restE, frOnly, ev_ok, ev_bnd, ↓bnd_of, bnd_ok, bnd_err, bnd_stuck, ev_ofO, evo_some, endsI, ends, finI, finV, ofO_some, ofO_none, flt_true]).out
  exact h
theorem R_and {N : Nat} {xs ys : List Int} (h : Nn xs) (k : Nn ys) (hx : xs.length ≤ 7) (hy : ys.length ≤ 7) (hN : ∀ y ∈ ys, y < N) : r_Moduli__and_ N [mod xs, mod ys] = .ok (.n (mod ((tops xs).flatMap fun a => (tops ys).map fun b => ((Int.gcd a b : Nat) : Int))), .non) := by
  have kk : Nn ((tops xs).flatMap fun a => (tops ys).map fun b => ((Int.gcd a b : Nat) : Int)) := ⟨fun z hz => by
      simp only [List.mem_flatMap, List.mem_map] at hz
      obtain ⟨_, _, _, _, rfl⟩ := hz
      omega, by
      have h1 := @tops_len xs
      have h2 := @tops_len ys
      have : (((tops xs).flatMap fun a => (tops ys).map fun b => ((Int.gcd a b : Nat) : Int))).length = (tops xs).length * (tops ys).length := by
        exact fm_len _ _ _
      rw [this]
      have := Nat.mul_le_mul (Nat.le_trans h1 hx) (Nat.le_trans h2 hy)
      omega⟩
  obtain ⟨x, h, rfl⟩ := (show Ev (r_Moduli__and_ N [mod xs, mod ys]) fun z => z = (.n (mod ((tops xs).flatMap fun a => (tops ys).map fun b => ((Int.gcd a b : Nat) : Int))), .non) by
    refine ev_runV ?_
    simp [m_Moduli__and_, ap_bin2, ap_un1, ap_eVar, ap_eC, ap_eAdd, ap_eSub, ap_eMul, ap_eDiv, ap_eMod, ap_eModN, ap_ePow, ap_eNeg, ap_tst, ap_eLt, ap_eLe, ap_eGt, ap_eGe, ap_eEq, ap_eNe, ap_eIs, ap_eIsNot, ap_tAn, ap_tO, ap_tNo, ap_eAn, ap_eO, ap_eNo, ap_eIf, ap_tTr, ap_eOT, ap_asg, ap_sNx, ap_sSeq, ap_sAsg, ap_sDrop, ap_sRet, ap_sRetN, ap_sIf, ap_bTup, ap_bLst, ap_aNil, ap_aCons, ap_eCall, ap_eCallI, ap_eMeth, ap_eMethI, ap_eMake, ap_eFnA, ap_eFld, ap_sFldM, ap_sFldA, ap_eIx, ap_eDGet, ap_eDIn, ap_eDNotIn, ap_eDGet2, ap_sAug, ap_sPar, ap_sPar3, ap_sPut, ap_eApp, ap_ePop, ap_eTup, ap_eLst, ap_eDNK, ap_eDNT, ap_eCatS, ap_eCatL, ap_eCatT, ap_eRepL, ap_eIn, ap_eNotIn, ap_eInS, ap_eNotInS, ap_eEqD, ap_eNeD, ap_oNo, ap_oAt, ap_eSl, ap_eRev, ap_iL, ap_iT, ap_iR1, ap_iR2, ap_iR3, ap_iEn, ap_iZp, ap_iS, ap_tYs, ap_sRaise, ap_eIsi, ap_eOwn, ap_eOwnIn, ap_eOwnNeg, ap_sTry, ap_eDisp, f1, f2, n1, n2, fA, nA, d1, d2, kI, kMul, kDiv, kMod, kModN, kPow, kNeg, kB, kEq, kNe, scV, scal_int, dci, kIs, kIsNot, MM.isNon, kTru, P.frz, P.vw, P.fz, frzs, vws, outV, outI, outK, MM.isObj, hasNo, asL, asT, kLen, kAbs, kInt, kMax2, kMin2, kList, kTuple, kFld, kIx, MM.putAt, kIsi, tagOf, noE, ownF, bothC, inF, rgOk, wipeE, restE, frOnly, ev_ok, ev_bnd, ↓bnd_of, bnd_ok, bnd_err, bnd_stuck, ev_ofO, evo_some, endsI, ends, finI, finV, ofO_some, ofO_none, flt_true]
    refine ev_lc2I (tops xs) (tops ys) (fun a b => .int (Int.gcd a b)) (by rfl) (by have := @tops_len xs; omega) (by have := @tops_len ys; omega) (fun a ha => ?_) ?_
    · simp [ap_bin2, ap_un1, ap_eVar, ap_eC, ap_eAdd, ap_eSub, ap_eMul, ap_eDiv, ap_eMod, ap_eModN, ap_ePow, ap_eNeg, ap_tst, ap_eLt, ap_eLe, ap_eGt, ap_eGe, ap_eEq, ap_eNe, ap_eIs, ap_eIsNot, ap_tAn, ap_tO, ap_tNo, ap_eAn, ap_eO, ap_eNo, ap_eIf, ap_tTr, ap_eOT, ap_asg, ap_sNx, ap_sSeq, ap_sAsg, ap_sDrop, ap_sRet, ap_sRetN, ap_sIf, ap_bTup, ap_bLst, ap_aNil, ap_aCons, ap_eCall, ap_eCallI, ap_eMeth, ap_eMethI, ap_eMake, ap_eFnA, ap_eFld, ap_sFldM, ap_sFldA, ap_eIx, ap_eDGet, ap_eDIn, ap_eDNotIn, ap_eDGet2, ap_sAug, ap_sPar, ap_sPar3, ap_sPut, ap_eApp, ap_ePop, ap_eTup, ap_eLst, ap_eDNK, ap_eDNT, ap_eCatS, ap_eCatL, ap_eCatT, ap_eRepL, ap_eIn, ap_eNotIn, ap_eInS, ap_eNotInS, ap_eEqD, ap_eNeD, ap_oNo, ap_oAt, ap_eSl, ap_eRev, ap_iL, ap_iT, ap_iR1, ap_iR2, ap_iR3, ap_iEn, ap_iZp, ap_iS, ap_tYs, ap_sRaise, ap_eIsi, ap_eOwn, ap_eOwnIn, ap_eOwnNeg, ap_sTry, ap_eDisp, f1, f2, n1, n2, fA, nA, d1, d2, kI, kMul, kDiv, kMod, kModN, kPow, kNeg, kB, kEq, kNe, scV, scal_int, dci, kIs, kIsNot, MM.isNon, kTru, P.frz, P.vw, P.fz, frzs, vws, outV, outI, outK, MM.isObj, hasNo, asL, asT, kLen, kAbs, kInt, kMax2, kMin2, kList, kTuple, kFld, kIx, MM.putAt, kIsi, tagOf, noE, ownF, bothC, inF, rgOk, wipeE, restE, frOnly, ev_ok, ev_bnd, ↓bnd_of, bnd_ok, bnd_err, bnd_stuck, ev_ofO, evo_some, endsI, ends, finI, finV, ofO_some, ofO_none, flt_true]
      refine ⟨_, rfl, rfl, fun b hb => ?_⟩
      simp [ap_bin2, ap_un1, ap_eVar, ap_eC, ap_eAdd, ap_eSub, ap_eMul, ap_eDiv, ap_eMod, ap_eModN, ap_ePow, ap_eNeg, ap_tst, ap_eLt, ap_eLe, ap_eGt, ap_eGe, ap_eEq, ap_eNe, ap_eIs, ap_eIsNot, ap_tAn, ap_tO, ap_tNo, ap_eAn, ap_eO, ap_eNo, ap_eIf, ap_tTr, ap_eOT, ap_asg, ap_sNx, ap_sSeq, ap_sAsg, ap_sDrop, ap_sRet, ap_sRetN, ap_sIf, ap_bTup, ap_bLst, ap_aNil, ap_aCons, ap_eCall, ap_eCallI, ap_eMeth, ap_eMethI, ap_eMake, ap_eFnA, ap_eFld, ap_sFldM, ap_sFldA, ap_eIx, ap_eDGet, ap_eDIn, ap_eDNotIn, ap_eDGet2, ap_sAug, ap_sPar, ap_sPar3, ap_sPut, ap_eApp, ap_ePop, ap_eTup, ap_eLst, ap_eDNK, ap_eDNT, ap_eCatS, ap_eCatL, ap_eCatT, ap_eRepL, ap_eIn, ap_eNotIn, ap_eInS, ap_eNotInS, ap_eEqD, ap_eNeD, ap_oNo, ap_oAt, ap_eSl, ap_eRev, ap_iL, ap_iT, ap_iR1, ap_iR2, ap_iR3, ap_iEn, ap_iZp, ap_iS, ap_tYs, ap_sRaise, ap_eIsi, ap_eOwn, ap_eOwnIn, ap_eOwnNeg, ap_sTry, ap_eDisp, f1, f2, n1, n2, fA, nA, d1, d2, kI, kMul, kDiv, kMod, kModN, kPow, kNeg, kB, kEq, kNe, scV, scal_int, dci, kIs, kIsNot, MM.isNon, kTru, P.frz, P.vw, P.fz, frzs, vws, outV, outI, outK, MM.isObj, hasNo, asL, asT, kLen, kAbs, kInt, kMax2, kMin2, kList, kTuple, kFld, kIx, MM.putAt, kIsi, tagOf, noE, ownF, bothC, inF, rgOk, wipeE, restE, frOnly, ev_ok, ev_bnd, ↓bnd_of, bnd_ok, bnd_err, bnd_stuck, ev_ofO, evo_some, endsI, ends, finI, finV, ofO_some, ofO_none, flt_true, R_common (N := N) (h.tops a ha) (k.tops b hb) (hN b (tops_mem.mp hb).1)]
    · have e : ((tops xs).flatMap fun a => (tops ys).map fun b => D.int (Int.gcd a b)) = ((tops xs).flatMap fun a => (tops ys).map fun b => ((Int.gcd a b : Nat) : Int)).map D.int := by
        simp [List.map_flatMap]
        rfl
      rw [e]
      simp [ap_bin2, ap_un1, ap_eVar, ap_eC, ap_eAdd, ap_eSub, ap_eMul, ap_eDiv, ap_eMod, ap_eModN, ap_ePow, ap_eNeg, ap_tst, ap_eLt, ap_eLe, ap_eGt, ap_eGe, ap_eEq, ap_eNe, ap_eIs, ap_eIsNot, ap_tAn, ap_tO, ap_tNo, ap_eAn, ap_eO, ap_eNo, ap_eIf, ap_tTr, ap_eOT, ap_asg, ap_sNx, ap_sSeq, ap_sAsg, ap_sDrop, ap_sRet, ap_sRetN, ap_sIf, ap_bTup, ap_bLst, ap_aNil, ap_aCons, ap_eCall, ap_eCallI, ap_eMeth, ap_eMethI, ap_eMake, ap_eFnA, ap_eFld, ap_sFldM, ap_sFldA, ap_eIx, ap_eDGet, ap_eDIn, ap_eDNotIn, ap_eDGet2, ap_sAug, ap_sPar, ap_sPar3, ap_sPut, ap_eApp, ap_ePop, ap_eTup, ap_eLst, ap_eDNK, ap_eDNT, ap_eCatS, ap_eCatL, ap_eCatT, ap_eRepL, ap_eIn, ap_eNotIn, ap_eInS, ap_eNotInS, ap_eEqD, ap_eNeD, ap_oNo, ap_oAt, ap_eSl, ap_eRev, ap_iL, ap_iT, ap_iR1, ap_iR2, ap_iR3, ap_iEn, ap_iZp, ap_iS, ap_tYs, ap_sRaise, ap_eIsi, ap_eOwn, ap_eOwnIn, ap_eOwnNeg, ap_sTry, ap_eDisp, f1, f2, n1, n2, fA, nA, d1, d2, kI, kMul, kDiv, kMod, kModN, kPow, kNeg, kB, kEq, kNe, scV, scal_int, dci, kIs, kIsNot, MM.isNon, kTru, P.frz, P.vw, P.fz, frzs, vws, outV, outI, outK, MM.isObj, hasNo, asL, asT, kLen, kAbs, kInt, kMax2, kMin2, kList, kTuple, kFld, kIx, MM.putAt, kIsi, tagOf, noE, ownF, bothC, inF, rgOk, wipeE, restE, frOnly, ev_ok, ev_bnd, ↓bnd_of, bnd_ok, bnd_err, bnd_stuck, ev_ofO, evo_some, endsI, ends, finI, finV, ofO_some, ofO_none, flt_true, R_init kk]).out
  exact h
theorem R_or {N : Nat} {xs ys : List Int} (h : Nn xs) (k : Nn ys) (hx : xs.length ≤ 7) (hy : ys.length ≤ 7) : r_Moduli__or_ N [mod xs, mod ys] = .ok (.n (mod (tops xs ++ tops ys)), .non) := by
  have h1 := @tops_len xs
  have h2 := @tops_len ys
  have kk : Nn (tops xs ++ tops ys) := ⟨fun z hz => by
      rcases List.mem_append.mp hz with q | q
      · exact h.tops z q
      · exact k.tops z q, by simp; omega⟩
  obtain ⟨x, h, rfl⟩ := (show Ev (r_Moduli__or_ N [mod xs, mod ys]) fun z => z = (.n (mod (tops xs ++ tops ys)), .non) by
    refine ev_runV ?_
    have e : (tops xs).map D.int ++ (tops ys).map D.int = (tops xs ++ tops ys).map D.int := by simp
    have l : (tops xs).length + (tops ys).length ≤ 16777216 := by omega
    have hi := R_init (N := N) kk
    simp [m_Moduli__or_, ap_bin2, ap_un1, ap_eVar, ap_eC, ap_eAdd, ap_eSub, ap_eMul, ap_eDiv, ap_eMod, ap_eModN, ap_ePow, ap_eNeg, ap_tst, ap_eLt, ap_eLe, ap_eGt, ap_eGe, ap_eEq, ap_eNe, ap_eIs, ap_eIsNot, ap_tAn, ap_tO, ap_tNo, ap_eAn, ap_eO, ap_eNo, ap_eIf, ap_tTr, ap_eOT, ap_asg, ap_sNx, ap_sSeq, ap_sAsg, ap_sDrop, ap_sRet, ap_sRetN, ap_sIf, ap_bTup, ap_bLst, ap_aNil, ap_aCons, ap_eCall, ap_eCallI, ap_eMeth, ap_eMethI, ap_eMake, ap_eFnA, ap_eFld, ap_sFldM, ap_sFldA, ap_eIx, ap_eDGet, ap_eDIn, ap_eDNotIn, ap_eDGet2, ap_sAug, ap_sPar, ap_sPar3, ap_sPut, ap_eApp, ap_ePop, ap_eTup, ap_eLst, ap_eDNK, ap_eDNT, ap_eCatS, ap_eCatL, ap_eCatT, ap_eRepL, ap_eIn, ap_eNotIn, ap_eInS, ap_eNotInS, ap_eEqD, ap_eNeD, ap_oNo, ap_oAt, ap_eSl, ap_eRev, ap_iL, ap_iT, ap_iR1, ap_iR2, ap_iR3, ap_iEn, ap_iZp, ap_iS, ap_tYs, ap_sRaise, ap_eIsi, ap_eOwn, ap_eOwnIn, ap_eOwnNeg, ap_sTry, ap_eDisp, f1, f2, n1, n2, fA, nA, d1, d2, kI, kMul, kDiv, kMod, kModN, kPow, kNeg, kB, kEq, kNe, scV, scal_int, dci, kIs, kIsNot, MM.isNon, kTru, P.frz, P.vw, P.fz, frzs, vws, outV, outI, outK, MM.isObj, hasNo, asL, asT, kLen, kAbs, kInt, kMax2, kMin2, kList, kTuple, kFld, kIx, MM.putAt, kIsi, tagOf, noE, ownF, bothC, inF, rgOk, wipeE, restE, frOnly, ev_ok, ev_bnd, ↓bnd_of, bnd_ok, bnd_err, bnd_stuck, ev_ofO, evo_some, endsI, ends, finI, finV, ofO_some, ofO_none, flt_true, mod, List.lookup, kCatT, l] at hi ⊢
    simp [ap_bin2, ap_un1, ap_eVar, ap_eC, ap_eAdd, ap_eSub, ap_eMul, ap_eDiv, ap_eMod, ap_eModN, ap_ePow, ap_eNeg, ap_tst, ap_eLt, ap_eLe, ap_eGt, ap_eGe, ap_eEq, ap_eNe, ap_eIs, ap_eIsNot, ap_tAn, ap_tO, ap_tNo, ap_eAn, ap_eO, ap_eNo, ap_eIf, ap_tTr, ap_eOT, ap_asg, ap_sNx, ap_sSeq, ap_sAsg, ap_sDrop, ap_sRet, ap_sRetN, ap_sIf, ap_bTup, ap_bLst, ap_aNil, ap_aCons, ap_eCall, ap_eCallI, ap_eMeth, ap_eMethI, ap_eMake, ap_eFnA, ap_eFld, ap_sFldM, ap_sFldA, ap_eIx, ap_eDGet, ap_eDIn, ap_eDNotIn, ap_eDGet2, ap_sAug, ap_sPar, ap_sPar3, ap_sPut, ap_eApp, ap_ePop, ap_eTup, ap_eLst, ap_eDNK, ap_eDNT, ap_eCatS, ap_eCatL, ap_eCatT, ap_eRepL, ap_eIn, ap_eNotIn, ap_eInS, ap_eNotInS, ap_eEqD, ap_eNeD, ap_oNo, ap_oAt, ap_eSl, ap_eRev, ap_iL, ap_iT, ap_iR1, ap_iR2, ap_iR3, ap_iEn, ap_iZp, ap_iS, ap_tYs, ap_sRaise, ap_eIsi, ap_eOwn, ap_eOwnIn, ap_eOwnNeg, ap_sTry, ap_eDisp, f1, f2, n1, n2, fA, nA, d1, d2, kI, kMul, kDiv, kMod, kModN, kPow, kNeg, kB, kEq, kNe, scV, scal_int, dci, kIs, kIsNot, MM.isNon, kTru, P.frz, P.vw, P.fz, frzs, vws, outV, outI, outK, MM.isObj, hasNo, asL, asT, kLen, kAbs, kInt, kMax2, kMin2, kList, kTuple, kFld, kIx, MM.putAt, kIsi, tagOf, noE, ownF, bothC, inF, rgOk, wipeE, restE, frOnly, ev_ok, ev_bnd, ↓bnd_of, bnd_ok, bnd_err, bnd_stuck, ev_ofO, evo_some, endsI, ends, finI, finV, ofO_some, ofO_none, flt_true, hi]).out
  exact h
end Ak02

set_option maxHeartbeats 2000000
namespace Ak02
open PySem PySem.Spec PyProof.Rows L2 MM
theorem R_like3 {N : Nat} (a b c : Bool) : r__law_like N [.lst [.bl a, .bl b, .bl c], .lst [.bl a, .bl b, .bl c]] = .ok (.d (.bl true), .non) := by
  cases a <;> cases b <;> cases c <;> kernel_rfl
def odds : List D := [.non, .tup [.int 1], .lst [.int (-1)], .lst [.bl true], .lst [.str "2"], .lst [.int 1, .non], .dK [(.inl 1, .int 2)], .int 6]
theorem R_bad {N : Nat} : ∀ d ∈ odds, r__law_bad N [d] = .ok (.d (.bl true), .non) := by
  intro d hd
  simp only [odds, List.mem_cons, List.mem_nil_iff, or_false] at hd
  rcases hd with rfl | rfl | rfl | rfl | rfl | rfl | rfl | rfl <;> kernel_rfl
theorem R_contains_odd {N : Nat} {xs : List Int} : ∀ d ∈ ([.bl true, .non, .str "1"] : List D), r_Moduli__contains_ N [mod xs, d] = .ok (.d (.bl false), .non) := by
  intro d hd
  simp only [List.mem_cons, List.mem_nil_iff, or_false] at hd
  rcases hd with rfl | rfl | rfl <;> kernel_rfl
theorem W_least (N : Nat) {xs : List Int} (h : Nn xs) : ∀ (k i n : Nat), 1 ≤ i → k < n → (∀ j : Nat, i ≤ j → j < i + k → ((tops xs).any fun b => dv j b) = true) → ((tops xs).any fun b => dv ((i + k : Nat) : Int) b) = false →
    Ev (whileD (tst (eFnA (fA (d1 kAny)) (aCons (eLc [2] (iT (eFld 0 "numbers" (eVar 0))) (asg 2) (tYs) (eCall 2 (r_divides N) (aCons (eVar 1) (aCons (eVar 2) (aNil))))) (aNil)))) (sAug 1 (fun i j => i + j) (eC (.int 1))) n [.fr (mod xs), .fr (.int i), .no]) fun a => a = (.nx, [.fr (mod xs), .fr (.int ((i + k : Nat) : Int)), .no])
  | k, i, 0, _, hk, _, _ => absurd hk (Nat.not_lt_zero _)
  | k, i, n + 1, hi, hk, hp, hq => by
    unfold whileD
    simp [ap_bin2, ap_un1, ap_eVar, ap_eC, ap_eAdd, ap_eSub, ap_eMul, ap_eDiv, ap_eMod, ap_eModN, ap_ePow, ap_eNeg, ap_tst, ap_eLt, ap_eLe, ap_eGt, ap_eGe, ap_eEq, ap_eNe, ap_eIs, ap_eIsNot, ap_tAn, ap_tO, ap_tNo, ap_eAn, ap_eO, ap_eNo, ap_eIf, ap_tTr, ap_eOT, ap_asg, ap_sNx, ap_sSeq, ap_sAsg, ap_sDrop, ap_sRet, ap_sRetN, ap_sIf, ap_bTup, ap_bLst, ap_aNil, ap_aCons, ap_eCall, ap_eCallI, ap_eMeth, ap_eMethI, ap_eMake, ap_eFnA, ap_eFld, ap_sFldM, ap_sFldA, ap_eIx, ap_eDGet, ap_eDIn, ap_eDNotIn, ap_eDGet2, ap_sAug, ap_sPar, ap_sPar3, ap_sPut, ap_eApp, ap_ePop, ap_eTup, ap_eLst, ap_eDNK, ap_eDNT, ap_eCatS, ap_eCatL, ap_eCatT, ap_eRepL, ap_eIn, ap_eNotIn, ap_eInS, ap_eNotInS, ap_eEqD, ap_eNeD, ap_oNo, ap_oAt, ap_eSl, ap_eRev, ap_iL, ap_iT, ap_iR1, ap_iR2, ap_iR3, ap_iEn, ap_iZp, ap_iS, ap_tYs, ap_sRaise, ap_eIsi, ap_eOwn, ap_eOwnIn, ap_eOwnNeg, ap_sTry, ap_eDisp, f1, f2, n1, n2, fA, nA, d1, d2, kI, kMul, kDiv, kMod, kModN, kPow, kNeg, kB, kEq, kNe, scV, scal_int, dci, kIs, kIsNot, MM.isNon, kTru, P.frz, P.vw, P.fz, frzs, vws, outV, outI, outK, MM.isObj, hasNo, asL, asT, kLen, kAbs, kInt, kMax2, kMin2, kList, kTuple, kFld, kIx, MM.putAt, kIsi, tagOf, noE, ownF, bothC, inF, rgOk, wipeE, restE, frOnly, ev_ok, ev_bnd, ↓bnd_of, bnd_ok, bnd_err, bnd_stuck, ev_ofO, evo_some, endsI, ends, finI, finV, ofO_some, ofO_none, flt_true]
    refine ev_lcI (tops xs) (fun _ => true) (fun b => .bl (dv i b)) (by rfl) (by have := h.ln; have := @tops_len xs; omega) (fun b hb => ?_) ?_
    · simp [ap_bin2, ap_un1, ap_eVar, ap_eC, ap_eAdd, ap_eSub, ap_eMul, ap_eDiv, ap_eMod, ap_eModN, ap_ePow, ap_eNeg, ap_tst, ap_eLt, ap_eLe, ap_eGt, ap_eGe, ap_eEq, ap_eNe, ap_eIs, ap_eIsNot, ap_tAn, ap_tO, ap_tNo, ap_eAn, ap_eO, ap_eNo, ap_eIf, ap_tTr, ap_eOT, ap_asg, ap_sNx, ap_sSeq, ap_sAsg, ap_sDrop, ap_sRet, ap_sRetN, ap_sIf, ap_bTup, ap_bLst, ap_aNil, ap_aCons, ap_eCall, ap_eCallI, ap_eMeth, ap_eMethI, ap_eMake, ap_eFnA, ap_eFld, ap_sFldM, ap_sFldA, ap_eIx, ap_eDGet, ap_eDIn, ap_eDNotIn, ap_eDGet2, ap_sAug, ap_sPar, ap_sPar3, ap_sPut, ap_eApp, ap_ePop, ap_eTup, ap_eLst, ap_eDNK, ap_eDNT, ap_eCatS, ap_eCatL, ap_eCatT, ap_eRepL, ap_eIn, ap_eNotIn, ap_eInS, ap_eNotInS, ap_eEqD, ap_eNeD, ap_oNo, ap_oAt, ap_eSl, ap_eRev, ap_iL, ap_iT, ap_iR1, ap_iR2, ap_iR3, ap_iEn, ap_iZp, ap_iS, ap_tYs, ap_sRaise, ap_eIsi, ap_eOwn, ap_eOwnIn, ap_eOwnNeg, ap_sTry, ap_eDisp, f1, f2, n1, n2, fA, nA, d1, d2, kI, kMul, kDiv, kMod, kModN, kPow, kNeg, kB, kEq, kNe, scV, scal_int, dci, kIs, kIsNot, MM.isNon, kTru, P.frz, P.vw, P.fz, frzs, vws, outV, outI, outK, MM.isObj, hasNo, asL, asT, kLen, kAbs, kInt, kMax2, kMin2, kList, kTuple, kFld, kIx, MM.putAt, kIsi, tagOf, noE, ownF, bothC, inF, rgOk, wipeE, restE, frOnly, ev_ok, ev_bnd, ↓bnd_of, bnd_ok, bnd_err, bnd_stuck, ev_ofO, evo_some, endsI, ends, finI, finV, ofO_some, ofO_none, flt_true, R_divides (N := N) (a := i) (b := b) (by omega)]
    · have hm := kAny_map (tops xs) fun b => dv i b
      cases k with
      | zero =>
        simp only [Nat.add_zero] at hq
        simp [ap_bin2, ap_un1, ap_eVar, ap_eC, ap_eAdd, ap_eSub, ap_eMul, ap_eDiv, ap_eMod, ap_eModN, ap_ePow, ap_eNeg, ap_tst, ap_eLt, ap_eLe, ap_eGt, ap_eGe, ap_eEq, ap_eNe, ap_eIs, ap_eIsNot, ap_tAn, ap_tO, ap_tNo, ap_eAn, ap_eO, ap_eNo, ap_eIf, ap_tTr, ap_eOT, ap_asg, ap_sNx, ap_sSeq, ap_sAsg, ap_sDrop, ap_sRet, ap_sRetN, ap_sIf, ap_bTup, ap_bLst, ap_aNil, ap_aCons, ap_eCall, ap_eCallI, ap_eMeth, ap_eMethI, ap_eMake, ap_eFnA, ap_eFld, ap_sFldM, ap_sFldA, ap_eIx, ap_eDGet, ap_eDIn, ap_eDNotIn, ap_eDGet2, ap_sAug, ap_sPar, ap_sPar3, ap_sPut, ap_eApp, ap_ePop, ap_eTup, ap_eLst, ap_eDNK, ap_eDNT, ap_eCatS, ap_eCatL, ap_eCatT, ap_eRepL, ap_eIn, ap_eNotIn, ap_eInS, ap_eNotInS, ap_eEqD, ap_eNeD, ap_oNo, ap_oAt, ap_eSl, ap_eRev, ap_iL, ap_iT, ap_iR1, ap_iR2, ap_iR3, ap_iEn, ap_iZp, ap_iS, ap_tYs, ap_sRaise, ap_eIsi, ap_eOwn, ap_eOwnIn, ap_eOwnNeg, ap_sTry, ap_eDisp, f1, f2, n1, n2, fA, nA, d1, d2, kI, kMul, kDiv, kMod, kModN, kPow, kNeg, kB, kEq, kNe, scV, scal_int, dci, kIs, kIsNot, MM.isNon, kTru, P.frz, P.vw, P.fz, frzs, vws, outV, outI, outK, MM.isObj, hasNo, asL, asT, kLen, kAbs, kInt, kMax2, kMin2, kList, kTuple, kFld, kIx, MM.putAt, kIsi, tagOf, noE, ownF, bothC, inF, rgOk, wipeE, restE, frOnly, ev_ok, ev_bnd, ↓bnd_of, bnd_ok, bnd_err, bnd_stuck, ev_ofO, evo_some, endsI, ends, finI, finV, ofO_some, ofO_none, flt_true, hm, hq]
      | succ k =>
        have h1 := hp i (Nat.le_refl _) (by omega)
        have r := W_least N h k (i + 1) n (by omega) (by omega) (fun j a b => hp j (by omega) (by omega)) (by rw [Nat.add_right_comm, Nat.add_assoc]; exact hq)
        have e : ((i + 1 : Nat) : Int) = (i : Int) + 1 := by omega
        have e2 : ((i + 1 + k : Nat) : Int) = (i : Int) + ((k : Int) + 1) := by omega
        rw [e, e2] at r
        simp [ap_bin2, ap_un1, ap_eVar, ap_eC, ap_eAdd, ap_eSub, ap_eMul, ap_eDiv, ap_eMod, ap_eModN, ap_ePow, ap_eNeg, ap_tst, ap_eLt, ap_eLe, ap_eGt, ap_eGe, ap_eEq, ap_eNe, ap_eIs, ap_eIsNot, ap_tAn, ap_tO, ap_tNo, ap_eAn, ap_eO, ap_eNo, ap_eIf, ap_tTr, ap_eOT, ap_asg, ap_sNx, ap_sSeq, ap_sAsg, ap_sDrop, ap_sRet, ap_sRetN, ap_sIf, ap_bTup, ap_bLst, ap_aNil, ap_aCons, ap_eCall, ap_eCallI, ap_eMeth, ap_eMethI, ap_eMake, ap_eFnA, ap_eFld, ap_sFldM, ap_sFldA, ap_eIx, ap_eDGet, ap_eDIn, ap_eDNotIn, ap_eDGet2, ap_sAug, ap_sPar, ap_sPar3, ap_sPut, ap_eApp, ap_ePop, ap_eTup, ap_eLst, ap_eDNK, ap_eDNT, ap_eCatS, ap_eCatL, ap_eCatT, ap_eRepL, ap_eIn, ap_eNotIn, ap_eInS, ap_eNotInS, ap_eEqD, ap_eNeD, ap_oNo, ap_oAt, ap_eSl, ap_eRev, ap_iL, ap_iT, ap_iR1, ap_iR2, ap_iR3, ap_iEn, ap_iZp, ap_iS, ap_tYs, ap_sRaise, ap_eIsi, ap_eOwn, ap_eOwnIn, ap_eOwnNeg, ap_sTry, ap_eDisp, f1, f2, n1, n2, fA, nA, d1, d2, kI, kMul, kDiv, kMod, kModN, kPow, kNeg, kB, kEq, kNe, scV, scal_int, dci, kIs, kIsNot, MM.isNon, kTru, P.frz, P.vw, P.fz, frzs, vws, outV, outI, outK, MM.isObj, hasNo, asL, asT, kLen, kAbs, kInt, kMax2, kMin2, kList, kTuple, kFld, kIx, MM.putAt, kIsi, tagOf, noE, ownF, bothC, inF, rgOk, wipeE, restE, frOnly, ev_ok, ev_bnd, ↓bnd_of, bnd_ok, bnd_err, bnd_stuck, ev_ofO, evo_some, endsI, ends, finI, finV, ofO_some, ofO_none, flt_true, hm, h1]
        exact r
theorem R_least {N : Nat} {xs : List Int} (h : Nn xs) (h0 : tops xs ≠ [0]) (k : Nat) (hk : k < N) (hp : ∀ j : Nat, 1 ≤ j → j < 1 + k → ((tops xs).any fun b => dv j b) = true) (hq : ((tops xs).any fun b => dv ((1 + k : Nat) : Int) b) = false) :
    r_Moduli_least_out N [mod xs] = .ok (.d (.int ((1 + k : Nat) : Int)), .non) := by
  obtain ⟨x, h, rfl⟩ := (show Ev (r_Moduli_least_out N [mod xs]) fun z => z = (.d (.int ((1 + k : Nat) : Int)), .non) by
    refine ev_runV ?_
    have e : kEqB (.tup ((tops xs).map .int)) (.tup [.int 0]) = some false := (kEqB_tup (tops xs) [0]).trans (by simp [h0])
    have l : List.lookup ("numbers" : Str) [(("numbers" : Str), D.tup ((tops xs).map .int))] = some (D.tup ((tops xs).map .int)) := by simp [List.lookup]
    simp [m_Moduli_least_out, ap_bin2, ap_un1, ap_eVar, ap_eC, ap_eAdd, ap_eSub, ap_eMul, ap_eDiv, ap_eMod, ap_eModN, ap_ePow, ap_eNeg, ap_tst, ap_eLt, ap_eLe, ap_eGt, ap_eGe, ap_eEq, ap_eNe, ap_eIs, ap_eIsNot, ap_tAn, ap_tO, ap_tNo, ap_eAn, ap_eO, ap_eNo, ap_eIf, ap_tTr, ap_eOT, ap_asg, ap_sNx, ap_sSeq, ap_sAsg, ap_sDrop, ap_sRet, ap_sRetN, ap_sIf, ap_bTup, ap_bLst, ap_aNil, ap_aCons, ap_eCall, ap_eCallI, ap_eMeth, ap_eMethI, ap_eMake, ap_eFnA, ap_eFld, ap_sFldM, ap_sFldA, ap_eIx, ap_eDGet, ap_eDIn, ap_eDNotIn, ap_eDGet2, ap_sAug, ap_sPar, ap_sPar3, ap_sPut, ap_eApp, ap_ePop, ap_eTup, ap_eLst, ap_eDNK, ap_eDNT, ap_eCatS, ap_eCatL, ap_eCatT, ap_eRepL, ap_eIn, ap_eNotIn, ap_eInS, ap_eNotInS, ap_eEqD, ap_eNeD, ap_oNo, ap_oAt, ap_eSl, ap_eRev, ap_iL, ap_iT, ap_iR1, ap_iR2, ap_iR3, ap_iEn, ap_iZp, ap_iS, ap_tYs, ap_sRaise, ap_eIsi, ap_eOwn, ap_eOwnIn, ap_eOwnNeg, ap_sTry, ap_eDisp, f1, f2, n1, n2, fA, nA, d1, d2, kI, kMul, kDiv, kMod, kModN, kPow, kNeg, kB, kEq, kNe, scV, scal_int, dci, kIs, kIsNot, MM.isNon, kTru, P.frz, P.vw, P.fz, frzs, vws, outV, outI, outK, MM.isObj, hasNo, asL, asT, kLen, kAbs, kInt, kMax2, kMin2, kList, kTuple, kFld, kIx, MM.putAt, kIsi, tagOf, noE, ownF, bothC, inF, rgOk, wipeE, restE, frOnly, ev_ok, ev_bnd, ↓bnd_of, bnd_ok, bnd_err, bnd_stuck, ev_ofO, evo_some, endsI, ends, finI, finV, ofO_some, ofO_none, flt_true, kEqD]
    rw [mod]
    simp [ap_bin2, ap_un1, ap_eVar, ap_eC, ap_eAdd, ap_eSub, ap_eMul, ap_eDiv, ap_eMod, ap_eModN, ap_ePow, ap_eNeg, ap_tst, ap_eLt, ap_eLe, ap_eGt, ap_eGe, ap_eEq, ap_eNe, ap_eIs, ap_eIsNot, ap_tAn, ap_tO, ap_tNo, ap_eAn, ap_eO, ap_eNo, ap_eIf, ap_tTr, ap_eOT, ap_asg, ap_sNx, ap_sSeq, ap_sAsg, ap_sDrop, ap_sRet, ap_sRetN, ap_sIf, ap_bTup, ap_bLst, ap_aNil, ap_aCons, ap_eCall, ap_eCallI, ap_eMeth, ap_eMethI, ap_eMake, ap_eFnA, ap_eFld, ap_sFldM, ap_sFldA, ap_eIx, ap_eDGet, ap_eDIn, ap_eDNotIn, ap_eDGet2, ap_sAug, ap_sPar, ap_sPar3, ap_sPut, ap_eApp, ap_ePop, ap_eTup, ap_eLst, ap_eDNK, ap_eDNT, ap_eCatS, ap_eCatL, ap_eCatT, ap_eRepL, ap_eIn, ap_eNotIn, ap_eInS, ap_eNotInS, ap_eEqD, ap_eNeD, ap_oNo, ap_oAt, ap_eSl, ap_eRev, ap_iL, ap_iT, ap_iR1, ap_iR2, ap_iR3, ap_iEn, ap_iZp, ap_iS, ap_tYs, ap_sRaise, ap_eIsi, ap_eOwn, ap_eOwnIn, ap_eOwnNeg, ap_sTry, ap_eDisp, f1, f2, n1, n2, fA, nA, d1, d2, kI, kMul, kDiv, kMod, kModN, kPow, kNeg, kB, kEq, kNe, scV, scal_int, dci, kIs, kIsNot, MM.isNon, kTru, P.frz, P.vw, P.fz, frzs, vws, outV, outI, outK, MM.isObj, hasNo, asL, asT, kLen, kAbs, kInt, kMax2, kMin2, kList, kTuple, kFld, kIx, MM.putAt, kIsi, tagOf, noE, ownF, bothC, inF, rgOk, wipeE, restE, frOnly, ev_ok, ev_bnd, ↓bnd_of, bnd_ok, bnd_err, bnd_stuck, ev_ofO, evo_some, endsI, ends, finI, finV, ofO_some, ofO_none, flt_true, l, e]
    rw [ap_sWhile]
    have w := W_least N h k 1 N (by omega) hk hp hq
    rw [mod] at w
    refine Ev.mono w ?_
    rintro _ rfl
    simp [ap_bin2, ap_un1, ap_eVar, ap_eC, ap_eAdd, ap_eSub, ap_eMul, ap_eDiv, ap_eMod, ap_eModN, ap_ePow, ap_eNeg, ap_tst, ap_eLt, ap_eLe, ap_eGt, ap_eGe, ap_eEq, ap_eNe, ap_eIs, ap_eIsNot, ap_tAn, ap_tO, ap_tNo, ap_eAn, ap_eO, ap_eNo, ap_eIf, ap_tTr, ap_eOT, ap_asg, ap_sNx, ap_sSeq, ap_sAsg, ap_sDrop, ap_sRet, ap_sRetN, ap_sIf, ap_bTup, ap_bLst, ap_aNil, ap_aCons, ap_eCall, ap_eCallI, ap_eMeth, ap_eMethI, ap_eMake, ap_eFnA, ap_eFld, ap_sFldM, ap_sFldA, ap_eIx, ap_eDGet, ap_eDIn, ap_eDNotIn, ap_eDGet2, ap_sAug, ap_sPar, ap_sPar3, ap_sPut, ap_eApp, ap_ePop, ap_eTup, ap_eLst, ap_eDNK, ap_eDNT, ap_eCatS, ap_eCatL, ap_eCatT, ap_eRepL, ap_eIn, ap_eNotIn, ap_eInS, ap_eNotInS, ap_eEqD, ap_eNeD, ap_oNo, ap_oAt, ap_eSl, ap_eRev, ap_iL, ap_iT, ap_iR1, ap_iR2, ap_iR3, ap_iEn, ap_iZp, ap_iS, ap_tYs, ap_sRaise, ap_eIsi, ap_eOwn, ap_eOwnIn, ap_eOwnNeg, ap_sTry, ap_eDisp, f1, f2, n1, n2, fA, nA, d1, d2, kI, kMul, kDiv, kMod, kModN, kPow, kNeg, kB, kEq, kNe, scV, scal_int, dci, kIs, kIsNot, MM.isNon, kTru, P.frz, P.vw, P.fz, frzs, vws, outV, outI, outK, MM.isObj, hasNo, asL, asT, kLen, kAbs, kInt, kMax2, kMin2, kList, kTuple, kFld, kIx, MM.putAt, kIsi, tagOf, noE, ownF, bothC, inF, rgOk, wipeE, restE, frOnly, ev_ok, ev_bnd, ↓bnd_of, bnd_ok, bnd_err, bnd_stuck, ev_ofO, evo_some, endsI, ends, finI, finV, ofO_some, ofO_none, flt_true]).out
  exact h
theorem R_least0 {N : Nat} {xs : List Int} (h0 : tops xs = [0]) : r_Moduli_least_out N [mod xs] = .ok (.d .non, .non) := by
  unfold mod
  rw [h0]
  kernel_rfl
end Ak02

set_option maxHeartbeats 2000000
namespace Ak02
open PySem PySem.Spec PyProof.Rows L2 MM
def InL (xs : List Int) (n : Int) : Bool := xs.any fun x => decide (x % n = 0)
def Tn (xs : List Int) (n : Int) : Bool := (tops xs).any fun b => dv n b
theorem InL_iff {xs : List Int} {n : Int} : InL xs n = true ↔ ∃ x ∈ xs, n ∣ x := by
  unfold InL
  simp only [List.any_eq_true, decide_eq_true_eq, Int.dvd_iff_emod_eq_zero]
theorem Tn_iff {xs : List Int} {n : Int} : Tn xs n = true ↔ ∃ x ∈ tops xs, n ∣ x := by
  unfold Tn
  simp only [List.any_eq_true, dv_iff]
theorem bounded (xs : List Int) : ∃ B : Nat, ∀ x ∈ xs, x ≤ B := by
  induction xs with
  | nil => exact ⟨0, by simp⟩
  | cons a l ih =>
    obtain ⟨B, hB⟩ := ih
    refine ⟨B + a.toNat, fun x hx => ?_⟩
    rcases List.mem_cons.mp hx with rfl | hx
    · omega
    · have := hB x hx; omega
theorem top_over {xs : List Int} (h : ∀ x ∈ xs, 0 ≤ x) : ∀ x ∈ xs, ∃ a ∈ tops xs, x ∣ a := by
  obtain ⟨B, hB⟩ := bounded xs
  have step : ∀ (k : Nat) (x : Int), x ∈ xs → x ≠ 0 → (B : Int) - x < k → ∃ a ∈ tops xs, x ∣ a := by
    intro k
    induction k with
    | zero => intro x hx h0 hk; have := hB x hx; omega
    | succ k ih =>
      intro x hx h0 hk
      by_cases ht : x ∈ tops xs
      · exact ⟨x, ht, Int.dvd_refl x⟩
      · have h1 : ∃ b ∈ xs, x ∣ b ∧ x ≠ b := by
          by_cases q : ∃ b ∈ xs, x ∣ b ∧ x ≠ b
          · exact q
          · exact absurd (tops_mem.mpr ⟨hx, fun b hb hd => by
              by_cases e : x = b
              · exact e
              · exact absurd ⟨b, hb, hd, e⟩ q⟩) ht
        obtain ⟨b, hb, hd, hne⟩ := h1
        by_cases hb0 : b = 0
        · subst hb0
          refine ⟨0, tops_mem.mpr ⟨hb, fun c hc hd => (Int.zero_dvd.mp hd).symm⟩, hd⟩
        · have hx0 := h x hx
          have hbp := h b hb
          have hle := Int.le_of_dvd (by omega) hd
          obtain ⟨a, ha, hda⟩ := ih b hb hb0 (by omega)
          exact ⟨a, ha, Int.dvd_trans hd hda⟩
  intro x hx
  by_cases h0 : x = 0
  · subst h0
    exact ⟨0, tops_mem.mpr ⟨hx, fun c hc hd => (Int.zero_dvd.mp hd).symm⟩, Int.dvd_refl 0⟩
  · exact step (B - x + 1).toNat x hx h0 (by have := hB x hx; omega)
theorem Tn_eq {xs : List Int} (h : ∀ x ∈ xs, 0 ≤ x) (n : Int) : Tn xs n = InL xs n := by
  rw [Bool.eq_iff_iff, Tn_iff, InL_iff]
  constructor
  · rintro ⟨a, ha, hd⟩
    exact ⟨a, (tops_mem.mp ha).1, hd⟩
  · rintro ⟨x, hx, hd⟩
    obtain ⟨a, ha, hd2⟩ := top_over h x hx
    exact ⟨a, ha, Int.dvd_trans hd hd2⟩
def gcds (xs ys : List Int) : List Int := (tops xs).flatMap fun a => (tops ys).map fun b => ((Int.gcd a b : Nat) : Int)
theorem gcds_nn (xs ys : List Int) : ∀ z ∈ gcds xs ys, 0 ≤ z := fun z hz => by
  simp only [gcds, List.mem_flatMap, List.mem_map] at hz
  obtain ⟨_, _, _, _, rfl⟩ := hz
  omega
theorem Tn_and {xs ys : List Int} (h : ∀ x ∈ xs, 0 ≤ x) (k : ∀ x ∈ ys, 0 ≤ x) (n : Int) : Tn (gcds xs ys) n = (InL xs n && InL ys n) := by
  rw [Tn_eq (gcds_nn xs ys), ← Tn_eq h, ← Tn_eq k, Bool.eq_iff_iff, InL_iff, Bool.and_eq_true, Tn_iff, Tn_iff]
  simp only [gcds, List.mem_flatMap, List.mem_map]
  constructor
  · rintro ⟨z, ⟨a, ha, b, hb, rfl⟩, hd⟩
    have := Int.dvd_coe_gcd_iff.mp hd
    exact ⟨⟨a, ha, this.1⟩, ⟨b, hb, this.2⟩⟩
  · rintro ⟨⟨a, ha, h1⟩, ⟨b, hb, h2⟩⟩
    exact ⟨_, ⟨a, ha, b, hb, rfl⟩, Int.dvd_coe_gcd h1 h2⟩
theorem Tn_or {xs ys : List Int} (h : ∀ x ∈ xs, 0 ≤ x) (k : ∀ x ∈ ys, 0 ≤ x) (n : Int) : Tn (tops xs ++ tops ys) n = (InL xs n || InL ys n) := by
  have nn : ∀ z ∈ tops xs ++ tops ys, 0 ≤ z := fun z hz => by
    rcases List.mem_append.mp hz with q | q
    · exact h z (tops_mem.mp q).1
    · exact k z (tops_mem.mp q).1
  rw [Tn_eq nn, ← Tn_eq h, ← Tn_eq k, Bool.eq_iff_iff, InL_iff, Bool.or_eq_true, Tn_iff, Tn_iff]
  constructor
  · rintro ⟨z, hz, hd⟩
    rcases List.mem_append.mp hz with q | q
    · exact .inl ⟨z, q, hd⟩
    · exact .inr ⟨z, q, hd⟩
  · rintro (⟨z, q, hd⟩ | ⟨z, q, hd⟩)
    · exact ⟨z, List.mem_append.mpr (.inl q), hd⟩
    · exact ⟨z, List.mem_append.mpr (.inr q), hd⟩
/-- 1 .. 210 -/
def rg : List Int := (List.range 210).map fun (t : Nat) => (1 : Int) + t
theorem rg_mem {n : Int} : n ∈ rg ↔ 1 ≤ n ∧ n ≤ 210 := by
  unfold rg
  simp only [List.mem_map, List.mem_range]
  constructor
  · rintro ⟨t, ht, rfl⟩; omega
  · rintro ⟨h1, h2⟩; exact ⟨(n - 1).toNat, by omega, by omega⟩
def here (xs : List Int) : List Int := rg.filter fun n => InL xs n
theorem here_mem {xs : List Int} {n : Int} : n ∈ here xs ↔ (1 ≤ n ∧ n ≤ 210) ∧ InL xs n = true := by
  unfold here
  rw [List.mem_filter, rg_mem]
/-- what S16 gives: below 211, and 199 divides nothing but 0 -/
structure Sm (xs : List Int) : Prop where
  nn : ∀ x ∈ xs, 0 ≤ x
  le : ∀ x ∈ xs, x ≤ 210
  p : ∀ x ∈ xs, (199 : Int) ∣ x → x = 0
theorem sm16 {xs : List Int} (h : ∀ x ∈ xs, x ∈ S16) : Sm xs := by
  have a : ∀ x ∈ S16, 0 ≤ x ∧ x ≤ 210 ∧ (x % 199 = 0 → x = 0) := by decide
  exact ⟨fun x hx => (a x (h x hx)).1, fun x hx => (a x (h x hx)).2.1, fun x hx hd => (a x (h x hx)).2.2 (Int.emod_eq_zero_of_dvd hd)⟩
theorem le_sub {xs ys : List Int} (h : Sm xs) (k : Sm ys) : ((tops xs).all fun a => (tops ys).any fun b => dv a b) = decide (((here xs).filter fun n => !decide (n ∈ here ys)).length = 0) := by
  rw [Bool.eq_iff_iff, decide_eq_true_eq, List.length_eq_zero_iff, List.filter_eq_nil_iff]
  simp only [List.all_eq_true, List.any_eq_true, dv_iff, Bool.not_eq_true', decide_eq_false_iff_not, Decidable.not_not]
  constructor
  · intro q n hn
    obtain ⟨h1, h2⟩ := here_mem.mp hn
    rw [← Tn_eq h.nn, Tn_iff] at h2
    obtain ⟨a, ha, hd⟩ := h2
    obtain ⟨b, hb, hd2⟩ := q a ha
    refine here_mem.mpr ⟨h1, ?_⟩
    rw [← Tn_eq k.nn, Tn_iff]
    exact ⟨b, hb, Int.dvd_trans hd hd2⟩
  · intro q a ha
    have ha2 := (tops_mem.mp ha).1
    by_cases h0 : a = 0
    · subst h0
      have h1 : (199 : Int) ∈ here xs := here_mem.mpr ⟨by omega, InL_iff.mpr ⟨0, ha2, Int.dvd_zero _⟩⟩
      obtain ⟨y, hy, hd⟩ := InL_iff.mp (here_mem.mp (q _ h1)).2
      have e := k.p y hy hd
      subst e
      obtain ⟨b, hb, hd2⟩ := top_over k.nn 0 hy
      exact ⟨b, hb, hd2⟩
    · have h1 : a ∈ here xs := here_mem.mpr ⟨by have := h.nn a ha2; have := h.le a ha2; omega, InL_iff.mpr ⟨a, ha2, Int.dvd_refl a⟩⟩
      obtain ⟨y, hy, hd⟩ := InL_iff.mp (here_mem.mp (q _ h1)).2
      obtain ⟨b, hb, hd2⟩ := top_over k.nn y hy
      exact ⟨b, hb, Int.dvd_trans hd hd2⟩
theorem le_iff {xs ys : List Int} (h : Sm xs) (k : Sm ys) : (∀ n ∈ here xs, n ∈ here ys) ↔ ∀ a ∈ tops xs, ∃ b ∈ tops ys, a ∣ b := by
  have e := le_sub h k
  rw [Bool.eq_iff_iff, decide_eq_true_eq, List.length_eq_zero_iff, List.filter_eq_nil_iff] at e
  simp only [List.all_eq_true, List.any_eq_true, dv_iff, Bool.not_eq_true', decide_eq_false_iff_not, Decidable.not_not] at e
  exact e.symm
theorem anti {a b : Int} (ha : 0 ≤ a) (hb : 0 ≤ b) (h : a ∣ b) (k : b ∣ a) : a = b := Int.dvd_antisymm ha hb h k
theorem tops_sub {xs ys : List Int} (h : ∀ x ∈ xs, 0 ≤ x) (k : ∀ y ∈ ys, 0 ≤ y) (q : ∀ a ∈ tops xs, ∃ b ∈ tops ys, a ∣ b) (r : ∀ b ∈ tops ys, ∃ a ∈ tops xs, b ∣ a) : ∀ a ∈ tops xs, a ∈ tops ys := fun a ha => by
  obtain ⟨b, hb, h1⟩ := q a ha
  obtain ⟨c, hc, h2⟩ := r b hb
  have e : a = c := (tops_mem.mp ha).2 c (tops_mem.mp hc).1 (Int.dvd_trans h1 h2)
  subst e
  rw [anti (h a (tops_mem.mp ha).1) (k b (tops_mem.mp hb).1) h1 h2]
  exact hb
theorem eq_here {xs ys : List Int} (h : Sm xs) (k : Sm ys) : (tops xs = tops ys) ↔ here xs = here ys := by
  constructor
  · intro e
    unfold here
    have : (fun n => InL xs n) = fun n => InL ys n := by
      funext n
      rw [← Tn_eq h.nn, ← Tn_eq k.nn, Tn, Tn, e]
    rw [this]
  · intro e
    have h1 := (le_iff h k).mp (by rw [e]; exact fun _ h => h)
    have h2 := (le_iff k h).mp (by rw [e]; exact fun _ h => h)
    exact lt_ext (tops_lt xs) (tops_lt ys) fun i => ⟨tops_sub h.nn k.nn h1 h2 i, tops_sub k.nn h.nn h2 h1 i⟩
theorem tops_idem (xs : List Int) : tops (tops xs) = tops xs := by
  refine lt_ext (tops_lt _) (tops_lt _) fun i => ?_
  rw [tops_mem]
  exact ⟨fun q => q.1, fun q => ⟨q, fun b hb hd => (tops_mem.mp q).2 b (tops_mem.mp hb).1 hd⟩⟩
theorem zero_top {xs : List Int} : decide ((0 : Int) ∈ tops xs) = decide (tops xs = [0]) := by
  rw [decide_eq_decide]
  constructor
  · intro h
    refine lt_ext (tops_lt xs) (by simp) fun i => ⟨fun hi => ?_, fun hi => ?_⟩
    · have := (tops_mem.mp hi).2 0 (tops_mem.mp h).1 (Int.dvd_zero i)
      simp [this]
    · simp at hi
      subst hi
      exact h
  · intro h
    rw [h]
    simp
theorem no_over {xs : List Int} : ((tops xs).filter fun a => decide (0 < ((tops xs).filter fun b => (!decide (a = b)) && ((!decide (a = 0)) && decide (b % a = 0))).length)) = [] := by
  rw [List.filter_eq_nil_iff]
  intro a ha
  have : ((tops xs).filter fun b => (!decide (a = b)) && ((!decide (a = 0)) && decide (b % a = 0))) = [] := by
    rw [List.filter_eq_nil_iff]
    intro b hb c
    simp only [Bool.and_eq_true, Bool.not_eq_true', decide_eq_false_iff_not, decide_eq_true_eq] at c
    exact c.1 ((tops_mem.mp ha).2 b (tops_mem.mp hb).1 (Int.dvd_of_emod_eq_zero c.2.2))
  rw [this]
  simp
theorem least {xs : List Int} (h : Sm xs) (h0 : tops xs ≠ [0]) : ∃ k : Nat, k < 199 ∧ (∀ j : Nat, 1 ≤ j → j < 1 + k → Tn xs j = true) ∧ Tn xs ((1 + k : Nat) : Int) = false := by
  have h199 : Tn xs ((1 + 198 : Nat) : Int) = false := by
    cases e : Tn xs ((1 + 198 : Nat) : Int) with
    | false => rfl
    | true =>
      obtain ⟨a, ha, hd⟩ := Tn_iff.mp e
      have e2 := h.p a (tops_mem.mp ha).1 hd
      subst e2
      have := zero_top (xs := xs)
      rw [decide_eq_true ha] at this
      exact absurd (of_decide_eq_true this.symm) h0
  have find : ∀ m : Nat, (∃ k : Nat, k < m ∧ (∀ j : Nat, 1 ≤ j → j < 1 + k → Tn xs j = true) ∧ Tn xs ((1 + k : Nat) : Int) = false) ∨ (∀ j : Nat, 1 ≤ j → j < 1 + m → Tn xs j = true) := by
    intro m
    induction m with
    | zero => right; intro j h1 h2; omega
    | succ m ih =>
      rcases ih with ⟨k, hk, q⟩ | q
      · exact .inl ⟨k, by omega, q⟩
      · cases e : Tn xs ((1 + m : Nat) : Int) with
        | false => exact .inl ⟨m, by omega, q, e⟩
        | true =>
          right
          intro j h1 h2
          by_cases hj : j = 1 + m
          · rw [hj]; exact e
          · exact q j h1 (by omega)
  rcases find 199 with q | q
  · exact q
  · rw [q (1 + 198) (by omega) (by omega)] at h199
    cases h199
theorem out_head {xs : List Int} (h : Sm xs) (k : Nat) (hk : k < 199) (hp : ∀ j : Nat, 1 ≤ j → j < 1 + k → Tn xs j = true) (hq : Tn xs ((1 + k : Nat) : Int) = false) : ∃ r, (rg.filter fun n => !decide (n ∈ here xs)) = ((1 + k : Nat) : Int) :: r := by
  have e : rg = ((List.range k).map fun (t : Nat) => (1 : Int) + t) ++ (((1 + k : Nat) : Int) :: ((List.range (209 - k)).map fun (t : Nat) => ((2 + k : Nat) : Int) + t)) := by
    unfold rg
    apply List.ext_getElem?
    intro i
    simp only [List.getElem?_map, List.getElem?_append, List.length_map, List.length_range, List.getElem?_cons, List.getElem?_range]
    split
    · rename_i hi
      rw [List.getElem?_range (by omega)]
      simp [hi]
    · split
      · rename_i h1 h2
        have : i = k := by omega
        subst this
        rw [List.getElem?_range (by omega)]
        simp
      · rename_i h1 h2
        by_cases hi : i < 210
        · rw [List.getElem?_range hi, List.getElem?_range (by omega)]
          simp
          omega
        · rw [List.getElem?_eq_none (by simp; omega), List.getElem?_eq_none (by simp; omega)]
          rfl
  have t1 : ∀ n : Int, 1 ≤ n → n ≤ 210 → (n ∈ here xs ↔ Tn xs n = true) := fun n h1 h2 => by
    rw [here_mem, Tn_eq h.nn]
    exact ⟨fun q => q.2, fun q => ⟨⟨h1, h2⟩, q⟩⟩
  rw [e, List.filter_append]
  have f1 : (((List.range k).map fun (t : Nat) => (1 : Int) + t).filter fun n => !decide (n ∈ here xs)) = [] := by
    rw [List.filter_eq_nil_iff]
    intro n hn
    simp only [List.mem_map, List.mem_range] at hn
    obtain ⟨t, ht, rfl⟩ := hn
    have : (1 : Int) + t ∈ here xs := (t1 _ (by omega) (by omega)).mpr (by have := hp (1 + t) (by omega) (by omega); rw [show ((1 + t : Nat) : Int) = 1 + (t : Int) by omega] at this; exact this)
    simp [this]
  have f2 : ((1 + k : Nat) : Int) ∉ here xs := fun c => by
    have := (t1 _ (by omega) (by omega)).mp c
    rw [hq] at this
    cases this
  rw [f1, List.filter_cons, if_pos (by simpa using f2)]
  exact ⟨_, rfl⟩
theorem out_nil {xs : List Int} (h0 : tops xs = [0]) : (rg.filter fun n => !decide (n ∈ here xs)) = [] := by
  rw [List.filter_eq_nil_iff]
  intro n hn
  have h1 : (0 : Int) ∈ xs := (tops_mem.mp (by rw [h0]; simp : (0 : Int) ∈ tops xs)).1
  have : n ∈ here xs := here_mem.mpr ⟨rg_mem.mp hn, InL_iff.mpr ⟨0, h1, Int.dvd_zero n⟩⟩
  simp [this]
end Ak02

set_option maxHeartbeats 4000000
namespace MM
open PySem PySem.Spec PyProof.Rows L2
theorem ev_seq {m n : SDen} {e : DEnv} {Q : Fl × DEnv → Prop} (R : DEnv → Prop) (h1 : Ev (m e) fun a => a.1 = .nx ∧ R a.2) (h2 : ∀ e', R e' → Ev (n e') Q) : Ev (sSeq m n e) Q := by
  rw [ap_sSeq, ev_bind]
  refine h1.mono ?_
  rintro ⟨fl, e'⟩ ⟨rfl, r⟩
  exact h2 e' r
/-- a comprehension over data known -/
theorem ev_lcP {vs : List Nat} {mi : IDen} {bd : BDn} {t : TDen} {m : EDen} {e e1 : DEnv} {Q : P × DEnv → Prop} (ds : List D) (f : D → Bool) (k : D → D) (hs : mi e = .ok (ds, e1)) (hl : ds.length ≤ 16777216)
    (h : ∀ d, d ∈ ds → EvO (bd (.d d) (wipeE vs e1)) fun e2 => Ev (t e2) fun c => c.1 = f d ∧ (f d = false → wipeE vs c.2 = wipeE vs e1) ∧ (f d = true → Ev (m c.2) fun p => EvO (p.1.frz p.2) fun z => z.1 = k d ∧ wipeE vs z.2 = wipeE vs e1))
    (q : Q (.n (.lst ((ds.filter f).map k)), restE e1 vs (wipeE vs e1))) : Ev (eLc vs mi bd t m e) Q := by
  rw [eLc_pure ds f k hs hl h, ev_ok]
  exact q
theorem inV_int (n : Int) (l : List Int) : inV (.int n) (l.map V.int) = decide (n ∈ l) := by
  induction l with
  | nil => rfl
  | cons a l ih =>
    unfold inV at ih ⊢
    rw [List.map_cons, List.any_cons, ih]
    by_cases h : a = n
    · subst h; simp [eqV]
    · have h2 : ¬ n = a := fun e => h e.symm
      simp [eqV, h, h2]
theorem kIn_lst (n : Int) (l : List Int) : kIn (.int n) (.lst (l.map .int)) = some (.bl (decide (n ∈ l))) := by
  simp [kIn, kInB, seqOf, flV, flVs_int, inV_int]
theorem kIn_tup (n : Int) (l : List Int) : kIn (.int n) (.tup (l.map .int)) = some (.bl (decide (n ∈ l))) := by
  simp [kIn, kInB, seqOf, flV, flVs_int, inV_int]
theorem kNotIn_lst (n : Int) (l : List Int) : kNotIn (.int n) (.lst (l.map .int)) = some (.bl (!decide (n ∈ l))) := by
  simp [kNotIn, kInB, seqOf, flV, flVs_int, inV_int]
theorem kNe_bl (a b : Bool) : kNe (.bl a) (.bl b) = some (.bl (!decide (a = b))) := by cases a <;> cases b <;> rfl
theorem kNe_int (a b : Int) : kNe (.int a) (.int b) = some (.bl (!decide (a = b))) := by simp [kNe, scV, scal_int]
end MM
namespace Ak02
open PySem PySem.Spec PyProof.Rows L2 MM
theorem iso0 {xs : List Int} : MM.isObj 0 Str.empty (mod xs) = true := rfl
theorem isoT {xs : List Int} : MM.isObj 0 "tops" (mod xs) = true := rfl
theorem isoL {xs : List Int} : MM.isObj 0 "least_out" (mod xs) = true := rfl
theorem both_mod {xs ys : List Int} : bothC 0 (mod xs) (mod ys) = true := rfl
theorem R_begin {N : Nat} {ns : List Int} : r__law_begin N [.scr ns] = .ok (.n (.lst [.lst (ns.map .int), .int 0, .int 0, .int 7]), .non) := rfl
theorem rgL_rg : rgL 1 210 = rg.map D.int := by
  unfold rgL rg
  rw [List.map_map]
  rfl
theorem says (ns : List Int) (hl : ns.length ≤ 63) (hb : ∀ z ∈ ns, Builtin.Int.intBits z ≤ 1048576) : ∃ N e, r_law N [.scr ns] = .ok (.d (.bl true), e) := by
  refine ⟨300, .non, ?_⟩
  obtain ⟨x, h, rfl⟩ := (show Ev (r_law 300 [.scr ns]) fun z => z = (.d (.bl true), .non) by
    refine ev_runV ?_
    have d0 : DOk (.lst [.lst (ns.map .int), .int 0, .int 0, .int 7]) := ⟨ns, 0, 0, 7, rfl, by omega, by omega, by decide, by omega, by omega, hb⟩
    obtain ⟨z1, nu1, xs, d1', rfl, lx, mx', hd1⟩ := (R_numbers (N := 300) d0).out
    obtain ⟨z2, nu2, ys, d2', rfl, ly, my, hd2⟩ := (R_numbers (N := 300) hd1).out
    have sx := sm16 mx'
    have sy := sm16 my
    have Nx : Nn xs := ⟨sx.nn, by omega⟩
    have Ny : Nn ys := ⟨sy.nn, by omega⟩
    have iX := R_init (N := 300) Nx
    have iY := R_init (N := 300) Ny
    have aXY := R_and (N := 300) Nx Ny (by omega) (by omega) fun y hy => by have := sy.le y hy; omega
    have oXY := R_or (N := 300) Nx Ny (by omega) (by omega)
    unfold m_law
    refine ev_seq (fun e => e = [.fr (.scr ns), .ow (.lst [.lst (ns.map .int), .int 0, .int 0, .int 7]), .no, .no, .no, .no, .no, .no, .no, .no, .no, .no, .no, .no, .no, .no, .no]) (by simp [ap_bin2, ap_un1, ap_eVar, ap_eC, ap_eAdd, ap_eSub, ap_eMul, ap_eDiv, ap_eMod, ap_eModN, ap_ePow, ap_eNeg, ap_tst, ap_eLt, ap_eLe, ap_eGt, ap_eGe, ap_eEq, ap_eNe, ap_eIs, ap_eIsNot, ap_tAn, ap_tO, ap_tNo, ap_eAn, ap_eO, ap_eNo, ap_eIf, ap_tTr, ap_eOT, ap_asg, ap_sNx, ap_sAsg, ap_sDrop, ap_sRet, ap_sRetN, ap_sIf, ap_bTup, ap_bLst, ap_aNil, ap_aCons, ap_eCall, ap_eCallI, ap_eMeth, ap_eMethI, ap_eMake, ap_eFnA, ap_eFld, ap_sFldM, ap_sFldA, ap_eIx, ap_eDGet, ap_eDIn, ap_eDNotIn, ap_eDGet2, ap_sAug, ap_sPar, ap_sPar3, ap_sPut, ap_eApp, ap_ePop, ap_eTup, ap_eLst, ap_eDNK, ap_eDNT, ap_eCatS, ap_eCatL, ap_eCatT, ap_eRepL, ap_eIn, ap_eNotIn, ap_eInS, ap_eNotInS, ap_eEqD, ap_eNeD, ap_oNo, ap_oAt, ap_eSl, ap_eRev, ap_iL, ap_iT, ap_iR1, ap_iR2, ap_iR3, ap_iEn, ap_iZp, ap_iS, ap_tYs, ap_sRaise, ap_eIsi, ap_eOwn, ap_eOwnIn, ap_eOwnNeg, ap_sTry, ap_eDisp, f1, f2, n1, n2, fA, nA, d1, d2, kI, kMul, kDiv, kMod, kModN, kPow, kNeg, kB, kEq, scV, scal_int, dci, kIs, kIsNot, MM.isNon, kTru, P.frz, P.vw, P.fz, frzs, vws, outV, outI, outK, asL, asT, kLen, kAbs, kInt, kMax2, kMin2, kList, kTuple, kFld, kIx, MM.putAt, kIsi, tagOf, noE, ownF, inF, rgOk, wipeE, restE, frOnly, ev_ok, ev_bnd, ↓bnd_of, bnd_ok, bnd_err, bnd_stuck, ev_ofO, evo_some, endsI, ends, finI, finV, ofO_some, ofO_none, flt_true, R_begin]) ?_
    rintro _ rfl
    refine ev_seq (fun e => e = [.fr (.scr ns), .ow d1', .ow (.lst (xs.map .int)), .no, .no, .no, .no, .no, .no, .no, .no, .no, .no, .no, .no, .no, .no]) (by simp [ap_bin2, ap_un1, ap_eVar, ap_eC, ap_eAdd, ap_eSub, ap_eMul, ap_eDiv, ap_eMod, ap_eModN, ap_ePow, ap_eNeg, ap_tst, ap_eLt, ap_eLe, ap_eGt, ap_eGe, ap_eEq, ap_eNe, ap_eIs, ap_eIsNot, ap_tAn, ap_tO, ap_tNo, ap_eAn, ap_eO, ap_eNo, ap_eIf, ap_tTr, ap_eOT, ap_asg, ap_sNx, ap_sAsg, ap_sDrop, ap_sRet, ap_sRetN, ap_sIf, ap_bTup, ap_bLst, ap_aNil, ap_aCons, ap_eCall, ap_eCallI, ap_eMeth, ap_eMethI, ap_eMake, ap_eFnA, ap_eFld, ap_sFldM, ap_sFldA, ap_eIx, ap_eDGet, ap_eDIn, ap_eDNotIn, ap_eDGet2, ap_sAug, ap_sPar, ap_sPar3, ap_sPut, ap_eApp, ap_ePop, ap_eTup, ap_eLst, ap_eDNK, ap_eDNT, ap_eCatS, ap_eCatL, ap_eCatT, ap_eRepL, ap_eIn, ap_eNotIn, ap_eInS, ap_eNotInS, ap_eEqD, ap_eNeD, ap_oNo, ap_oAt, ap_eSl, ap_eRev, ap_iL, ap_iT, ap_iR1, ap_iR2, ap_iR3, ap_iEn, ap_iZp, ap_iS, ap_tYs, ap_sRaise, ap_eIsi, ap_eOwn, ap_eOwnIn, ap_eOwnNeg, ap_sTry, ap_eDisp, f1, f2, n1, n2, fA, nA, d1, d2, kI, kMul, kDiv, kMod, kModN, kPow, kNeg, kB, kEq, scV, scal_int, dci, kIs, kIsNot, MM.isNon, kTru, P.frz, P.vw, P.fz, frzs, vws, outV, outI, outK, asL, asT, kLen, kAbs, kInt, kMax2, kMin2, kList, kTuple, kFld, kIx, MM.putAt, kIsi, tagOf, noE, ownF, inF, rgOk, wipeE, restE, frOnly, ev_ok, ev_bnd, ↓bnd_of, bnd_ok, bnd_err, bnd_stuck, ev_ofO, evo_some, endsI, ends, finI, finV, ofO_some, ofO_none, flt_true, nu1]) ?_
    rintro _ rfl
    refine ev_seq (fun e => e = [.fr (.scr ns), .ow d2', .ow (.lst (xs.map .int)), .ow (.lst (ys.map .int)), .no, .no, .no, .no, .no, .no, .no, .no, .no, .no, .no, .no, .no]) (by simp [ap_bin2, ap_un1, ap_eVar, ap_eC, ap_eAdd, ap_eSub, ap_eMul, ap_eDiv, ap_eMod, ap_eModN, ap_ePow, ap_eNeg, ap_tst, ap_eLt, ap_eLe, ap_eGt, ap_eGe, ap_eEq, ap_eNe, ap_eIs, ap_eIsNot, ap_tAn, ap_tO, ap_tNo, ap_eAn, ap_eO, ap_eNo, ap_eIf, ap_tTr, ap_eOT, ap_asg, ap_sNx, ap_sAsg, ap_sDrop, ap_sRet, ap_sRetN, ap_sIf, ap_bTup, ap_bLst, ap_aNil, ap_aCons, ap_eCall, ap_eCallI, ap_eMeth, ap_eMethI, ap_eMake, ap_eFnA, ap_eFld, ap_sFldM, ap_sFldA, ap_eIx, ap_eDGet, ap_eDIn, ap_eDNotIn, ap_eDGet2, ap_sAug, ap_sPar, ap_sPar3, ap_sPut, ap_eApp, ap_ePop, ap_eTup, ap_eLst, ap_eDNK, ap_eDNT, ap_eCatS, ap_eCatL, ap_eCatT, ap_eRepL, ap_eIn, ap_eNotIn, ap_eInS, ap_eNotInS, ap_eEqD, ap_eNeD, ap_oNo, ap_oAt, ap_eSl, ap_eRev, ap_iL, ap_iT, ap_iR1, ap_iR2, ap_iR3, ap_iEn, ap_iZp, ap_iS, ap_tYs, ap_sRaise, ap_eIsi, ap_eOwn, ap_eOwnIn, ap_eOwnNeg, ap_sTry, ap_eDisp, f1, f2, n1, n2, fA, nA, d1, d2, kI, kMul, kDiv, kMod, kModN, kPow, kNeg, kB, kEq, scV, scal_int, dci, kIs, kIsNot, MM.isNon, kTru, P.frz, P.vw, P.fz, frzs, vws, outV, outI, outK, asL, asT, kLen, kAbs, kInt, kMax2, kMin2, kList, kTuple, kFld, kIx, MM.putAt, kIsi, tagOf, noE, ownF, inF, rgOk, wipeE, restE, frOnly, ev_ok, ev_bnd, ↓bnd_of, bnd_ok, bnd_err, bnd_stuck, ev_ofO, evo_some, endsI, ends, finI, finV, ofO_some, ofO_none, flt_true, nu2]) ?_
    rintro _ rfl
    refine ev_seq (fun e => e = [.fr (.scr ns), .ow d2', .fr (.lst (xs.map .int)), .fr (.lst (ys.map .int)), .fr (mod xs), .fr (mod ys), .no, .no, .no, .no, .no, .no, .no, .no, .no, .no, .no]) (by simp [ap_bin2, ap_un1, ap_eVar, ap_eC, ap_eAdd, ap_eSub, ap_eMul, ap_eDiv, ap_eMod, ap_eModN, ap_ePow, ap_eNeg, ap_tst, ap_eLt, ap_eLe, ap_eGt, ap_eGe, ap_eEq, ap_eNe, ap_eIs, ap_eIsNot, ap_tAn, ap_tO, ap_tNo, ap_eAn, ap_eO, ap_eNo, ap_eIf, ap_tTr, ap_eOT, ap_asg, ap_sNx, ap_sAsg, ap_sDrop, ap_sRet, ap_sRetN, ap_sIf, ap_bTup, ap_bLst, ap_aNil, ap_aCons, ap_eCall, ap_eCallI, ap_eMeth, ap_eMethI, ap_eMake, ap_eFnA, ap_eFld, ap_sFldM, ap_sFldA, ap_eIx, ap_eDGet, ap_eDIn, ap_eDNotIn, ap_eDGet2, ap_sAug, ap_sPar, ap_sPar3, ap_sPut, ap_eApp, ap_ePop, ap_eTup, ap_eLst, ap_eDNK, ap_eDNT, ap_eCatS, ap_eCatL, ap_eCatT, ap_eRepL, ap_eIn, ap_eNotIn, ap_eInS, ap_eNotInS, ap_eEqD, ap_eNeD, ap_oNo, ap_oAt, ap_eSl, ap_eRev, ap_iL, ap_iT, ap_iR1, ap_iR2, ap_iR3, ap_iEn, ap_iZp, ap_iS, ap_tYs, ap_sRaise, ap_eIsi, ap_eOwn, ap_eOwnIn, ap_eOwnNeg, ap_sTry, ap_eDisp, f1, f2, n1, n2, fA, nA, d1, d2, kI, kMul, kDiv, kMod, kModN, kPow, kNeg, kB, kEq, scV, scal_int, dci, kIs, kIsNot, MM.isNon, kTru, P.frz, P.vw, P.fz, frzs, vws, outV, outI, outK, asL, asT, kLen, kAbs, kInt, kMax2, kMin2, kList, kTuple, kFld, kIx, MM.putAt, kIsi, tagOf, noE, ownF, inF, rgOk, wipeE, restE, frOnly, ev_ok, ev_bnd, ↓bnd_of, bnd_ok, bnd_err, bnd_stuck, ev_ofO, evo_some, endsI, ends, finI, finV, ofO_some, ofO_none, flt_true, iX, iY, bEach]) ?_
    rintro _ rfl
    refine ev_seq (fun e => e = [.fr (.scr ns), .ow d2', .fr (.lst (xs.map .int)), .fr (.lst (ys.map .int)), .fr (mod xs), .fr (mod ys), .fr (mod (gcds xs ys)), .fr (mod (tops xs ++ tops ys)), .no, .no, .no, .no, .no, .no, .no, .no, .no]) (by simp [ap_bin2, ap_un1, ap_eVar, ap_eC, ap_eAdd, ap_eSub, ap_eMul, ap_eDiv, ap_eMod, ap_eModN, ap_ePow, ap_eNeg, ap_tst, ap_eLt, ap_eLe, ap_eGt, ap_eGe, ap_eEq, ap_eNe, ap_eIs, ap_eIsNot, ap_tAn, ap_tO, ap_tNo, ap_eAn, ap_eO, ap_eNo, ap_eIf, ap_tTr, ap_eOT, ap_asg, ap_sNx, ap_sAsg, ap_sDrop, ap_sRet, ap_sRetN, ap_sIf, ap_bTup, ap_bLst, ap_aNil, ap_aCons, ap_eCall, ap_eCallI, ap_eMeth, ap_eMethI, ap_eMake, ap_eFnA, ap_eFld, ap_sFldM, ap_sFldA, ap_eIx, ap_eDGet, ap_eDIn, ap_eDNotIn, ap_eDGet2, ap_sAug, ap_sPar, ap_sPar3, ap_sPut, ap_eApp, ap_ePop, ap_eTup, ap_eLst, ap_eDNK, ap_eDNT, ap_eCatS, ap_eCatL, ap_eCatT, ap_eRepL, ap_eIn, ap_eNotIn, ap_eInS, ap_eNotInS, ap_eEqD, ap_eNeD, ap_oNo, ap_oAt, ap_eSl, ap_eRev, ap_iL, ap_iT, ap_iR1, ap_iR2, ap_iR3, ap_iEn, ap_iZp, ap_iS, ap_tYs, ap_sRaise, ap_eIsi, ap_eOwn, ap_eOwnIn, ap_eOwnNeg, ap_sTry, ap_eDisp, f1, f2, n1, n2, fA, nA, d1, d2, kI, kMul, kDiv, kMod, kModN, kPow, kNeg, kB, kEq, scV, scal_int, dci, kIs, kIsNot, MM.isNon, kTru, P.frz, P.vw, P.fz, frzs, vws, outV, outI, outK, asL, asT, kLen, kAbs, kInt, kMax2, kMin2, kList, kTuple, kFld, kIx, MM.putAt, kIsi, tagOf, noE, ownF, inF, rgOk, wipeE, restE, frOnly, ev_ok, ev_bnd, ↓bnd_of, bnd_ok, bnd_err, bnd_stuck, ev_ofO, evo_some, endsI, ends, finI, finV, ofO_some, ofO_none, flt_true, both_mod, aXY, oXY, gcds]) ?_
    rintro _ rfl
    have rgl : rg.length = 210 := by simp [rg]
    have inx : ∀ n : Int, n ∈ rg → r__law_in 300 [.lst (xs.map .int), .int n] = .ok (.d (.bl (InL xs n)), .non) := fun n hn => R_in (by have := rg_mem.mp hn; omega) (by omega)
    have iny : ∀ n : Int, n ∈ rg → r__law_in 300 [.lst (ys.map .int), .int n] = .ok (.d (.bl (InL ys n)), .non) := fun n hn => R_in (by have := rg_mem.mp hn; omega) (by omega)
    refine ev_seq (fun e => e = [.fr (.scr ns), .ow d2', .fr (.lst (xs.map .int)), .fr (.lst (ys.map .int)), .fr (mod xs), .fr (mod ys), .fr (mod (gcds xs ys)), .fr (mod (tops xs ++ tops ys)), .ow (.lst ((here xs).map .int)), .no, .no, .no, .no, .no, .no, .no, .no]) ?_ ?_
    · simp [ap_bin2, ap_un1, ap_eVar, ap_eC, ap_eAdd, ap_eSub, ap_eMul, ap_eDiv, ap_eMod, ap_eModN, ap_ePow, ap_eNeg, ap_tst, ap_eLt, ap_eLe, ap_eGt, ap_eGe, ap_eEq, ap_eNe, ap_eIs, ap_eIsNot, ap_tAn, ap_tO, ap_tNo, ap_eAn, ap_eO, ap_eNo, ap_eIf, ap_tTr, ap_eOT, ap_asg, ap_sNx, ap_sAsg, ap_sDrop, ap_sRet, ap_sRetN, ap_sIf, ap_bTup, ap_bLst, ap_aNil, ap_aCons, ap_eCall, ap_eCallI, ap_eMeth, ap_eMethI, ap_eMake, ap_eFnA, ap_eFld, ap_sFldM, ap_sFldA, ap_eIx, ap_eDGet, ap_eDIn, ap_eDNotIn, ap_eDGet2, ap_sAug, ap_sPar, ap_sPar3, ap_sPut, ap_eApp, ap_ePop, ap_eTup, ap_eLst, ap_eDNK, ap_eDNT, ap_eCatS, ap_eCatL, ap_eCatT, ap_eRepL, ap_eIn, ap_eNotIn, ap_eInS, ap_eNotInS, ap_eEqD, ap_eNeD, ap_oNo, ap_oAt, ap_eSl, ap_eRev, ap_iL, ap_iT, ap_iR1, ap_iR2, ap_iR3, ap_iEn, ap_iZp, ap_iS, ap_tYs, ap_sRaise, ap_eIsi, ap_eOwn, ap_eOwnIn, ap_eOwnNeg, ap_sTry, ap_eDisp, f1, f2, n1, n2, fA, nA, d1, d2, kI, kMul, kDiv, kMod, kModN, kPow, kNeg, kB, kEq, scV, scal_int, dci, kIs, kIsNot, MM.isNon, kTru, P.frz, P.vw, P.fz, frzs, vws, outV, outI, outK, asL, asT, kLen, kAbs, kInt, kMax2, kMin2, kList, kTuple, kFld, kIx, MM.putAt, kIsi, tagOf, noE, ownF, inF, rgOk, wipeE, restE, frOnly, ev_ok, ev_bnd, ↓bnd_of, bnd_ok, bnd_err, bnd_stuck, ev_ofO, evo_some, endsI, ends, finI, finV, ofO_some, ofO_none, flt_true]
      refine ev_lcI rg (InL xs) .int (e1 := [.fr (.scr ns), .ow d2', .fr (.lst (xs.map .int)), .fr (.lst (ys.map .int)), .fr (mod xs), .fr (mod ys), .fr (mod (gcds xs ys)), .fr (mod (tops xs ++ tops ys)), .no, .no, .no, .no, .no, .no, .no, .no, .no]) (by simp [ap_bin2, ap_un1, ap_eVar, ap_eC, ap_eAdd, ap_eSub, ap_eMul, ap_eDiv, ap_eMod, ap_eModN, ap_ePow, ap_eNeg, ap_tst, ap_eLt, ap_eLe, ap_eGt, ap_eGe, ap_eEq, ap_eNe, ap_eIs, ap_eIsNot, ap_tAn, ap_tO, ap_tNo, ap_eAn, ap_eO, ap_eNo, ap_eIf, ap_tTr, ap_eOT, ap_asg, ap_sNx, ap_sAsg, ap_sDrop, ap_sRet, ap_sRetN, ap_sIf, ap_bTup, ap_bLst, ap_aNil, ap_aCons, ap_eCall, ap_eCallI, ap_eMeth, ap_eMethI, ap_eMake, ap_eFnA, ap_eFld, ap_sFldM, ap_sFldA, ap_eIx, ap_eDGet, ap_eDIn, ap_eDNotIn, ap_eDGet2, ap_sAug, ap_sPar, ap_sPar3, ap_sPut, ap_eApp, ap_ePop, ap_eTup, ap_eLst, ap_eDNK, ap_eDNT, ap_eCatS, ap_eCatL, ap_eCatT, ap_eRepL, ap_eIn, ap_eNotIn, ap_eInS, ap_eNotInS, ap_eEqD, ap_eNeD, ap_oNo, ap_oAt, ap_eSl, ap_eRev, ap_iL, ap_iT, ap_iR1, ap_iR2, ap_iR3, ap_iEn, ap_iZp, ap_iS, ap_tYs, ap_sRaise, ap_eIsi, ap_eOwn, ap_eOwnIn, ap_eOwnNeg, ap_sTry, ap_eDisp, f1, f2, n1, n2, fA, nA, d1, d2, kI, kMul, kDiv, kMod, kModN, kPow, kNeg, kB, kEq, scV, scal_int, dci, kIs, kIsNot, MM.isNon, kTru, P.frz, P.vw, P.fz, frzs, vws, outV, outI, outK, asL, asT, kLen, kAbs, kInt, kMax2, kMin2, kList, kTuple, kFld, kIx, MM.putAt, kIsi, tagOf, noE, ownF, inF, rgOk, wipeE, restE, frOnly, ev_ok, ev_bnd, ↓bnd_of, bnd_ok, bnd_err, bnd_stuck, ev_ofO, evo_some, endsI, ends, finI, finV, ofO_some, ofO_none, flt_true, rgL_rg]) (by omega) (fun n hn => ?_) ?_
      · simp [ap_bin2, ap_un1, ap_eVar, ap_eC, ap_eAdd, ap_eSub, ap_eMul, ap_eDiv, ap_eMod, ap_eModN, ap_ePow, ap_eNeg, ap_tst, ap_eLt, ap_eLe, ap_eGt, ap_eGe, ap_eEq, ap_eNe, ap_eIs, ap_eIsNot, ap_tAn, ap_tO, ap_tNo, ap_eAn, ap_eO, ap_eNo, ap_eIf, ap_tTr, ap_eOT, ap_asg, ap_sNx, ap_sAsg, ap_sDrop, ap_sRet, ap_sRetN, ap_sIf, ap_bTup, ap_bLst, ap_aNil, ap_aCons, ap_eCall, ap_eCallI, ap_eMeth, ap_eMethI, ap_eMake, ap_eFnA, ap_eFld, ap_sFldM, ap_sFldA, ap_eIx, ap_eDGet, ap_eDIn, ap_eDNotIn, ap_eDGet2, ap_sAug, ap_sPar, ap_sPar3, ap_sPut, ap_eApp, ap_ePop, ap_eTup, ap_eLst, ap_eDNK, ap_eDNT, ap_eCatS, ap_eCatL, ap_eCatT, ap_eRepL, ap_eIn, ap_eNotIn, ap_eInS, ap_eNotInS, ap_eEqD, ap_eNeD, ap_oNo, ap_oAt, ap_eSl, ap_eRev, ap_iL, ap_iT, ap_iR1, ap_iR2, ap_iR3, ap_iEn, ap_iZp, ap_iS, ap_tYs, ap_sRaise, ap_eIsi, ap_eOwn, ap_eOwnIn, ap_eOwnNeg, ap_sTry, ap_eDisp, f1, f2, n1, n2, fA, nA, d1, d2, kI, kMul, kDiv, kMod, kModN, kPow, kNeg, kB, kEq, scV, scal_int, dci, kIs, kIsNot, MM.isNon, kTru, P.frz, P.vw, P.fz, frzs, vws, outV, outI, outK, asL, asT, kLen, kAbs, kInt, kMax2, kMin2, kList, kTuple, kFld, kIx, MM.putAt, kIsi, tagOf, noE, ownF, inF, rgOk, wipeE, restE, frOnly, ev_ok, ev_bnd, ↓bnd_of, bnd_ok, bnd_err, bnd_stuck, ev_ofO, evo_some, endsI, ends, finI, finV, ofO_some, ofO_none, flt_true, inx n hn]
      · simp [ap_bin2, ap_un1, ap_eVar, ap_eC, ap_eAdd, ap_eSub, ap_eMul, ap_eDiv, ap_eMod, ap_eModN, ap_ePow, ap_eNeg, ap_tst, ap_eLt, ap_eLe, ap_eGt, ap_eGe, ap_eEq, ap_eNe, ap_eIs, ap_eIsNot, ap_tAn, ap_tO, ap_tNo, ap_eAn, ap_eO, ap_eNo, ap_eIf, ap_tTr, ap_eOT, ap_asg, ap_sNx, ap_sAsg, ap_sDrop, ap_sRet, ap_sRetN, ap_sIf, ap_bTup, ap_bLst, ap_aNil, ap_aCons, ap_eCall, ap_eCallI, ap_eMeth, ap_eMethI, ap_eMake, ap_eFnA, ap_eFld, ap_sFldM, ap_sFldA, ap_eIx, ap_eDGet, ap_eDIn, ap_eDNotIn, ap_eDGet2, ap_sAug, ap_sPar, ap_sPar3, ap_sPut, ap_eApp, ap_ePop, ap_eTup, ap_eLst, ap_eDNK, ap_eDNT, ap_eCatS, ap_eCatL, ap_eCatT, ap_eRepL, ap_eIn, ap_eNotIn, ap_eInS, ap_eNotInS, ap_eEqD, ap_eNeD, ap_oNo, ap_oAt, ap_eSl, ap_eRev, ap_iL, ap_iT, ap_iR1, ap_iR2, ap_iR3, ap_iEn, ap_iZp, ap_iS, ap_tYs, ap_sRaise, ap_eIsi, ap_eOwn, ap_eOwnIn, ap_eOwnNeg, ap_sTry, ap_eDisp, f1, f2, n1, n2, fA, nA, d1, d2, kI, kMul, kDiv, kMod, kModN, kPow, kNeg, kB, kEq, scV, scal_int, dci, kIs, kIsNot, MM.isNon, kTru, P.frz, P.vw, P.fz, frzs, vws, outV, outI, outK, asL, asT, kLen, kAbs, kInt, kMax2, kMin2, kList, kTuple, kFld, kIx, MM.putAt, kIsi, tagOf, noE, ownF, inF, rgOk, wipeE, restE, frOnly, ev_ok, ev_bnd, ↓bnd_of, bnd_ok, bnd_err, bnd_stuck, ev_ofO, evo_some, endsI, ends, finI, finV, ofO_some, ofO_none, flt_true]
        rfl
    rintro _ rfl
    refine ev_seq (fun e => e = [.fr (.scr ns), .ow d2', .fr (.lst (xs.map .int)), .fr (.lst (ys.map .int)), .fr (mod xs), .fr (mod ys), .fr (mod (gcds xs ys)), .fr (mod (tops xs ++ tops ys)), .ow (.lst ((here xs).map .int)), .no, .ow (.lst ((here ys).map .int)), .no, .no, .no, .no, .no, .no]) ?_ ?_
    · simp [ap_bin2, ap_un1, ap_eVar, ap_eC, ap_eAdd, ap_eSub, ap_eMul, ap_eDiv, ap_eMod, ap_eModN, ap_ePow, ap_eNeg, ap_tst, ap_eLt, ap_eLe, ap_eGt, ap_eGe, ap_eEq, ap_eNe, ap_eIs, ap_eIsNot, ap_tAn, ap_tO, ap_tNo, ap_eAn, ap_eO, ap_eNo, ap_eIf, ap_tTr, ap_eOT, ap_asg, ap_sNx, ap_sAsg, ap_sDrop, ap_sRet, ap_sRetN, ap_sIf, ap_bTup, ap_bLst, ap_aNil, ap_aCons, ap_eCall, ap_eCallI, ap_eMeth, ap_eMethI, ap_eMake, ap_eFnA, ap_eFld, ap_sFldM, ap_sFldA, ap_eIx, ap_eDGet, ap_eDIn, ap_eDNotIn, ap_eDGet2, ap_sAug, ap_sPar, ap_sPar3, ap_sPut, ap_eApp, ap_ePop, ap_eTup, ap_eLst, ap_eDNK, ap_eDNT, ap_eCatS, ap_eCatL, ap_eCatT, ap_eRepL, ap_eIn, ap_eNotIn, ap_eInS, ap_eNotInS, ap_eEqD, ap_eNeD, ap_oNo, ap_oAt, ap_eSl, ap_eRev, ap_iL, ap_iT, ap_iR1, ap_iR2, ap_iR3, ap_iEn, ap_iZp, ap_iS, ap_tYs, ap_sRaise, ap_eIsi, ap_eOwn, ap_eOwnIn, ap_eOwnNeg, ap_sTry, ap_eDisp, f1, f2, n1, n2, fA, nA, d1, d2, kI, kMul, kDiv, kMod, kModN, kPow, kNeg, kB, kEq, scV, scal_int, dci, kIs, kIsNot, MM.isNon, kTru, P.frz, P.vw, P.fz, frzs, vws, outV, outI, outK, asL, asT, kLen, kAbs, kInt, kMax2, kMin2, kList, kTuple, kFld, kIx, MM.putAt, kIsi, tagOf, noE, ownF, inF, rgOk, wipeE, restE, frOnly, ev_ok, ev_bnd, ↓bnd_of, bnd_ok, bnd_err, bnd_stuck, ev_ofO, evo_some, endsI, ends, finI, finV, ofO_some, ofO_none, flt_true]
      refine ev_lcI rg (InL ys) .int (e1 := [.fr (.scr ns), .ow d2', .fr (.lst (xs.map .int)), .fr (.lst (ys.map .int)), .fr (mod xs), .fr (mod ys), .fr (mod (gcds xs ys)), .fr (mod (tops xs ++ tops ys)), .ow (.lst ((here xs).map .int)), .no, .no, .no, .no, .no, .no, .no, .no]) (by simp [ap_bin2, ap_un1, ap_eVar, ap_eC, ap_eAdd, ap_eSub, ap_eMul, ap_eDiv, ap_eMod, ap_eModN, ap_ePow, ap_eNeg, ap_tst, ap_eLt, ap_eLe, ap_eGt, ap_eGe, ap_eEq, ap_eNe, ap_eIs, ap_eIsNot, ap_tAn, ap_tO, ap_tNo, ap_eAn, ap_eO, ap_eNo, ap_eIf, ap_tTr, ap_eOT, ap_asg, ap_sNx, ap_sAsg, ap_sDrop, ap_sRet, ap_sRetN, ap_sIf, ap_bTup, ap_bLst, ap_aNil, ap_aCons, ap_eCall, ap_eCallI, ap_eMeth, ap_eMethI, ap_eMake, ap_eFnA, ap_eFld, ap_sFldM, ap_sFldA, ap_eIx, ap_eDGet, ap_eDIn, ap_eDNotIn, ap_eDGet2, ap_sAug, ap_sPar, ap_sPar3, ap_sPut, ap_eApp, ap_ePop, ap_eTup, ap_eLst, ap_eDNK, ap_eDNT, ap_eCatS, ap_eCatL, ap_eCatT, ap_eRepL, ap_eIn, ap_eNotIn, ap_eInS, ap_eNotInS, ap_eEqD, ap_eNeD, ap_oNo, ap_oAt, ap_eSl, ap_eRev, ap_iL, ap_iT, ap_iR1, ap_iR2, ap_iR3, ap_iEn, ap_iZp, ap_iS, ap_tYs, ap_sRaise, ap_eIsi, ap_eOwn, ap_eOwnIn, ap_eOwnNeg, ap_sTry, ap_eDisp, f1, f2, n1, n2, fA, nA, d1, d2, kI, kMul, kDiv, kMod, kModN, kPow, kNeg, kB, kEq, scV, scal_int, dci, kIs, kIsNot, MM.isNon, kTru, P.frz, P.vw, P.fz, frzs, vws, outV, outI, outK, asL, asT, kLen, kAbs, kInt, kMax2, kMin2, kList, kTuple, kFld, kIx, MM.putAt, kIsi, tagOf, noE, ownF, inF, rgOk, wipeE, restE, frOnly, ev_ok, ev_bnd, ↓bnd_of, bnd_ok, bnd_err, bnd_stuck, ev_ofO, evo_some, endsI, ends, finI, finV, ofO_some, ofO_none, flt_true, rgL_rg]) (by omega) (fun n hn => ?_) ?_
      · simp [ap_bin2, ap_un1, ap_eVar, ap_eC, ap_eAdd, ap_eSub, ap_eMul, ap_eDiv, ap_eMod, ap_eModN, ap_ePow, ap_eNeg, ap_tst, ap_eLt, ap_eLe, ap_eGt, ap_eGe, ap_eEq, ap_eNe, ap_eIs, ap_eIsNot, ap_tAn, ap_tO, ap_tNo, ap_eAn, ap_eO, ap_eNo, ap_eIf, ap_tTr, ap_eOT, ap_asg, ap_sNx, ap_sAsg, ap_sDrop, ap_sRet, ap_sRetN, ap_sIf, ap_bTup, ap_bLst, ap_aNil, ap_aCons, ap_eCall, ap_eCallI, ap_eMeth, ap_eMethI, ap_eMake, ap_eFnA, ap_eFld, ap_sFldM, ap_sFldA, ap_eIx, ap_eDGet, ap_eDIn, ap_eDNotIn, ap_eDGet2, ap_sAug, ap_sPar, ap_sPar3, ap_sPut, ap_eApp, ap_ePop, ap_eTup, ap_eLst, ap_eDNK, ap_eDNT, ap_eCatS, ap_eCatL, ap_eCatT, ap_eRepL, ap_eIn, ap_eNotIn, ap_eInS, ap_eNotInS, ap_eEqD, ap_eNeD, ap_oNo, ap_oAt, ap_eSl, ap_eRev, ap_iL, ap_iT, ap_iR1, ap_iR2, ap_iR3, ap_iEn, ap_iZp, ap_iS, ap_tYs, ap_sRaise, ap_eIsi, ap_eOwn, ap_eOwnIn, ap_eOwnNeg, ap_sTry, ap_eDisp, f1, f2, n1, n2, fA, nA, d1, d2, kI, kMul, kDiv, kMod, kModN, kPow, kNeg, kB, kEq, scV, scal_int, dci, kIs, kIsNot, MM.isNon, kTru, P.frz, P.vw, P.fz, frzs, vws, outV, outI, outK, asL, asT, kLen, kAbs, kInt, kMax2, kMin2, kList, kTuple, kFld, kIx, MM.putAt, kIsi, tagOf, noE, ownF, inF, rgOk, wipeE, restE, frOnly, ev_ok, ev_bnd, ↓bnd_of, bnd_ok, bnd_err, bnd_stuck, ev_ofO, evo_some, endsI, ends, finI, finV, ofO_some, ofO_none, flt_true, iny n hn]
      · simp [ap_bin2, ap_un1, ap_eVar, ap_eC, ap_eAdd, ap_eSub, ap_eMul, ap_eDiv, ap_eMod, ap_eModN, ap_ePow, ap_eNeg, ap_tst, ap_eLt, ap_eLe, ap_eGt, ap_eGe, ap_eEq, ap_eNe, ap_eIs, ap_eIsNot, ap_tAn, ap_tO, ap_tNo, ap_eAn, ap_eO, ap_eNo, ap_eIf, ap_tTr, ap_eOT, ap_asg, ap_sNx, ap_sAsg, ap_sDrop, ap_sRet, ap_sRetN, ap_sIf, ap_bTup, ap_bLst, ap_aNil, ap_aCons, ap_eCall, ap_eCallI, ap_eMeth, ap_eMethI, ap_eMake, ap_eFnA, ap_eFld, ap_sFldM, ap_sFldA, ap_eIx, ap_eDGet, ap_eDIn, ap_eDNotIn, ap_eDGet2, ap_sAug, ap_sPar, ap_sPar3, ap_sPut, ap_eApp, ap_ePop, ap_eTup, ap_eLst, ap_eDNK, ap_eDNT, ap_eCatS, ap_eCatL, ap_eCatT, ap_eRepL, ap_eIn, ap_eNotIn, ap_eInS, ap_eNotInS, ap_eEqD, ap_eNeD, ap_oNo, ap_oAt, ap_eSl, ap_eRev, ap_iL, ap_iT, ap_iR1, ap_iR2, ap_iR3, ap_iEn, ap_iZp, ap_iS, ap_tYs, ap_sRaise, ap_eIsi, ap_eOwn, ap_eOwnIn, ap_eOwnNeg, ap_sTry, ap_eDisp, f1, f2, n1, n2, fA, nA, d1, d2, kI, kMul, kDiv, kMod, kModN, kPow, kNeg, kB, kEq, scV, scal_int, dci, kIs, kIsNot, MM.isNon, kTru, P.frz, P.vw, P.fz, frzs, vws, outV, outI, outK, asL, asT, kLen, kAbs, kInt, kMax2, kMin2, kList, kTuple, kFld, kIx, MM.putAt, kIsi, tagOf, noE, ownF, inF, rgOk, wipeE, restE, frOnly, ev_ok, ev_bnd, ↓bnd_of, bnd_ok, bnd_err, bnd_stuck, ev_ofO, evo_some, endsI, ends, finI, finV, ofO_some, ofO_none, flt_true]
        rfl
    rintro _ rfl
    have NG : Nn (gcds xs ys) := ⟨gcds_nn xs ys, by
      have h1 := @tops_len xs
      have h2 := @tops_len ys
      have : (gcds xs ys).length = (tops xs).length * (tops ys).length := fm_len _ _ _
      rw [this]
      have := Nat.mul_le_mul (Nat.le_trans h1 lx) (Nat.le_trans h2 ly)
      omega⟩
    have NO : Nn (tops xs ++ tops ys) := ⟨fun z hz => by
      rcases List.mem_append.mp hz with q | q
      · exact sx.nn z (tops_mem.mp q).1
      · exact sy.nn z (tops_mem.mp q).1, by have h1 := @tops_len xs; have h2 := @tops_len ys; simp; omega⟩
    refine ev_seq (fun e => ∃ o9 o11, e = [.fr (.scr ns), .ow d2', .fr (.lst (xs.map .int)), .fr (.lst (ys.map .int)), .fr (mod xs), .fr (mod ys), .fr (mod (gcds xs ys)), .fr (mod (tops xs ++ tops ys)), .ow (.lst ((here xs).map .int)), o9, .ow (.lst ((here ys).map .int)), o11, .no, .no, .no, .no, .no]) ?_ ?_
    · rw [ap_sFor]
      simp [ap_bin2, ap_un1, ap_eVar, ap_eC, ap_eAdd, ap_eSub, ap_eMul, ap_eDiv, ap_eMod, ap_eModN, ap_ePow, ap_eNeg, ap_tst, ap_eLt, ap_eLe, ap_eGt, ap_eGe, ap_eEq, ap_eNe, ap_eIs, ap_eIsNot, ap_tAn, ap_tO, ap_tNo, ap_eAn, ap_eO, ap_eNo, ap_eIf, ap_tTr, ap_eOT, ap_asg, ap_sNx, ap_sAsg, ap_sDrop, ap_sRet, ap_sRetN, ap_sIf, ap_bTup, ap_bLst, ap_aNil, ap_aCons, ap_eCall, ap_eCallI, ap_eMeth, ap_eMethI, ap_eMake, ap_eFnA, ap_eFld, ap_sFldM, ap_sFldA, ap_eIx, ap_eDGet, ap_eDIn, ap_eDNotIn, ap_eDGet2, ap_sAug, ap_sPar, ap_sPar3, ap_sPut, ap_eApp, ap_ePop, ap_eTup, ap_eLst, ap_eDNK, ap_eDNT, ap_eCatS, ap_eCatL, ap_eCatT, ap_eRepL, ap_eIn, ap_eNotIn, ap_eInS, ap_eNotInS, ap_eEqD, ap_eNeD, ap_oNo, ap_oAt, ap_eSl, ap_eRev, ap_iL, ap_iT, ap_iR1, ap_iR2, ap_iR3, ap_iEn, ap_iZp, ap_iS, ap_tYs, ap_sRaise, ap_eIsi, ap_eOwn, ap_eOwnIn, ap_eOwnNeg, ap_sTry, ap_eDisp, f1, f2, n1, n2, fA, nA, d1, d2, kI, kMul, kDiv, kMod, kModN, kPow, kNeg, kB, kEq, scV, scal_int, dci, kIs, kIsNot, MM.isNon, kTru, P.frz, P.vw, P.fz, frzs, vws, outV, outI, outK, asL, asT, kLen, kAbs, kInt, kMax2, kMin2, kList, kTuple, kFld, kIx, MM.putAt, kIsi, tagOf, noE, ownF, inF, rgOk, wipeE, restE, frOnly, ev_ok, ev_bnd, ↓bnd_of, bnd_ok, bnd_err, bnd_stuck, ev_ofO, evo_some, endsI, ends, finI, finV, ofO_some, ofO_none, flt_true, rgL_rg]
      refine Ev.mono (forD_inv (T := rg.map .int) (fun _ e => ∃ o9 o11, e = [.fr (.scr ns), .ow d2', .fr (.lst (xs.map .int)), .fr (.lst (ys.map .int)), .fr (mod xs), .fr (mod ys), .fr (mod (gcds xs ys)), .fr (mod (tops xs ++ tops ys)), .ow (.lst ((here xs).map .int)), o9, .ow (.lst ((here ys).map .int)), o11, .no, .no, .no, .no, .no]) _ [] _ rfl ⟨_, _, rfl⟩ ?_) ?_
      · rintro dn d rest w _ ⟨o9, o11, rfl⟩ hd
        obtain ⟨n, hn, rfl⟩ := List.mem_map.mp hd
        have h1 := rg_mem.mp hn
        have c1 : r_Moduli__contains_ 300 [mod xs, .int n] = .ok (.d (.bl (InL xs n)), .non) := by
          rw [R_contains_int Nx, show (tops xs).any (dv n) = Tn xs n from rfl, Tn_eq sx.nn]
          simp [h1.1]
        have c2 : r_Moduli__contains_ 300 [mod (gcds xs ys), .int n] = .ok (.d (.bl (InL xs n && InL ys n)), .non) := by
          rw [R_contains_int NG, show (tops (gcds xs ys)).any (dv n) = Tn (gcds xs ys) n from rfl, Tn_and sx.nn sy.nn]
          simp [h1.1]
        have c3 : r_Moduli__contains_ 300 [mod (tops xs ++ tops ys), .int n] = .ok (.d (.bl (InL xs n || InL ys n)), .non) := by
          rw [R_contains_int NO, show (tops (tops xs ++ tops ys)).any (dv n) = Tn (tops xs ++ tops ys) n from rfl, Tn_or sx.nn sy.nn]
          simp [h1.1]
        have k1 : kIn (.int n) (.lst ((here xs).map .int)) = some (.bl (InL xs n)) := by
          rw [kIn_lst]
          cases e : InL xs n <;> simp [here_mem, h1, e]
        have k2 : kIn (.int n) (.lst ((here ys).map .int)) = some (.bl (InL ys n)) := by
          rw [kIn_lst]
          cases e : InL ys n <;> simp [here_mem, h1, e]
        generalize InL xs n = p at c1 c2 c3 k1
        generalize InL ys n = q at c2 c3 k2
        cases p <;> cases q <;> simp [ap_bin2, ap_un1, ap_eVar, ap_eC, ap_eAdd, ap_eSub, ap_eMul, ap_eDiv, ap_eMod, ap_eModN, ap_ePow, ap_eNeg, ap_tst, ap_eLt, ap_eLe, ap_eGt, ap_eGe, ap_eEq, ap_eNe, ap_eIs, ap_eIsNot, ap_tAn, ap_tO, ap_tNo, ap_eAn, ap_eO, ap_eNo, ap_eIf, ap_tTr, ap_eOT, ap_asg, ap_sNx, ap_sAsg, ap_sDrop, ap_sRet, ap_sRetN, ap_sIf, ap_bTup, ap_bLst, ap_aNil, ap_aCons, ap_eCall, ap_eCallI, ap_eMeth, ap_eMethI, ap_eMake, ap_eFnA, ap_eFld, ap_sFldM, ap_sFldA, ap_eIx, ap_eDGet, ap_eDIn, ap_eDNotIn, ap_eDGet2, ap_sAug, ap_sPar, ap_sPar3, ap_sPut, ap_eApp, ap_ePop, ap_eTup, ap_eLst, ap_eDNK, ap_eDNT, ap_eCatS, ap_eCatL, ap_eCatT, ap_eRepL, ap_eIn, ap_eNotIn, ap_eInS, ap_eNotInS, ap_eEqD, ap_eNeD, ap_oNo, ap_oAt, ap_eSl, ap_eRev, ap_iL, ap_iT, ap_iR1, ap_iR2, ap_iR3, ap_iEn, ap_iZp, ap_iS, ap_tYs, ap_sRaise, ap_eIsi, ap_eOwn, ap_eOwnIn, ap_eOwnNeg, ap_sTry, ap_eDisp, f1, f2, n1, n2, fA, nA, d1, d2, kI, kMul, kDiv, kMod, kModN, kPow, kNeg, kB, kEq, scV, scal_int, dci, kIs, kIsNot, MM.isNon, kTru, P.frz, P.vw, P.fz, frzs, vws, outV, outI, outK, asL, asT, kLen, kAbs, kInt, kMax2, kMin2, kList, kTuple, kFld, kIx, MM.putAt, kIsi, tagOf, noE, ownF, inF, rgOk, wipeE, restE, frOnly, ev_ok, ev_bnd, ↓bnd_of, bnd_ok, bnd_err, bnd_stuck, ev_ofO, evo_some, endsI, ends, finI, finV, ofO_some, ofO_none, flt_true, ap_sSeq, iso0, c1, c2, c3, k1, k2, R_like3]
      · rintro ⟨fl, e⟩ ⟨rfl, o9, o11, rfl⟩
        exact ⟨rfl, _, _, rfl⟩
    rintro _ ⟨o9, o11, rfl⟩
    have hlen : (here xs).length ≤ 16777216 := by
      have := List.length_filter_le (fun n => InL xs n) rg
      unfold here
      omega
    refine ev_seq (fun e => ∃ o9 o11, e = [.fr (.scr ns), .ow d2', .fr (.lst (xs.map .int)), .fr (.lst (ys.map .int)), .fr (mod xs), .fr (mod ys), .fr (mod (gcds xs ys)), .fr (mod (tops xs ++ tops ys)), .fr (.lst ((here xs).map .int)), o9, .ow (.lst ((here ys).map .int)), o11, .no, .no, .no, .no, .no]) ?_ ?_
    · have hle := R_le (N := 300) Nx Ny
      rw [le_sub sx sy] at hle
      simp [ap_bin2, ap_un1, ap_eVar, ap_eC, ap_eAdd, ap_eSub, ap_eMul, ap_eDiv, ap_eMod, ap_eModN, ap_ePow, ap_eNeg, ap_tst, ap_eLt, ap_eLe, ap_eGt, ap_eGe, ap_eEq, ap_eNe, ap_eIs, ap_eIsNot, ap_tAn, ap_tO, ap_tNo, ap_eAn, ap_eO, ap_eNo, ap_eIf, ap_tTr, ap_eOT, ap_asg, ap_sNx, ap_sAsg, ap_sDrop, ap_sRet, ap_sRetN, ap_sIf, ap_bTup, ap_bLst, ap_aNil, ap_aCons, ap_eCall, ap_eCallI, ap_eMeth, ap_eMethI, ap_eMake, ap_eFnA, ap_eFld, ap_sFldM, ap_sFldA, ap_eIx, ap_eDGet, ap_eDIn, ap_eDNotIn, ap_eDGet2, ap_sAug, ap_sPar, ap_sPar3, ap_sPut, ap_eApp, ap_ePop, ap_eTup, ap_eLst, ap_eDNK, ap_eDNT, ap_eCatS, ap_eCatL, ap_eCatT, ap_eRepL, ap_eIn, ap_eNotIn, ap_eInS, ap_eNotInS, ap_eEqD, ap_eNeD, ap_oNo, ap_oAt, ap_eSl, ap_eRev, ap_iL, ap_iT, ap_iR1, ap_iR2, ap_iR3, ap_iEn, ap_iZp, ap_iS, ap_tYs, ap_sRaise, ap_eIsi, ap_eOwn, ap_eOwnIn, ap_eOwnNeg, ap_sTry, ap_eDisp, f1, f2, n1, n2, fA, nA, d1, d2, kI, kMul, kDiv, kMod, kModN, kPow, kNeg, kB, kEq, scV, scal_int, dci, kIs, kIsNot, MM.isNon, kTru, P.frz, P.vw, P.fz, frzs, vws, outV, outI, outK, asL, asT, kLen, kAbs, kInt, kMax2, kMin2, kList, kTuple, kFld, kIx, MM.putAt, kIsi, tagOf, noE, ownF, inF, rgOk, wipeE, restE, frOnly, ev_ok, ev_bnd, ↓bnd_of, bnd_ok, bnd_err, bnd_stuck, ev_ofO, evo_some, endsI, ends, finI, finV, ofO_some, ofO_none, flt_true, both_mod, hle]
      refine ev_lcI (here xs) (fun n => !decide (n ∈ here ys)) .int (e1 := [.fr (.scr ns), .ow d2', .fr (.lst (xs.map .int)), .fr (.lst (ys.map .int)), .fr (mod xs), .fr (mod ys), .fr (mod (gcds xs ys)), .fr (mod (tops xs ++ tops ys)), .fr (.lst ((here xs).map .int)), o9, .ow (.lst ((here ys).map .int)), o11, .no, .no, .no, .no, .no]) (by simp [ap_bin2, ap_un1, ap_eVar, ap_eC, ap_eAdd, ap_eSub, ap_eMul, ap_eDiv, ap_eMod, ap_eModN, ap_ePow, ap_eNeg, ap_tst, ap_eLt, ap_eLe, ap_eGt, ap_eGe, ap_eEq, ap_eNe, ap_eIs, ap_eIsNot, ap_tAn, ap_tO, ap_tNo, ap_eAn, ap_eO, ap_eNo, ap_eIf, ap_tTr, ap_eOT, ap_asg, ap_sNx, ap_sAsg, ap_sDrop, ap_sRet, ap_sRetN, ap_sIf, ap_bTup, ap_bLst, ap_aNil, ap_aCons, ap_eCall, ap_eCallI, ap_eMeth, ap_eMethI, ap_eMake, ap_eFnA, ap_eFld, ap_sFldM, ap_sFldA, ap_eIx, ap_eDGet, ap_eDIn, ap_eDNotIn, ap_eDGet2, ap_sAug, ap_sPar, ap_sPar3, ap_sPut, ap_eApp, ap_ePop, ap_eTup, ap_eLst, ap_eDNK, ap_eDNT, ap_eCatS, ap_eCatL, ap_eCatT, ap_eRepL, ap_eIn, ap_eNotIn, ap_eInS, ap_eNotInS, ap_eEqD, ap_eNeD, ap_oNo, ap_oAt, ap_eSl, ap_eRev, ap_iL, ap_iT, ap_iR1, ap_iR2, ap_iR3, ap_iEn, ap_iZp, ap_iS, ap_tYs, ap_sRaise, ap_eIsi, ap_eOwn, ap_eOwnIn, ap_eOwnNeg, ap_sTry, ap_eDisp, f1, f2, n1, n2, fA, nA, d1, d2, kI, kMul, kDiv, kMod, kModN, kPow, kNeg, kB, kEq, scV, scal_int, dci, kIs, kIsNot, MM.isNon, kTru, P.frz, P.vw, P.fz, frzs, vws, outV, outI, outK, asL, asT, kLen, kAbs, kInt, kMax2, kMin2, kList, kTuple, kFld, kIx, MM.putAt, kIsi, tagOf, noE, ownF, inF, rgOk, wipeE, restE, frOnly, ev_ok, ev_bnd, ↓bnd_of, bnd_ok, bnd_err, bnd_stuck, ev_ofO, evo_some, endsI, ends, finI, finV, ofO_some, ofO_none, flt_true]) hlen (fun n hn => ?_) ?_
      · simp [ap_bin2, ap_un1, ap_eVar, ap_eC, ap_eAdd, ap_eSub, ap_eMul, ap_eDiv, ap_eMod, ap_eModN, ap_ePow, ap_eNeg, ap_tst, ap_eLt, ap_eLe, ap_eGt, ap_eGe, ap_eEq, ap_eNe, ap_eIs, ap_eIsNot, ap_tAn, ap_tO, ap_tNo, ap_eAn, ap_eO, ap_eNo, ap_eIf, ap_tTr, ap_eOT, ap_asg, ap_sNx, ap_sAsg, ap_sDrop, ap_sRet, ap_sRetN, ap_sIf, ap_bTup, ap_bLst, ap_aNil, ap_aCons, ap_eCall, ap_eCallI, ap_eMeth, ap_eMethI, ap_eMake, ap_eFnA, ap_eFld, ap_sFldM, ap_sFldA, ap_eIx, ap_eDGet, ap_eDIn, ap_eDNotIn, ap_eDGet2, ap_sAug, ap_sPar, ap_sPar3, ap_sPut, ap_eApp, ap_ePop, ap_eTup, ap_eLst, ap_eDNK, ap_eDNT, ap_eCatS, ap_eCatL, ap_eCatT, ap_eRepL, ap_eIn, ap_eNotIn, ap_eInS, ap_eNotInS, ap_eEqD, ap_eNeD, ap_oNo, ap_oAt, ap_eSl, ap_eRev, ap_iL, ap_iT, ap_iR1, ap_iR2, ap_iR3, ap_iEn, ap_iZp, ap_iS, ap_tYs, ap_sRaise, ap_eIsi, ap_eOwn, ap_eOwnIn, ap_eOwnNeg, ap_sTry, ap_eDisp, f1, f2, n1, n2, fA, nA, d1, d2, kI, kMul, kDiv, kMod, kModN, kPow, kNeg, kB, kEq, scV, scal_int, dci, kIs, kIsNot, MM.isNon, kTru, P.frz, P.vw, P.fz, frzs, vws, outV, outI, outK, asL, asT, kLen, kAbs, kInt, kMax2, kMin2, kList, kTuple, kFld, kIx, MM.putAt, kIsi, tagOf, noE, ownF, inF, rgOk, wipeE, restE, frOnly, ev_ok, ev_bnd, ↓bnd_of, bnd_ok, bnd_err, bnd_stuck, ev_ofO, evo_some, endsI, ends, finI, finV, ofO_some, ofO_none, flt_true, kNotIn_lst]
      · simp [ap_bin2, ap_un1, ap_eVar, ap_eC, ap_eAdd, ap_eSub, ap_eMul, ap_eDiv, ap_eMod, ap_eModN, ap_ePow, ap_eNeg, ap_tst, ap_eLt, ap_eLe, ap_eGt, ap_eGe, ap_eEq, ap_eNe, ap_eIs, ap_eIsNot, ap_tAn, ap_tO, ap_tNo, ap_eAn, ap_eO, ap_eNo, ap_eIf, ap_tTr, ap_eOT, ap_asg, ap_sNx, ap_sAsg, ap_sDrop, ap_sRet, ap_sRetN, ap_sIf, ap_bTup, ap_bLst, ap_aNil, ap_aCons, ap_eCall, ap_eCallI, ap_eMeth, ap_eMethI, ap_eMake, ap_eFnA, ap_eFld, ap_sFldM, ap_sFldA, ap_eIx, ap_eDGet, ap_eDIn, ap_eDNotIn, ap_eDGet2, ap_sAug, ap_sPar, ap_sPar3, ap_sPut, ap_eApp, ap_ePop, ap_eTup, ap_eLst, ap_eDNK, ap_eDNT, ap_eCatS, ap_eCatL, ap_eCatT, ap_eRepL, ap_eIn, ap_eNotIn, ap_eInS, ap_eNotInS, ap_eEqD, ap_eNeD, ap_oNo, ap_oAt, ap_eSl, ap_eRev, ap_iL, ap_iT, ap_iR1, ap_iR2, ap_iR3, ap_iEn, ap_iZp, ap_iS, ap_tYs, ap_sRaise, ap_eIsi, ap_eOwn, ap_eOwnIn, ap_eOwnNeg, ap_sTry, ap_eDisp, f1, f2, n1, n2, fA, nA, d1, d2, kI, kMul, kDiv, kMod, kModN, kPow, kNeg, kB, kEq, scV, scal_int, dci, kIs, kIsNot, MM.isNon, kTru, P.frz, P.vw, P.fz, frzs, vws, outV, outI, outK, asL, asT, kLen, kAbs, kInt, kMax2, kMin2, kList, kTuple, kFld, kIx, MM.putAt, kIsi, tagOf, noE, ownF, inF, rgOk, wipeE, restE, frOnly, ev_ok, ev_bnd, ↓bnd_of, bnd_ok, bnd_err, bnd_stuck, ev_ofO, evo_some, endsI, ends, finI, finV, ofO_some, ofO_none, flt_true, kNe_bl]
    rintro _ ⟨o9, o11, rfl⟩
    refine ev_seq (fun e => ∃ o9 o11, e = [.fr (.scr ns), .ow d2', .fr (.lst (xs.map .int)), .fr (.lst (ys.map .int)), .fr (mod xs), .fr (mod ys), .fr (mod (gcds xs ys)), .fr (mod (tops xs ++ tops ys)), .fr (.lst ((here xs).map .int)), o9, .ow (.lst ((here ys).map .int)), o11, .no, .no, .no, .no, .no]) ?_ ?_
    · have heq := R_eq (N := 300) (xs := xs) (ys := ys)
      have eh : decide (tops xs = tops ys) = decide (here xs = here ys) := decide_eq_decide.mpr (eq_here sx sy)
      rw [eh] at heq
      have hke := kEqB_lst (here xs) (here ys)
      simp [ap_bin2, ap_un1, ap_eVar, ap_eC, ap_eAdd, ap_eSub, ap_eMul, ap_eDiv, ap_eMod, ap_eModN, ap_ePow, ap_eNeg, ap_tst, ap_eLt, ap_eLe, ap_eGt, ap_eGe, ap_eEq, ap_eNe, ap_eIs, ap_eIsNot, ap_tAn, ap_tO, ap_tNo, ap_eAn, ap_eO, ap_eNo, ap_eIf, ap_tTr, ap_eOT, ap_asg, ap_sNx, ap_sAsg, ap_sDrop, ap_sRet, ap_sRetN, ap_sIf, ap_bTup, ap_bLst, ap_aNil, ap_aCons, ap_eCall, ap_eCallI, ap_eMeth, ap_eMethI, ap_eMake, ap_eFnA, ap_eFld, ap_sFldM, ap_sFldA, ap_eIx, ap_eDGet, ap_eDIn, ap_eDNotIn, ap_eDGet2, ap_sAug, ap_sPar, ap_sPar3, ap_sPut, ap_eApp, ap_ePop, ap_eTup, ap_eLst, ap_eDNK, ap_eDNT, ap_eCatS, ap_eCatL, ap_eCatT, ap_eRepL, ap_eIn, ap_eNotIn, ap_eInS, ap_eNotInS, ap_eEqD, ap_eNeD, ap_oNo, ap_oAt, ap_eSl, ap_eRev, ap_iL, ap_iT, ap_iR1, ap_iR2, ap_iR3, ap_iEn, ap_iZp, ap_iS, ap_tYs, ap_sRaise, ap_eIsi, ap_eOwn, ap_eOwnIn, ap_eOwnNeg, ap_sTry, ap_eDisp, f1, f2, n1, n2, fA, nA, d1, d2, kI, kMul, kDiv, kMod, kModN, kPow, kNeg, kB, kEq, scV, scal_int, dci, kIs, kIsNot, MM.isNon, kTru, P.frz, P.vw, P.fz, frzs, vws, outV, outI, outK, asL, asT, kLen, kAbs, kInt, kMax2, kMin2, kList, kTuple, kFld, kIx, MM.putAt, kIsi, tagOf, noE, ownF, inF, rgOk, wipeE, restE, frOnly, ev_ok, ev_bnd, ↓bnd_of, bnd_ok, bnd_err, bnd_stuck, ev_ofO, evo_some, endsI, ends, finI, finV, ofO_some, ofO_none, flt_true, both_mod, heq, kEqD, hke, kNe_bl]
      refine ev_lcP [.int 0, .int (-1), .bl true, .non, .str "1"] (fun _ => false) (fun d => d) (e1 := [.fr (.scr ns), .ow d2', .fr (.lst (xs.map .int)), .fr (.lst (ys.map .int)), .fr (mod xs), .fr (mod ys), .fr (mod (gcds xs ys)), .fr (mod (tops xs ++ tops ys)), .fr (.lst ((here xs).map .int)), o9, .ow (.lst ((here ys).map .int)), o11, .no, .no, .no, .no, .no]) (by simp [ap_bin2, ap_un1, ap_eVar, ap_eC, ap_eAdd, ap_eSub, ap_eMul, ap_eDiv, ap_eMod, ap_eModN, ap_ePow, ap_eNeg, ap_tst, ap_eLt, ap_eLe, ap_eGt, ap_eGe, ap_eEq, ap_eNe, ap_eIs, ap_eIsNot, ap_tAn, ap_tO, ap_tNo, ap_eAn, ap_eO, ap_eNo, ap_eIf, ap_tTr, ap_eOT, ap_asg, ap_sNx, ap_sAsg, ap_sDrop, ap_sRet, ap_sRetN, ap_sIf, ap_bTup, ap_bLst, ap_aNil, ap_aCons, ap_eCall, ap_eCallI, ap_eMeth, ap_eMethI, ap_eMake, ap_eFnA, ap_eFld, ap_sFldM, ap_sFldA, ap_eIx, ap_eDGet, ap_eDIn, ap_eDNotIn, ap_eDGet2, ap_sAug, ap_sPar, ap_sPar3, ap_sPut, ap_eApp, ap_ePop, ap_eTup, ap_eLst, ap_eDNK, ap_eDNT, ap_eCatS, ap_eCatL, ap_eCatT, ap_eRepL, ap_eIn, ap_eNotIn, ap_eInS, ap_eNotInS, ap_eEqD, ap_eNeD, ap_oNo, ap_oAt, ap_eSl, ap_eRev, ap_iL, ap_iT, ap_iR1, ap_iR2, ap_iR3, ap_iEn, ap_iZp, ap_iS, ap_tYs, ap_sRaise, ap_eIsi, ap_eOwn, ap_eOwnIn, ap_eOwnNeg, ap_sTry, ap_eDisp, f1, f2, n1, n2, fA, nA, d1, d2, kI, kMul, kDiv, kMod, kModN, kPow, kNeg, kB, kEq, scV, scal_int, dci, kIs, kIsNot, MM.isNon, kTru, P.frz, P.vw, P.fz, frzs, vws, outV, outI, outK, asL, asT, kLen, kAbs, kInt, kMax2, kMin2, kList, kTuple, kFld, kIx, MM.putAt, kIsi, tagOf, noE, ownF, inF, rgOk, wipeE, restE, frOnly, ev_ok, ev_bnd, ↓bnd_of, bnd_ok, bnd_err, bnd_stuck, ev_ofO, evo_some, endsI, ends, finI, finV, ofO_some, ofO_none, flt_true]) (by simp) (fun d hd => ?_) ?_
      · have hc : r_Moduli__contains_ 300 [mod xs, d] = .ok (.d (.bl false), .non) := by
          simp only [List.mem_cons, List.mem_nil_iff, or_false] at hd
          rcases hd with rfl | rfl | rfl | rfl | rfl
          · rw [R_contains_int Nx]; rfl
          · rw [R_contains_int Nx]; rfl
          · exact R_contains_odd _ (by simp)
          · exact R_contains_odd _ (by simp)
          · exact R_contains_odd _ (by simp)
        simp [ap_bin2, ap_un1, ap_eVar, ap_eC, ap_eAdd, ap_eSub, ap_eMul, ap_eDiv, ap_eMod, ap_eModN, ap_ePow, ap_eNeg, ap_tst, ap_eLt, ap_eLe, ap_eGt, ap_eGe, ap_eEq, ap_eNe, ap_eIs, ap_eIsNot, ap_tAn, ap_tO, ap_tNo, ap_eAn, ap_eO, ap_eNo, ap_eIf, ap_tTr, ap_eOT, ap_asg, ap_sNx, ap_sAsg, ap_sDrop, ap_sRet, ap_sRetN, ap_sIf, ap_bTup, ap_bLst, ap_aNil, ap_aCons, ap_eCall, ap_eCallI, ap_eMeth, ap_eMethI, ap_eMake, ap_eFnA, ap_eFld, ap_sFldM, ap_sFldA, ap_eIx, ap_eDGet, ap_eDIn, ap_eDNotIn, ap_eDGet2, ap_sAug, ap_sPar, ap_sPar3, ap_sPut, ap_eApp, ap_ePop, ap_eTup, ap_eLst, ap_eDNK, ap_eDNT, ap_eCatS, ap_eCatL, ap_eCatT, ap_eRepL, ap_eIn, ap_eNotIn, ap_eInS, ap_eNotInS, ap_eEqD, ap_eNeD, ap_oNo, ap_oAt, ap_eSl, ap_eRev, ap_iL, ap_iT, ap_iR1, ap_iR2, ap_iR3, ap_iEn, ap_iZp, ap_iS, ap_tYs, ap_sRaise, ap_eIsi, ap_eOwn, ap_eOwnIn, ap_eOwnNeg, ap_sTry, ap_eDisp, f1, f2, n1, n2, fA, nA, d1, d2, kI, kMul, kDiv, kMod, kModN, kPow, kNeg, kB, kEq, scV, scal_int, dci, kIs, kIsNot, MM.isNon, kTru, P.frz, P.vw, P.fz, frzs, vws, outV, outI, outK, asL, asT, kLen, kAbs, kInt, kMax2, kMin2, kList, kTuple, kFld, kIx, MM.putAt, kIsi, tagOf, noE, ownF, inF, rgOk, wipeE, restE, frOnly, ev_ok, ev_bnd, ↓bnd_of, bnd_ok, bnd_err, bnd_stuck, ev_ofO, evo_some, endsI, ends, finI, finV, ofO_some, ofO_none, flt_true, iso0, hc]
      · simp [ap_bin2, ap_un1, ap_eVar, ap_eC, ap_eAdd, ap_eSub, ap_eMul, ap_eDiv, ap_eMod, ap_eModN, ap_ePow, ap_eNeg, ap_tst, ap_eLt, ap_eLe, ap_eGt, ap_eGe, ap_eEq, ap_eNe, ap_eIs, ap_eIsNot, ap_tAn, ap_tO, ap_tNo, ap_eAn, ap_eO, ap_eNo, ap_eIf, ap_tTr, ap_eOT, ap_asg, ap_sNx, ap_sAsg, ap_sDrop, ap_sRet, ap_sRetN, ap_sIf, ap_bTup, ap_bLst, ap_aNil, ap_aCons, ap_eCall, ap_eCallI, ap_eMeth, ap_eMethI, ap_eMake, ap_eFnA, ap_eFld, ap_sFldM, ap_sFldA, ap_eIx, ap_eDGet, ap_eDIn, ap_eDNotIn, ap_eDGet2, ap_sAug, ap_sPar, ap_sPar3, ap_sPut, ap_eApp, ap_ePop, ap_eTup, ap_eLst, ap_eDNK, ap_eDNT, ap_eCatS, ap_eCatL, ap_eCatT, ap_eRepL, ap_eIn, ap_eNotIn, ap_eInS, ap_eNotInS, ap_eEqD, ap_eNeD, ap_oNo, ap_oAt, ap_eSl, ap_eRev, ap_iL, ap_iT, ap_iR1, ap_iR2, ap_iR3, ap_iEn, ap_iZp, ap_iS, ap_tYs, ap_sRaise, ap_eIsi, ap_eOwn, ap_eOwnIn, ap_eOwnNeg, ap_sTry, ap_eDisp, f1, f2, n1, n2, fA, nA, d1, d2, kI, kMul, kDiv, kMod, kModN, kPow, kNeg, kB, kEq, scV, scal_int, dci, kIs, kIsNot, MM.isNon, kTru, P.frz, P.vw, P.fz, frzs, vws, outV, outI, outK, asL, asT, kLen, kAbs, kInt, kMax2, kMin2, kList, kTuple, kFld, kIx, MM.putAt, kIsi, tagOf, noE, ownF, inF, rgOk, wipeE, restE, frOnly, ev_ok, ev_bnd, ↓bnd_of, bnd_ok, bnd_err, bnd_stuck, ev_ofO, evo_some, endsI, ends, finI, finV, ofO_some, ofO_none, flt_true]
    rintro _ ⟨o9, o11, rfl⟩
    refine ev_seq (fun e => ∃ o9 o11, e = [.fr (.scr ns), .ow d2', .fr (.lst (xs.map .int)), .fr (.lst (ys.map .int)), .fr (mod xs), .fr (mod ys), .fr (mod (gcds xs ys)), .fr (mod (tops xs ++ tops ys)), .fr (.lst ((here xs).map .int)), o9, .ow (.lst ((here ys).map .int)), o11, .fr (.tup ((tops xs).map .int)), .no, .no, .no, .no]) (by simp [ap_bin2, ap_un1, ap_eVar, ap_eC, ap_eAdd, ap_eSub, ap_eMul, ap_eDiv, ap_eMod, ap_eModN, ap_ePow, ap_eNeg, ap_tst, ap_eLt, ap_eLe, ap_eGt, ap_eGe, ap_eEq, ap_eNe, ap_eIs, ap_eIsNot, ap_tAn, ap_tO, ap_tNo, ap_eAn, ap_eO, ap_eNo, ap_eIf, ap_tTr, ap_eOT, ap_asg, ap_sNx, ap_sAsg, ap_sDrop, ap_sRet, ap_sRetN, ap_sIf, ap_bTup, ap_bLst, ap_aNil, ap_aCons, ap_eCall, ap_eCallI, ap_eMeth, ap_eMethI, ap_eMake, ap_eFnA, ap_eFld, ap_sFldM, ap_sFldA, ap_eIx, ap_eDGet, ap_eDIn, ap_eDNotIn, ap_eDGet2, ap_sAug, ap_sPar, ap_sPar3, ap_sPut, ap_eApp, ap_ePop, ap_eTup, ap_eLst, ap_eDNK, ap_eDNT, ap_eCatS, ap_eCatL, ap_eCatT, ap_eRepL, ap_eIn, ap_eNotIn, ap_eInS, ap_eNotInS, ap_eEqD, ap_eNeD, ap_oNo, ap_oAt, ap_eSl, ap_eRev, ap_iL, ap_iT, ap_iR1, ap_iR2, ap_iR3, ap_iEn, ap_iZp, ap_iS, ap_tYs, ap_sRaise, ap_eIsi, ap_eOwn, ap_eOwnIn, ap_eOwnNeg, ap_sTry, ap_eDisp, f1, f2, n1, n2, fA, nA, d1, d2, kI, kMul, kDiv, kMod, kModN, kPow, kNeg, kB, kEq, scV, scal_int, dci, kIs, kIsNot, MM.isNon, kTru, P.frz, P.vw, P.fz, frzs, vws, outV, outI, outK, asL, asT, kLen, kAbs, kInt, kMax2, kMin2, kList, kTuple, kFld, kIx, MM.putAt, kIsi, tagOf, noE, ownF, inF, rgOk, wipeE, restE, frOnly, ev_ok, ev_bnd, ↓bnd_of, bnd_ok, bnd_err, bnd_stuck, ev_ofO, evo_some, endsI, ends, finI, finV, ofO_some, ofO_none, flt_true, isoT, R_tops]) ?_
    rintro _ ⟨o9, o11, rfl⟩
    refine ev_seq (fun e => ∃ o9 o11, e = [.fr (.scr ns), .ow d2', .fr (.lst (xs.map .int)), .fr (.lst (ys.map .int)), .fr (mod xs), .fr (mod ys), .fr (mod (gcds xs ys)), .fr (mod (tops xs ++ tops ys)), .fr (.lst ((here xs).map .int)), o9, .ow (.lst ((here ys).map .int)), o11, .fr (.tup ((tops xs).map .int)), .no, .no, .no, .no]) ?_ ?_
    · have NT : Nn (tops xs) := ⟨fun x hx => sx.nn x (tops_mem.mp hx).1, by have := @tops_len xs; omega⟩
      have t1 : kSortedT (.tup ((tops xs).map .int)) = some (.lst ((tops xs).map .int)) := by
        simp only [kSortedT, intL_map, Option.bind_some, isort_id _ (tops_lt xs)]
      have t2 := kEqB_lst (tops xs) (tops xs)
      have t3 := R_init (N := 300) NT
      have t4 := R_eq (N := 300) (xs := tops xs) (ys := xs)
      rw [tops_idem] at t4
      have t5 := kIn_tup 0 (tops xs)
      rw [zero_top] at t5
      have t6 : kEqB (.tup ((tops xs).map .int)) (.tup [.int 0]) = some (decide (tops xs = [0])) := kEqB_tup (tops xs) [0]
      simp [ap_bin2, ap_un1, ap_eVar, ap_eC, ap_eAdd, ap_eSub, ap_eMul, ap_eDiv, ap_eMod, ap_eModN, ap_ePow, ap_eNeg, ap_tst, ap_eLt, ap_eLe, ap_eGt, ap_eGe, ap_eEq, ap_eNe, ap_eIs, ap_eIsNot, ap_tAn, ap_tO, ap_tNo, ap_eAn, ap_eO, ap_eNo, ap_eIf, ap_tTr, ap_eOT, ap_asg, ap_sNx, ap_sAsg, ap_sDrop, ap_sRet, ap_sRetN, ap_sIf, ap_bTup, ap_bLst, ap_aNil, ap_aCons, ap_eCall, ap_eCallI, ap_eMeth, ap_eMethI, ap_eMake, ap_eFnA, ap_eFld, ap_sFldM, ap_sFldA, ap_eIx, ap_eDGet, ap_eDIn, ap_eDNotIn, ap_eDGet2, ap_sAug, ap_sPar, ap_sPar3, ap_sPut, ap_eApp, ap_ePop, ap_eTup, ap_eLst, ap_eDNK, ap_eDNT, ap_eCatS, ap_eCatL, ap_eCatT, ap_eRepL, ap_eIn, ap_eNotIn, ap_eInS, ap_eNotInS, ap_eEqD, ap_eNeD, ap_oNo, ap_oAt, ap_eSl, ap_eRev, ap_iL, ap_iT, ap_iR1, ap_iR2, ap_iR3, ap_iEn, ap_iZp, ap_iS, ap_tYs, ap_sRaise, ap_eIsi, ap_eOwn, ap_eOwnIn, ap_eOwnNeg, ap_sTry, ap_eDisp, f1, f2, n1, n2, fA, nA, d1, d2, kI, kMul, kDiv, kMod, kModN, kPow, kNeg, kB, kEq, scV, scal_int, dci, kIs, kIsNot, MM.isNon, kTru, P.frz, P.vw, P.fz, frzs, vws, outV, outI, outK, asL, asT, kLen, kAbs, kInt, kMax2, kMin2, kList, kTuple, kFld, kIx, MM.putAt, kIsi, tagOf, noE, ownF, inF, rgOk, wipeE, restE, frOnly, ev_ok, ev_bnd, ↓bnd_of, bnd_ok, bnd_err, bnd_stuck, ev_ofO, evo_some, endsI, ends, finI, finV, ofO_some, ofO_none, flt_true, both_mod, t1, t2, t3, t4, t5, t6, kEqD, kNeD, kNe_bl]
    rintro _ ⟨o9, o11, rfl⟩
    refine ev_seq (fun e => ∃ o9 o11, e = [.fr (.scr ns), .ow d2', .fr (.lst (xs.map .int)), .fr (.lst (ys.map .int)), .fr (mod xs), .fr (mod ys), .fr (mod (gcds xs ys)), .fr (mod (tops xs ++ tops ys)), .fr (.lst ((here xs).map .int)), o9, .ow (.lst ((here ys).map .int)), o11, .fr (.tup ((tops xs).map .int)), .no, .no, .no, .no]) ?_ ?_
    · simp [ap_bin2, ap_un1, ap_eVar, ap_eC, ap_eAdd, ap_eSub, ap_eMul, ap_eDiv, ap_eMod, ap_eModN, ap_ePow, ap_eNeg, ap_tst, ap_eLt, ap_eLe, ap_eGt, ap_eGe, ap_eEq, ap_eNe, ap_eIs, ap_eIsNot, ap_tAn, ap_tO, ap_tNo, ap_eAn, ap_eO, ap_eNo, ap_eIf, ap_tTr, ap_eOT, ap_asg, ap_sNx, ap_sAsg, ap_sDrop, ap_sRet, ap_sRetN, ap_sIf, ap_bTup, ap_bLst, ap_aNil, ap_aCons, ap_eCall, ap_eCallI, ap_eMeth, ap_eMethI, ap_eMake, ap_eFnA, ap_eFld, ap_sFldM, ap_sFldA, ap_eIx, ap_eDGet, ap_eDIn, ap_eDNotIn, ap_eDGet2, ap_sAug, ap_sPar, ap_sPar3, ap_sPut, ap_eApp, ap_ePop, ap_eTup, ap_eLst, ap_eDNK, ap_eDNT, ap_eCatS, ap_eCatL, ap_eCatT, ap_eRepL, ap_eIn, ap_eNotIn, ap_eInS, ap_eNotInS, ap_eEqD, ap_eNeD, ap_oNo, ap_oAt, ap_eSl, ap_eRev, ap_iL, ap_iT, ap_iR1, ap_iR2, ap_iR3, ap_iEn, ap_iZp, ap_iS, ap_tYs, ap_sRaise, ap_eIsi, ap_eOwn, ap_eOwnIn, ap_eOwnNeg, ap_sTry, ap_eDisp, f1, f2, n1, n2, fA, nA, d1, d2, kI, kMul, kDiv, kMod, kModN, kPow, kNeg, kB, kEq, scV, scal_int, dci, kIs, kIsNot, MM.isNon, kTru, P.frz, P.vw, P.fz, frzs, vws, outV, outI, outK, asL, asT, kLen, kAbs, kInt, kMax2, kMin2, kList, kTuple, kFld, kIx, MM.putAt, kIsi, tagOf, noE, ownF, inF, rgOk, wipeE, restE, frOnly, ev_ok, ev_bnd, ↓bnd_of, bnd_ok, bnd_err, bnd_stuck, ev_ofO, evo_some, endsI, ends, finI, finV, ofO_some, ofO_none, flt_true]
      refine ev_lcI (tops xs) (fun a => decide (0 < ((tops xs).filter fun b => (!decide (a = b)) && ((!decide (a = 0)) && decide (b % a = 0))).length)) .int (e1 := [.fr (.scr ns), .ow d2', .fr (.lst (xs.map .int)), .fr (.lst (ys.map .int)), .fr (mod xs), .fr (mod ys), .fr (mod (gcds xs ys)), .fr (mod (tops xs ++ tops ys)), .fr (.lst ((here xs).map .int)), o9, .ow (.lst ((here ys).map .int)), o11, .fr (.tup ((tops xs).map .int)), .no, .no, .no, .no]) (by simp [ap_bin2, ap_un1, ap_eVar, ap_eC, ap_eAdd, ap_eSub, ap_eMul, ap_eDiv, ap_eMod, ap_eModN, ap_ePow, ap_eNeg, ap_tst, ap_eLt, ap_eLe, ap_eGt, ap_eGe, ap_eEq, ap_eNe, ap_eIs, ap_eIsNot, ap_tAn, ap_tO, ap_tNo, ap_eAn, ap_eO, ap_eNo, ap_eIf, ap_tTr, ap_eOT, ap_asg, ap_sNx, ap_sAsg, ap_sDrop, ap_sRet, ap_sRetN, ap_sIf, ap_bTup, ap_bLst, ap_aNil, ap_aCons, ap_eCall, ap_eCallI, ap_eMeth, ap_eMethI, ap_eMake, ap_eFnA, ap_eFld, ap_sFldM, ap_sFldA, ap_eIx, ap_eDGet, ap_eDIn, ap_eDNotIn, ap_eDGet2, ap_sAug, ap_sPar, ap_sPar3, ap_sPut, ap_eApp, ap_ePop, ap_eTup, ap_eLst, ap_eDNK, ap_eDNT, ap_eCatS, ap_eCatL, ap_eCatT, ap_eRepL, ap_eIn, ap_eNotIn, ap_eInS, ap_eNotInS, ap_eEqD, ap_eNeD, ap_oNo, ap_oAt, ap_eSl, ap_eRev, ap_iL, ap_iT, ap_iR1, ap_iR2, ap_iR3, ap_iEn, ap_iZp, ap_iS, ap_tYs, ap_sRaise, ap_eIsi, ap_eOwn, ap_eOwnIn, ap_eOwnNeg, ap_sTry, ap_eDisp, f1, f2, n1, n2, fA, nA, d1, d2, kI, kMul, kDiv, kMod, kModN, kPow, kNeg, kB, kEq, scV, scal_int, dci, kIs, kIsNot, MM.isNon, kTru, P.frz, P.vw, P.fz, frzs, vws, outV, outI, outK, asL, asT, kLen, kAbs, kInt, kMax2, kMin2, kList, kTuple, kFld, kIx, MM.putAt, kIsi, tagOf, noE, ownF, inF, rgOk, wipeE, restE, frOnly, ev_ok, ev_bnd, ↓bnd_of, bnd_ok, bnd_err, bnd_stuck, ev_ofO, evo_some, endsI, ends, finI, finV, ofO_some, ofO_none, flt_true]) (by have := @tops_len xs; omega) (fun a ha => ?_) ?_
      · simp [ap_bin2, ap_un1, ap_eVar, ap_eC, ap_eAdd, ap_eSub, ap_eMul, ap_eDiv, ap_eMod, ap_eModN, ap_ePow, ap_eNeg, ap_tst, ap_eLt, ap_eLe, ap_eGt, ap_eGe, ap_eEq, ap_eNe, ap_eIs, ap_eIsNot, ap_tAn, ap_tO, ap_tNo, ap_eAn, ap_eO, ap_eNo, ap_eIf, ap_tTr, ap_eOT, ap_asg, ap_sNx, ap_sAsg, ap_sDrop, ap_sRet, ap_sRetN, ap_sIf, ap_bTup, ap_bLst, ap_aNil, ap_aCons, ap_eCall, ap_eCallI, ap_eMeth, ap_eMethI, ap_eMake, ap_eFnA, ap_eFld, ap_sFldM, ap_sFldA, ap_eIx, ap_eDGet, ap_eDIn, ap_eDNotIn, ap_eDGet2, ap_sAug, ap_sPar, ap_sPar3, ap_sPut, ap_eApp, ap_ePop, ap_eTup, ap_eLst, ap_eDNK, ap_eDNT, ap_eCatS, ap_eCatL, ap_eCatT, ap_eRepL, ap_eIn, ap_eNotIn, ap_eInS, ap_eNotInS, ap_eEqD, ap_eNeD, ap_oNo, ap_oAt, ap_eSl, ap_eRev, ap_iL, ap_iT, ap_iR1, ap_iR2, ap_iR3, ap_iEn, ap_iZp, ap_iS, ap_tYs, ap_sRaise, ap_eIsi, ap_eOwn, ap_eOwnIn, ap_eOwnNeg, ap_sTry, ap_eDisp, f1, f2, n1, n2, fA, nA, d1, d2, kI, kMul, kDiv, kMod, kModN, kPow, kNeg, kB, kEq, scV, scal_int, dci, kIs, kIsNot, MM.isNon, kTru, P.frz, P.vw, P.fz, frzs, vws, outV, outI, outK, asL, asT, kLen, kAbs, kInt, kMax2, kMin2, kList, kTuple, kFld, kIx, MM.putAt, kIsi, tagOf, noE, ownF, inF, rgOk, wipeE, restE, frOnly, ev_ok, ev_bnd, ↓bnd_of, bnd_ok, bnd_err, bnd_stuck, ev_ofO, evo_some, endsI, ends, finI, finV, ofO_some, ofO_none, flt_true]
        refine ev_lcI (tops xs) (fun b => (!decide (a = b)) && ((!decide (a = 0)) && decide (b % a = 0))) .int (e1 := [.fr (.scr ns), .ow d2', .fr (.lst (xs.map .int)), .fr (.lst (ys.map .int)), .fr (mod xs), .fr (mod ys), .fr (mod (gcds xs ys)), .fr (mod (tops xs ++ tops ys)), .fr (.lst ((here xs).map .int)), o9, .ow (.lst ((here ys).map .int)), o11, .fr (.tup ((tops xs).map .int)), .fr (.int a), .no, .no, .no]) (by simp [ap_bin2, ap_un1, ap_eVar, ap_eC, ap_eAdd, ap_eSub, ap_eMul, ap_eDiv, ap_eMod, ap_eModN, ap_ePow, ap_eNeg, ap_tst, ap_eLt, ap_eLe, ap_eGt, ap_eGe, ap_eEq, ap_eNe, ap_eIs, ap_eIsNot, ap_tAn, ap_tO, ap_tNo, ap_eAn, ap_eO, ap_eNo, ap_eIf, ap_tTr, ap_eOT, ap_asg, ap_sNx, ap_sAsg, ap_sDrop, ap_sRet, ap_sRetN, ap_sIf, ap_bTup, ap_bLst, ap_aNil, ap_aCons, ap_eCall, ap_eCallI, ap_eMeth, ap_eMethI, ap_eMake, ap_eFnA, ap_eFld, ap_sFldM, ap_sFldA, ap_eIx, ap_eDGet, ap_eDIn, ap_eDNotIn, ap_eDGet2, ap_sAug, ap_sPar, ap_sPar3, ap_sPut, ap_eApp, ap_ePop, ap_eTup, ap_eLst, ap_eDNK, ap_eDNT, ap_eCatS, ap_eCatL, ap_eCatT, ap_eRepL, ap_eIn, ap_eNotIn, ap_eInS, ap_eNotInS, ap_eEqD, ap_eNeD, ap_oNo, ap_oAt, ap_eSl, ap_eRev, ap_iL, ap_iT, ap_iR1, ap_iR2, ap_iR3, ap_iEn, ap_iZp, ap_iS, ap_tYs, ap_sRaise, ap_eIsi, ap_eOwn, ap_eOwnIn, ap_eOwnNeg, ap_sTry, ap_eDisp, f1, f2, n1, n2, fA, nA, d1, d2, kI, kMul, kDiv, kMod, kModN, kPow, kNeg, kB, kEq, scV, scal_int, dci, kIs, kIsNot, MM.isNon, kTru, P.frz, P.vw, P.fz, frzs, vws, outV, outI, outK, asL, asT, kLen, kAbs, kInt, kMax2, kMin2, kList, kTuple, kFld, kIx, MM.putAt, kIsi, tagOf, noE, ownF, inF, rgOk, wipeE, restE, frOnly, ev_ok, ev_bnd, ↓bnd_of, bnd_ok, bnd_err, bnd_stuck, ev_ofO, evo_some, endsI, ends, finI, finV, ofO_some, ofO_none, flt_true]) (by have := @tops_len xs; omega) (fun b hb => ?_) ?_
        · have a0 := sx.nn a (tops_mem.mp ha).1
          by_cases h1 : a = b
          · simp [ap_bin2, ap_un1, ap_eVar, ap_eC, ap_eAdd, ap_eSub, ap_eMul, ap_eDiv, ap_eMod, ap_eModN, ap_ePow, ap_eNeg, ap_tst, ap_eLt, ap_eLe, ap_eGt, ap_eGe, ap_eEq, ap_eNe, ap_eIs, ap_eIsNot, ap_tAn, ap_tO, ap_tNo, ap_eAn, ap_eO, ap_eNo, ap_eIf, ap_tTr, ap_eOT, ap_asg, ap_sNx, ap_sAsg, ap_sDrop, ap_sRet, ap_sRetN, ap_sIf, ap_bTup, ap_bLst, ap_aNil, ap_aCons, ap_eCall, ap_eCallI, ap_eMeth, ap_eMethI, ap_eMake, ap_eFnA, ap_eFld, ap_sFldM, ap_sFldA, ap_eIx, ap_eDGet, ap_eDIn, ap_eDNotIn, ap_eDGet2, ap_sAug, ap_sPar, ap_sPar3, ap_sPut, ap_eApp, ap_ePop, ap_eTup, ap_eLst, ap_eDNK, ap_eDNT, ap_eCatS, ap_eCatL, ap_eCatT, ap_eRepL, ap_eIn, ap_eNotIn, ap_eInS, ap_eNotInS, ap_eEqD, ap_eNeD, ap_oNo, ap_oAt, ap_eSl, ap_eRev, ap_iL, ap_iT, ap_iR1, ap_iR2, ap_iR3, ap_iEn, ap_iZp, ap_iS, ap_tYs, ap_sRaise, ap_eIsi, ap_eOwn, ap_eOwnIn, ap_eOwnNeg, ap_sTry, ap_eDisp, f1, f2, n1, n2, fA, nA, d1, d2, kI, kMul, kDiv, kMod, kModN, kPow, kNeg, kB, kEq, scV, scal_int, dci, kIs, kIsNot, MM.isNon, kTru, P.frz, P.vw, P.fz, frzs, vws, outV, outI, outK, asL, asT, kLen, kAbs, kInt, kMax2, kMin2, kList, kTuple, kFld, kIx, MM.putAt, kIsi, tagOf, noE, ownF, inF, rgOk, wipeE, restE, frOnly, ev_ok, ev_bnd, ↓bnd_of, bnd_ok, bnd_err, bnd_stuck, ev_ofO, evo_some, endsI, ends, finI, finV, ofO_some, ofO_none, flt_true, kNe_int, h1]
          · by_cases h2 : a = 0
            · subst h2
              simp [ap_bin2, ap_un1, ap_eVar, ap_eC, ap_eAdd, ap_eSub, ap_eMul, ap_eDiv, ap_eMod, ap_eModN, ap_ePow, ap_eNeg, ap_tst, ap_eLt, ap_eLe, ap_eGt, ap_eGe, ap_eEq, ap_eNe, ap_eIs, ap_eIsNot, ap_tAn, ap_tO, ap_tNo, ap_eAn, ap_eO, ap_eNo, ap_eIf, ap_tTr, ap_eOT, ap_asg, ap_sNx, ap_sAsg, ap_sDrop, ap_sRet, ap_sRetN, ap_sIf, ap_bTup, ap_bLst, ap_aNil, ap_aCons, ap_eCall, ap_eCallI, ap_eMeth, ap_eMethI, ap_eMake, ap_eFnA, ap_eFld, ap_sFldM, ap_sFldA, ap_eIx, ap_eDGet, ap_eDIn, ap_eDNotIn, ap_eDGet2, ap_sAug, ap_sPar, ap_sPar3, ap_sPut, ap_eApp, ap_ePop, ap_eTup, ap_eLst, ap_eDNK, ap_eDNT, ap_eCatS, ap_eCatL, ap_eCatT, ap_eRepL, ap_eIn, ap_eNotIn, ap_eInS, ap_eNotInS, ap_eEqD, ap_eNeD, ap_oNo, ap_oAt, ap_eSl, ap_eRev, ap_iL, ap_iT, ap_iR1, ap_iR2, ap_iR3, ap_iEn, ap_iZp, ap_iS, ap_tYs, ap_sRaise, ap_eIsi, ap_eOwn, ap_eOwnIn, ap_eOwnNeg, ap_sTry, ap_eDisp, f1, f2, n1, n2, fA, nA, d1, d2, kI, kMul, kDiv, kMod, kModN, kPow, kNeg, kB, kEq, scV, scal_int, dci, kIs, kIsNot, MM.isNon, kTru, P.frz, P.vw, P.fz, frzs, vws, outV, outI, outK, asL, asT, kLen, kAbs, kInt, kMax2, kMin2, kList, kTuple, kFld, kIx, MM.putAt, kIsi, tagOf, noE, ownF, inF, rgOk, wipeE, restE, frOnly, ev_ok, ev_bnd, ↓bnd_of, bnd_ok, bnd_err, bnd_stuck, ev_ofO, evo_some, endsI, ends, finI, finV, ofO_some, ofO_none, flt_true, kNe_int, h1]
            · have h3 : 0 < a := by omega
              simp [ap_bin2, ap_un1, ap_eVar, ap_eC, ap_eAdd, ap_eSub, ap_eMul, ap_eDiv, ap_eMod, ap_eModN, ap_ePow, ap_eNeg, ap_tst, ap_eLt, ap_eLe, ap_eGt, ap_eGe, ap_eEq, ap_eNe, ap_eIs, ap_eIsNot, ap_tAn, ap_tO, ap_tNo, ap_eAn, ap_eO, ap_eNo, ap_eIf, ap_tTr, ap_eOT, ap_asg, ap_sNx, ap_sAsg, ap_sDrop, ap_sRet, ap_sRetN, ap_sIf, ap_bTup, ap_bLst, ap_aNil, ap_aCons, ap_eCall, ap_eCallI, ap_eMeth, ap_eMethI, ap_eMake, ap_eFnA, ap_eFld, ap_sFldM, ap_sFldA, ap_eIx, ap_eDGet, ap_eDIn, ap_eDNotIn, ap_eDGet2, ap_sAug, ap_sPar, ap_sPar3, ap_sPut, ap_eApp, ap_ePop, ap_eTup, ap_eLst, ap_eDNK, ap_eDNT, ap_eCatS, ap_eCatL, ap_eCatT, ap_eRepL, ap_eIn, ap_eNotIn, ap_eInS, ap_eNotInS, ap_eEqD, ap_eNeD, ap_oNo, ap_oAt, ap_eSl, ap_eRev, ap_iL, ap_iT, ap_iR1, ap_iR2, ap_iR3, ap_iEn, ap_iZp, ap_iS, ap_tYs, ap_sRaise, ap_eIsi, ap_eOwn, ap_eOwnIn, ap_eOwnNeg, ap_sTry, ap_eDisp, f1, f2, n1, n2, fA, nA, d1, d2, kI, kMul, kDiv, kMod, kModN, kPow, kNeg, kB, kEq, scV, scal_int, dci, kIs, kIsNot, MM.isNon, kTru, P.frz, P.vw, P.fz, frzs, vws, outV, outI, outK, asL, asT, kLen, kAbs, kInt, kMax2, kMin2, kList, kTuple, kFld, kIx, MM.putAt, kIsi, tagOf, noE, ownF, inF, rgOk, wipeE, restE, frOnly, ev_ok, ev_bnd, ↓bnd_of, bnd_ok, bnd_err, bnd_stuck, ev_ofO, evo_some, endsI, ends, finI, finV, ofO_some, ofO_none, flt_true, kNe_int, h1, h2, h3]
        · by_cases h : 0 < ((tops xs).filter (fun b => (!decide (a = b)) && ((!decide (a = 0)) && decide (b % a = 0)))).length
          · simp only [ap_bin2, ap_un1, ap_eVar, ap_eC, ap_eAdd, ap_eSub, ap_eMul, ap_eDiv, ap_eMod, ap_eModN, ap_ePow, ap_eNeg, ap_tst, ap_eLt, ap_eLe, ap_eGt, ap_eGe, ap_eEq, ap_eNe, ap_eIs, ap_eIsNot, ap_tAn, ap_tO, ap_tNo, ap_eAn, ap_eO, ap_eNo, ap_eIf, ap_tTr, ap_eOT, ap_asg, ap_sNx, ap_sAsg, ap_sDrop, ap_sRet, ap_sRetN, ap_sIf, ap_bTup, ap_bLst, ap_aNil, ap_aCons, ap_eCall, ap_eCallI, ap_eMeth, ap_eMethI, ap_eMake, ap_eFnA, ap_eFld, ap_sFldM, ap_sFldA, ap_eIx, ap_eDGet, ap_eDIn, ap_eDNotIn, ap_eDGet2, ap_sAug, ap_sPar, ap_sPar3, ap_sPut, ap_eApp, ap_ePop, ap_eTup, ap_eLst, ap_eDNK, ap_eDNT, ap_eCatS, ap_eCatL, ap_eCatT, ap_eRepL, ap_eIn, ap_eNotIn, ap_eInS, ap_eNotInS, ap_eEqD, ap_eNeD, ap_oNo, ap_oAt, ap_eSl, ap_eRev, ap_iL, ap_iT, ap_iR1, ap_iR2, ap_iR3, ap_iEn, ap_iZp, ap_iS, ap_tYs, ap_sRaise, ap_eIsi, ap_eOwn, ap_eOwnIn, ap_eOwnNeg, ap_sTry, ap_eDisp, f1, f2, n1, n2, fA, nA, d1, d2, kI, kMul, kDiv, kMod, kModN, kPow, kNeg, kB, kEq, scV, scal_int, dci, kIs, kIsNot, MM.isNon, kTru, P.frz, P.vw, P.fz, frzs, vws, outV, outI, outK, asL, asT, kLen, kAbs, kInt, kMax2, kMin2, kList, kTuple, kFld, kIx, MM.putAt, kIsi, tagOf, noE, ownF, inF, rgOk, wipeE, restE, frOnly, ev_ok, ev_bnd, ↓bnd_of, bnd_ok, bnd_err, bnd_stuck, ev_ofO, evo_some, endsI, ends, finI, finV, ofO_some, ofO_none, flt_true, List.getElem?_cons_zero, List.getElem?_cons_succ, Int.natCast_pos, decide_eq_true h, List.set, Option.bind_some, List.length_map]
            simp
          · simp only [ap_bin2, ap_un1, ap_eVar, ap_eC, ap_eAdd, ap_eSub, ap_eMul, ap_eDiv, ap_eMod, ap_eModN, ap_ePow, ap_eNeg, ap_tst, ap_eLt, ap_eLe, ap_eGt, ap_eGe, ap_eEq, ap_eNe, ap_eIs, ap_eIsNot, ap_tAn, ap_tO, ap_tNo, ap_eAn, ap_eO, ap_eNo, ap_eIf, ap_tTr, ap_eOT, ap_asg, ap_sNx, ap_sAsg, ap_sDrop, ap_sRet, ap_sRetN, ap_sIf, ap_bTup, ap_bLst, ap_aNil, ap_aCons, ap_eCall, ap_eCallI, ap_eMeth, ap_eMethI, ap_eMake, ap_eFnA, ap_eFld, ap_sFldM, ap_sFldA, ap_eIx, ap_eDGet, ap_eDIn, ap_eDNotIn, ap_eDGet2, ap_sAug, ap_sPar, ap_sPar3, ap_sPut, ap_eApp, ap_ePop, ap_eTup, ap_eLst, ap_eDNK, ap_eDNT, ap_eCatS, ap_eCatL, ap_eCatT, ap_eRepL, ap_eIn, ap_eNotIn, ap_eInS, ap_eNotInS, ap_eEqD, ap_eNeD, ap_oNo, ap_oAt, ap_eSl, ap_eRev, ap_iL, ap_iT, ap_iR1, ap_iR2, ap_iR3, ap_iEn, ap_iZp, ap_iS, ap_tYs, ap_sRaise, ap_eIsi, ap_eOwn, ap_eOwnIn, ap_eOwnNeg, ap_sTry, ap_eDisp, f1, f2, n1, n2, fA, nA, d1, d2, kI, kMul, kDiv, kMod, kModN, kPow, kNeg, kB, kEq, scV, scal_int, dci, kIs, kIsNot, MM.isNon, kTru, P.frz, P.vw, P.fz, frzs, vws, outV, outI, outK, asL, asT, kLen, kAbs, kInt, kMax2, kMin2, kList, kTuple, kFld, kIx, MM.putAt, kIsi, tagOf, noE, ownF, inF, rgOk, wipeE, restE, frOnly, ev_ok, ev_bnd, ↓bnd_of, bnd_ok, bnd_err, bnd_stuck, ev_ofO, evo_some, endsI, ends, finI, finV, ofO_some, ofO_none, flt_true, List.getElem?_cons_zero, List.getElem?_cons_succ, Int.natCast_pos, decide_eq_false h, List.set, Option.bind_some, List.length_map]
            simp
      · rw [no_over]
        simp [ap_bin2, ap_un1, ap_eVar, ap_eC, ap_eAdd, ap_eSub, ap_eMul, ap_eDiv, ap_eMod, ap_eModN, ap_ePow, ap_eNeg, ap_tst, ap_eLt, ap_eLe, ap_eGt, ap_eGe, ap_eEq, ap_eNe, ap_eIs, ap_eIsNot, ap_tAn, ap_tO, ap_tNo, ap_eAn, ap_eO, ap_eNo, ap_eIf, ap_tTr, ap_eOT, ap_asg, ap_sNx, ap_sAsg, ap_sDrop, ap_sRet, ap_sRetN, ap_sIf, ap_bTup, ap_bLst, ap_aNil, ap_aCons, ap_eCall, ap_eCallI, ap_eMeth, ap_eMethI, ap_eMake, ap_eFnA, ap_eFld, ap_sFldM, ap_sFldA, ap_eIx, ap_eDGet, ap_eDIn, ap_eDNotIn, ap_eDGet2, ap_sAug, ap_sPar, ap_sPar3, ap_sPut, ap_eApp, ap_ePop, ap_eTup, ap_eLst, ap_eDNK, ap_eDNT, ap_eCatS, ap_eCatL, ap_eCatT, ap_eRepL, ap_eIn, ap_eNotIn, ap_eInS, ap_eNotInS, ap_eEqD, ap_eNeD, ap_oNo, ap_oAt, ap_eSl, ap_eRev, ap_iL, ap_iT, ap_iR1, ap_iR2, ap_iR3, ap_iEn, ap_iZp, ap_iS, ap_tYs, ap_sRaise, ap_eIsi, ap_eOwn, ap_eOwnIn, ap_eOwnNeg, ap_sTry, ap_eDisp, f1, f2, n1, n2, fA, nA, d1, d2, kI, kMul, kDiv, kMod, kModN, kPow, kNeg, kB, kEq, scV, scal_int, dci, kIs, kIsNot, MM.isNon, kTru, P.frz, P.vw, P.fz, frzs, vws, outV, outI, outK, asL, asT, kLen, kAbs, kInt, kMax2, kMin2, kList, kTuple, kFld, kIx, MM.putAt, kIsi, tagOf, noE, ownF, inF, rgOk, wipeE, restE, frOnly, ev_ok, ev_bnd, ↓bnd_of, bnd_ok, bnd_err, bnd_stuck, ev_ofO, evo_some, endsI, ends, finI, finV, ofO_some, ofO_none, flt_true]
    rintro _ ⟨o9, o11, rfl⟩
    refine ev_seq (fun e => ∃ o9 o11, e = [.fr (.scr ns), .ow d2', .fr (.lst (xs.map .int)), .fr (.lst (ys.map .int)), .fr (mod xs), .fr (mod ys), .fr (mod (gcds xs ys)), .fr (mod (tops xs ++ tops ys)), .fr (.lst ((here xs).map .int)), o9, .ow (.lst ((here ys).map .int)), o11, .fr (.tup ((tops xs).map .int)), .no, .no, .ow (.lst ((rg.filter fun n => !decide (n ∈ here xs)).map .int)), .no]) ?_ ?_
    · simp [ap_bin2, ap_un1, ap_eVar, ap_eC, ap_eAdd, ap_eSub, ap_eMul, ap_eDiv, ap_eMod, ap_eModN, ap_ePow, ap_eNeg, ap_tst, ap_eLt, ap_eLe, ap_eGt, ap_eGe, ap_eEq, ap_eNe, ap_eIs, ap_eIsNot, ap_tAn, ap_tO, ap_tNo, ap_eAn, ap_eO, ap_eNo, ap_eIf, ap_tTr, ap_eOT, ap_asg, ap_sNx, ap_sAsg, ap_sDrop, ap_sRet, ap_sRetN, ap_sIf, ap_bTup, ap_bLst, ap_aNil, ap_aCons, ap_eCall, ap_eCallI, ap_eMeth, ap_eMethI, ap_eMake, ap_eFnA, ap_eFld, ap_sFldM, ap_sFldA, ap_eIx, ap_eDGet, ap_eDIn, ap_eDNotIn, ap_eDGet2, ap_sAug, ap_sPar, ap_sPar3, ap_sPut, ap_eApp, ap_ePop, ap_eTup, ap_eLst, ap_eDNK, ap_eDNT, ap_eCatS, ap_eCatL, ap_eCatT, ap_eRepL, ap_eIn, ap_eNotIn, ap_eInS, ap_eNotInS, ap_eEqD, ap_eNeD, ap_oNo, ap_oAt, ap_eSl, ap_eRev, ap_iL, ap_iT, ap_iR1, ap_iR2, ap_iR3, ap_iEn, ap_iZp, ap_iS, ap_tYs, ap_sRaise, ap_eIsi, ap_eOwn, ap_eOwnIn, ap_eOwnNeg, ap_sTry, ap_eDisp, f1, f2, n1, n2, fA, nA, d1, d2, kI, kMul, kDiv, kMod, kModN, kPow, kNeg, kB, kEq, scV, scal_int, dci, kIs, kIsNot, MM.isNon, kTru, P.frz, P.vw, P.fz, frzs, vws, outV, outI, outK, asL, asT, kLen, kAbs, kInt, kMax2, kMin2, kList, kTuple, kFld, kIx, MM.putAt, kIsi, tagOf, noE, ownF, inF, rgOk, wipeE, restE, frOnly, ev_ok, ev_bnd, ↓bnd_of, bnd_ok, bnd_err, bnd_stuck, ev_ofO, evo_some, endsI, ends, finI, finV, ofO_some, ofO_none, flt_true]
      refine ev_lcI rg (fun n => !decide (n ∈ here xs)) .int (e1 := [.fr (.scr ns), .ow d2', .fr (.lst (xs.map .int)), .fr (.lst (ys.map .int)), .fr (mod xs), .fr (mod ys), .fr (mod (gcds xs ys)), .fr (mod (tops xs ++ tops ys)), .fr (.lst ((here xs).map .int)), o9, .ow (.lst ((here ys).map .int)), o11, .fr (.tup ((tops xs).map .int)), .no, .no, .no, .no]) (by simp [ap_bin2, ap_un1, ap_eVar, ap_eC, ap_eAdd, ap_eSub, ap_eMul, ap_eDiv, ap_eMod, ap_eModN, ap_ePow, ap_eNeg, ap_tst, ap_eLt, ap_eLe, ap_eGt, ap_eGe, ap_eEq, ap_eNe, ap_eIs, ap_eIsNot, ap_tAn, ap_tO, ap_tNo, ap_eAn, ap_eO, ap_eNo, ap_eIf, ap_tTr, ap_eOT, ap_asg, ap_sNx, ap_sAsg, ap_sDrop, ap_sRet, ap_sRetN, ap_sIf, ap_bTup, ap_bLst, ap_aNil, ap_aCons, ap_eCall, ap_eCallI, ap_eMeth, ap_eMethI, ap_eMake, ap_eFnA, ap_eFld, ap_sFldM, ap_sFldA, ap_eIx, ap_eDGet, ap_eDIn, ap_eDNotIn, ap_eDGet2, ap_sAug, ap_sPar, ap_sPar3, ap_sPut, ap_eApp, ap_ePop, ap_eTup, ap_eLst, ap_eDNK, ap_eDNT, ap_eCatS, ap_eCatL, ap_eCatT, ap_eRepL, ap_eIn, ap_eNotIn, ap_eInS, ap_eNotInS, ap_eEqD, ap_eNeD, ap_oNo, ap_oAt, ap_eSl, ap_eRev, ap_iL, ap_iT, ap_iR1, ap_iR2, ap_iR3, ap_iEn, ap_iZp, ap_iS, ap_tYs, ap_sRaise, ap_eIsi, ap_eOwn, ap_eOwnIn, ap_eOwnNeg, ap_sTry, ap_eDisp, f1, f2, n1, n2, fA, nA, d1, d2, kI, kMul, kDiv, kMod, kModN, kPow, kNeg, kB, kEq, scV, scal_int, dci, kIs, kIsNot, MM.isNon, kTru, P.frz, P.vw, P.fz, frzs, vws, outV, outI, outK, asL, asT, kLen, kAbs, kInt, kMax2, kMin2, kList, kTuple, kFld, kIx, MM.putAt, kIsi, tagOf, noE, ownF, inF, rgOk, wipeE, restE, frOnly, ev_ok, ev_bnd, ↓bnd_of, bnd_ok, bnd_err, bnd_stuck, ev_ofO, evo_some, endsI, ends, finI, finV, ofO_some, ofO_none, flt_true, rgL_rg]) (by omega) (fun n hn => ?_) ?_
      · simp [ap_bin2, ap_un1, ap_eVar, ap_eC, ap_eAdd, ap_eSub, ap_eMul, ap_eDiv, ap_eMod, ap_eModN, ap_ePow, ap_eNeg, ap_tst, ap_eLt, ap_eLe, ap_eGt, ap_eGe, ap_eEq, ap_eNe, ap_eIs, ap_eIsNot, ap_tAn, ap_tO, ap_tNo, ap_eAn, ap_eO, ap_eNo, ap_eIf, ap_tTr, ap_eOT, ap_asg, ap_sNx, ap_sAsg, ap_sDrop, ap_sRet, ap_sRetN, ap_sIf, ap_bTup, ap_bLst, ap_aNil, ap_aCons, ap_eCall, ap_eCallI, ap_eMeth, ap_eMethI, ap_eMake, ap_eFnA, ap_eFld, ap_sFldM, ap_sFldA, ap_eIx, ap_eDGet, ap_eDIn, ap_eDNotIn, ap_eDGet2, ap_sAug, ap_sPar, ap_sPar3, ap_sPut, ap_eApp, ap_ePop, ap_eTup, ap_eLst, ap_eDNK, ap_eDNT, ap_eCatS, ap_eCatL, ap_eCatT, ap_eRepL, ap_eIn, ap_eNotIn, ap_eInS, ap_eNotInS, ap_eEqD, ap_eNeD, ap_oNo, ap_oAt, ap_eSl, ap_eRev, ap_iL, ap_iT, ap_iR1, ap_iR2, ap_iR3, ap_iEn, ap_iZp, ap_iS, ap_tYs, ap_sRaise, ap_eIsi, ap_eOwn, ap_eOwnIn, ap_eOwnNeg, ap_sTry, ap_eDisp, f1, f2, n1, n2, fA, nA, d1, d2, kI, kMul, kDiv, kMod, kModN, kPow, kNeg, kB, kEq, scV, scal_int, dci, kIs, kIsNot, MM.isNon, kTru, P.frz, P.vw, P.fz, frzs, vws, outV, outI, outK, asL, asT, kLen, kAbs, kInt, kMax2, kMin2, kList, kTuple, kFld, kIx, MM.putAt, kIsi, tagOf, noE, ownF, inF, rgOk, wipeE, restE, frOnly, ev_ok, ev_bnd, ↓bnd_of, bnd_ok, bnd_err, bnd_stuck, ev_ofO, evo_some, endsI, ends, finI, finV, ofO_some, ofO_none, flt_true, kNotIn_lst]
      · simp [ap_bin2, ap_un1, ap_eVar, ap_eC, ap_eAdd, ap_eSub, ap_eMul, ap_eDiv, ap_eMod, ap_eModN, ap_ePow, ap_eNeg, ap_tst, ap_eLt, ap_eLe, ap_eGt, ap_eGe, ap_eEq, ap_eNe, ap_eIs, ap_eIsNot, ap_tAn, ap_tO, ap_tNo, ap_eAn, ap_eO, ap_eNo, ap_eIf, ap_tTr, ap_eOT, ap_asg, ap_sNx, ap_sAsg, ap_sDrop, ap_sRet, ap_sRetN, ap_sIf, ap_bTup, ap_bLst, ap_aNil, ap_aCons, ap_eCall, ap_eCallI, ap_eMeth, ap_eMethI, ap_eMake, ap_eFnA, ap_eFld, ap_sFldM, ap_sFldA, ap_eIx, ap_eDGet, ap_eDIn, ap_eDNotIn, ap_eDGet2, ap_sAug, ap_sPar, ap_sPar3, ap_sPut, ap_eApp, ap_ePop, ap_eTup, ap_eLst, ap_eDNK, ap_eDNT, ap_eCatS, ap_eCatL, ap_eCatT, ap_eRepL, ap_eIn, ap_eNotIn, ap_eInS, ap_eNotInS, ap_eEqD, ap_eNeD, ap_oNo, ap_oAt, ap_eSl, ap_eRev, ap_iL, ap_iT, ap_iR1, ap_iR2, ap_iR3, ap_iEn, ap_iZp, ap_iS, ap_tYs, ap_sRaise, ap_eIsi, ap_eOwn, ap_eOwnIn, ap_eOwnNeg, ap_sTry, ap_eDisp, f1, f2, n1, n2, fA, nA, d1, d2, kI, kMul, kDiv, kMod, kModN, kPow, kNeg, kB, kEq, scV, scal_int, dci, kIs, kIsNot, MM.isNon, kTru, P.frz, P.vw, P.fz, frzs, vws, outV, outI, outK, asL, asT, kLen, kAbs, kInt, kMax2, kMin2, kList, kTuple, kFld, kIx, MM.putAt, kIsi, tagOf, noE, ownF, inF, rgOk, wipeE, restE, frOnly, ev_ok, ev_bnd, ↓bnd_of, bnd_ok, bnd_err, bnd_stuck, ev_ofO, evo_some, endsI, ends, finI, finV, ofO_some, ofO_none, flt_true]
    rintro _ ⟨o9, o11, rfl⟩
    refine ev_seq (fun e => ∃ o9 o11, e = [.fr (.scr ns), .ow d2', .fr (.lst (xs.map .int)), .fr (.lst (ys.map .int)), .fr (mod xs), .fr (mod ys), .fr (mod (gcds xs ys)), .fr (mod (tops xs ++ tops ys)), .fr (.lst ((here xs).map .int)), o9, .ow (.lst ((here ys).map .int)), o11, .fr (.tup ((tops xs).map .int)), .no, .no, .ow (.lst ((rg.filter fun n => !decide (n ∈ here xs)).map .int)), .no]) ?_ ?_
    · by_cases h0 : tops xs = [0]
      · rw [out_nil h0]
        have hl := R_least0 (N := 300) h0
        have e1 : kEqB .non .non = some true := by rfl
        simp [ap_bin2, ap_un1, ap_eVar, ap_eC, ap_eAdd, ap_eSub, ap_eMul, ap_eDiv, ap_eMod, ap_eModN, ap_ePow, ap_eNeg, ap_tst, ap_eLt, ap_eLe, ap_eGt, ap_eGe, ap_eEq, ap_eNe, ap_eIs, ap_eIsNot, ap_tAn, ap_tO, ap_tNo, ap_eAn, ap_eO, ap_eNo, ap_eIf, ap_tTr, ap_eOT, ap_asg, ap_sNx, ap_sAsg, ap_sDrop, ap_sRet, ap_sRetN, ap_sIf, ap_bTup, ap_bLst, ap_aNil, ap_aCons, ap_eCall, ap_eCallI, ap_eMeth, ap_eMethI, ap_eMake, ap_eFnA, ap_eFld, ap_sFldM, ap_sFldA, ap_eIx, ap_eDGet, ap_eDIn, ap_eDNotIn, ap_eDGet2, ap_sAug, ap_sPar, ap_sPar3, ap_sPut, ap_eApp, ap_ePop, ap_eTup, ap_eLst, ap_eDNK, ap_eDNT, ap_eCatS, ap_eCatL, ap_eCatT, ap_eRepL, ap_eIn, ap_eNotIn, ap_eInS, ap_eNotInS, ap_eEqD, ap_eNeD, ap_oNo, ap_oAt, ap_eSl, ap_eRev, ap_iL, ap_iT, ap_iR1, ap_iR2, ap_iR3, ap_iEn, ap_iZp, ap_iS, ap_tYs, ap_sRaise, ap_eIsi, ap_eOwn, ap_eOwnIn, ap_eOwnNeg, ap_sTry, ap_eDisp, f1, f2, n1, n2, fA, nA, d1, d2, kI, kMul, kDiv, kMod, kModN, kPow, kNeg, kB, kEq, scV, scal_int, dci, kIs, kIsNot, MM.isNon, kTru, P.frz, P.vw, P.fz, frzs, vws, outV, outI, outK, asL, asT, kLen, kAbs, kInt, kMax2, kMin2, kList, kTuple, kFld, kIx, MM.putAt, kIsi, tagOf, noE, ownF, inF, rgOk, wipeE, restE, frOnly, ev_ok, ev_bnd, ↓bnd_of, bnd_ok, bnd_err, bnd_stuck, ev_ofO, evo_some, endsI, ends, finI, finV, ofO_some, ofO_none, flt_true, isoL, hl, kCatL, at0, kNeD, e1]
      · obtain ⟨k, hk, hp, hq⟩ := least sx h0
        obtain ⟨r, hr⟩ := out_head sx k hk hp hq
        have hl := R_least (N := 300) Nx h0 k (by omega) hp hq
        have hrl : r.length ≤ 210 := by
          have h1 := List.length_filter_le (fun n => !decide (n ∈ here xs)) rg
          rw [hr] at h1
          simp at h1
          omega
        have e1 : kEqB (.int ((1 + k : Nat) : Int)) (.int ((1 + k : Nat) : Int)) = some true := by
          simp [kEqB, pyD, SeqAt.shaped, PyData.canLay0, PyData.depth, PyData.eqv]
        rw [hr]
        generalize ((1 + k : Nat) : Int) = m at hl e1
        have hz : r.length + 1 + 1 ≤ 16777216 := by omega
        simp [ap_bin2, ap_un1, ap_eVar, ap_eC, ap_eAdd, ap_eSub, ap_eMul, ap_eDiv, ap_eMod, ap_eModN, ap_ePow, ap_eNeg, ap_tst, ap_eLt, ap_eLe, ap_eGt, ap_eGe, ap_eEq, ap_eNe, ap_eIs, ap_eIsNot, ap_tAn, ap_tO, ap_tNo, ap_eAn, ap_eO, ap_eNo, ap_eIf, ap_tTr, ap_eOT, ap_asg, ap_sNx, ap_sAsg, ap_sDrop, ap_sRet, ap_sRetN, ap_sIf, ap_bTup, ap_bLst, ap_aNil, ap_aCons, ap_eCall, ap_eCallI, ap_eMeth, ap_eMethI, ap_eMake, ap_eFnA, ap_eFld, ap_sFldM, ap_sFldA, ap_eIx, ap_eDGet, ap_eDIn, ap_eDNotIn, ap_eDGet2, ap_sAug, ap_sPar, ap_sPar3, ap_sPut, ap_eApp, ap_ePop, ap_eTup, ap_eLst, ap_eDNK, ap_eDNT, ap_eCatS, ap_eCatL, ap_eCatT, ap_eRepL, ap_eIn, ap_eNotIn, ap_eInS, ap_eNotInS, ap_eEqD, ap_eNeD, ap_oNo, ap_oAt, ap_eSl, ap_eRev, ap_iL, ap_iT, ap_iR1, ap_iR2, ap_iR3, ap_iEn, ap_iZp, ap_iS, ap_tYs, ap_sRaise, ap_eIsi, ap_eOwn, ap_eOwnIn, ap_eOwnNeg, ap_sTry, ap_eDisp, f1, f2, n1, n2, fA, nA, d1, d2, kI, kMul, kDiv, kMod, kModN, kPow, kNeg, kB, kEq, scV, scal_int, dci, kIs, kIsNot, MM.isNon, kTru, P.frz, P.vw, P.fz, frzs, vws, outV, outI, outK, asL, asT, kLen, kAbs, kInt, kMax2, kMin2, kList, kTuple, kFld, kIx, MM.putAt, kIsi, tagOf, noE, ownF, inF, rgOk, wipeE, restE, frOnly, ev_ok, ev_bnd, ↓bnd_of, bnd_ok, bnd_err, bnd_stuck, ev_ofO, evo_some, endsI, ends, finI, finV, ofO_some, ofO_none, flt_true, isoL, hl, kCatL, at0, kNeD, e1, hz]
    rintro _ ⟨o9, o11, rfl⟩
    refine ev_seq (fun e => ∃ o9 o11, e = [.fr (.scr ns), .ow d2', .fr (.lst (xs.map .int)), .fr (.lst (ys.map .int)), .fr (mod xs), .fr (mod ys), .fr (mod (gcds xs ys)), .fr (mod (tops xs ++ tops ys)), .fr (.lst ((here xs).map .int)), o9, .ow (.lst ((here ys).map .int)), o11, .fr (.tup ((tops xs).map .int)), .no, .no, .ow (.lst ((rg.filter fun n => !decide (n ∈ here xs)).map .int)), .ow (.lst odds)]) ?_ ?_
    · simp [ap_bin2, ap_un1, ap_eVar, ap_eC, ap_eAdd, ap_eSub, ap_eMul, ap_eDiv, ap_eMod, ap_eModN, ap_ePow, ap_eNeg, ap_tst, ap_eLt, ap_eLe, ap_eGt, ap_eGe, ap_eEq, ap_eNe, ap_eIs, ap_eIsNot, ap_tAn, ap_tO, ap_tNo, ap_eAn, ap_eO, ap_eNo, ap_eIf, ap_tTr, ap_eOT, ap_asg, ap_sNx, ap_sAsg, ap_sDrop, ap_sRet, ap_sRetN, ap_sIf, ap_bTup, ap_bLst, ap_aNil, ap_aCons, ap_eCall, ap_eCallI, ap_eMeth, ap_eMethI, ap_eMake, ap_eFnA, ap_eFld, ap_sFldM, ap_sFldA, ap_eIx, ap_eDGet, ap_eDIn, ap_eDNotIn, ap_eDGet2, ap_sAug, ap_sPar, ap_sPar3, ap_sPut, ap_eApp, ap_ePop, ap_eTup, ap_eLst, ap_eDNK, ap_eDNT, ap_eCatS, ap_eCatL, ap_eCatT, ap_eRepL, ap_eIn, ap_eNotIn, ap_eInS, ap_eNotInS, ap_eEqD, ap_eNeD, ap_oNo, ap_oAt, ap_eSl, ap_eRev, ap_iL, ap_iT, ap_iR1, ap_iR2, ap_iR3, ap_iEn, ap_iZp, ap_iS, ap_tYs, ap_sRaise, ap_eIsi, ap_eOwn, ap_eOwnIn, ap_eOwnNeg, ap_sTry, ap_eDisp, f1, f2, n1, n2, fA, nA, d1, d2, kI, kMul, kDiv, kMod, kModN, kPow, kNeg, kB, kEq, scV, scal_int, dci, kIs, kIsNot, MM.isNon, kTru, P.frz, P.vw, P.fz, frzs, vws, outV, outI, outK, asL, asT, kLen, kAbs, kInt, kMax2, kMin2, kList, kTuple, kFld, kIx, MM.putAt, kIsi, tagOf, noE, ownF, inF, rgOk, wipeE, restE, frOnly, ev_ok, ev_bnd, ↓bnd_of, bnd_ok, bnd_err, bnd_stuck, ev_ofO, evo_some, endsI, ends, finI, finV, ofO_some, ofO_none, flt_true, dispD, mergeD, keyOf, dput, odds]
    rintro _ ⟨o9, o11, rfl⟩
    obtain ⟨q, d3, hq, q0, q1, hd3⟩ := R_draw (N := 300) hd2 (k := 8) (by decide) (by decide +kernel)
    have ol : odds.length = 8 := rfl
    have hq1 : q.toNat < odds.length := by rw [ol]; omega
    have e1 : atI odds q = some odds[q.toNat] := by rw [atI_nat q0]; simp [hq1]
    have hb2 := R_bad (N := 300) _ (List.getElem_mem hq1)
    simp [ap_bin2, ap_un1, ap_eVar, ap_eC, ap_eAdd, ap_eSub, ap_eMul, ap_eDiv, ap_eMod, ap_eModN, ap_ePow, ap_eNeg, ap_tst, ap_eLt, ap_eLe, ap_eGt, ap_eGe, ap_eEq, ap_eNe, ap_eIs, ap_eIsNot, ap_tAn, ap_tO, ap_tNo, ap_eAn, ap_eO, ap_eNo, ap_eIf, ap_tTr, ap_eOT, ap_asg, ap_sNx, ap_sAsg, ap_sDrop, ap_sRet, ap_sRetN, ap_sIf, ap_bTup, ap_bLst, ap_aNil, ap_aCons, ap_eCall, ap_eCallI, ap_eMeth, ap_eMethI, ap_eMake, ap_eFnA, ap_eFld, ap_sFldM, ap_sFldA, ap_eIx, ap_eDGet, ap_eDIn, ap_eDNotIn, ap_eDGet2, ap_sAug, ap_sPar, ap_sPar3, ap_sPut, ap_eApp, ap_ePop, ap_eTup, ap_eLst, ap_eDNK, ap_eDNT, ap_eCatS, ap_eCatL, ap_eCatT, ap_eRepL, ap_eIn, ap_eNotIn, ap_eInS, ap_eNotInS, ap_eEqD, ap_eNeD, ap_oNo, ap_oAt, ap_eSl, ap_eRev, ap_iL, ap_iT, ap_iR1, ap_iR2, ap_iR3, ap_iEn, ap_iZp, ap_iS, ap_tYs, ap_sRaise, ap_eIsi, ap_eOwn, ap_eOwnIn, ap_eOwnNeg, ap_sTry, ap_eDisp, f1, f2, n1, n2, fA, nA, d1, d2, kI, kMul, kDiv, kMod, kModN, kPow, kNeg, kB, kEq, scV, scal_int, dci, kIs, kIsNot, MM.isNon, kTru, P.frz, P.vw, P.fz, frzs, vws, outV, outI, outK, asL, asT, kLen, kAbs, kInt, kMax2, kMin2, kList, kTuple, kFld, kIx, MM.putAt, kIsi, tagOf, noE, ownF, inF, rgOk, wipeE, restE, frOnly, ev_ok, ev_bnd, ↓bnd_of, bnd_ok, bnd_err, bnd_stuck, ev_ofO, evo_some, endsI, ends, finI, finV, ofO_some, ofO_none, flt_true, ol, hq, e1, hb2]).out
  exact h
end Ak02

set_option maxHeartbeats 0
open PySem PySem.W PySem.Calls PyProof.Rows
theorem PySem.Challenge.cw_anymodulus_k02_whole_lots_of_moduli_holds : PySem.Challenge.rw_anymodulus_k02_whole_lots_of_moduli.Holds := by
  w_on; o_law
  refine HandSHeadRun.head_any (r := OpenLaw.row PySem.Challenge.rw_anymodulus_k02_whole_lots_of_moduli) (q := view (OpenLaw.row PySem.Challenge.rw_anymodulus_k02_whole_lots_of_moduli).prog [17]) (H := Ak02.hk) (ob := Ak02.ob) (M := 3000) (loose := Ak02.loose) (d := HandSHeadRun.topDef (OpenLaw.row PySem.Challenge.rw_anymodulus_k02_whole_lots_of_moduli).prog 17) (kwd := []) Ak02.ob_eq
    (by kernel_rfl) (fun s => by kernel_rfl) Ak02.run (by kernel_rfl) (by kernel_rfl) (by kernel_rfl) (by rfl) (by first | assumption | decide +kernel) (by decide +kernel) ⟨rfl, rfl, rfl, rfl, rfl, by decide +kernel⟩ ?hw ?hc
  case hw => w_witness2
  case hc =>
    refine MM.walk_end (l := PySem.Challenge.rw_anymodulus_k02_whole_lots_of_moduli) (n := 63) (k := 6) (x := "_law_script") (mf := Ak02.r_law) rfl (by decide) (by kernel_rfl) ⟨rfl, by decide, by decide⟩ ?F Ak02.says
    intro K w mg h X c G
    have e : (HandSHeadRun.topDef (OpenLaw.row PySem.Challenge.rw_anymodulus_k02_whole_lots_of_moduli).prog 17).name = ("law" : PySem.Str) := by kernel_rfl
    rw [e]
    exact Ak02.go K w mg h X c G
