import PyProof.Rows.All
import Wide.All
import OpenK.AllK
import Wide.FinOn
import PyProof.EqAt
import PyProof.EqKinds
import PyProof.TupleCall
import KE.KStateDown
import Lean
import HandS.Base
import HandS.Call
import HandS.List
import HandS.Comp
import HandS.Ends
import HandS.Dict
import HandS.Iter
import HandS.Text
import HandS.Walk
import HandS.Zip
import HandS.Conv
import HandS.Style
import HandS.TupAny
import HandS.TupMul
import HandS.NoneIn
import HandS.DictComp
import HandS.IsInst
import HandS.Wide
import HandS.WideBits
import HandS.Gcd
import HandS.Flow
import HandS.Exc
import HandS.ExcOwn
import HandS.ExcInit
import HandS.CallSlots
import HandS.CallLocal
import HandS.SortInts
import HandS.Words
import HandS.WordsList
import HandS.WordsExc
import HandS.Defaults
import HandS.Head0
import HandS.Head1
import HandS.Head2
import HandS.Head3
import HandS.HeadEnd
import HandS.HeadHook1
import HandS.HeadHook2
import HandS.TryMany
import HandS.ExcIs
import KE.KExcIs
import KE.GoesEnum
import KE.GoesZip
import KE.GoesMore
import HandS.HeadHook4
import KE.BitLaws
import KE.OsArith
import PySem.Challenge.RW_jointshares_k05_whole_tables_from_pairs
set_option Elab.async false
set_option linter.all false
set_option maxRecDepth 100000
set_option maxHeartbeats 0
namespace RF
open PySem PySem.Spec PyProof.Rows L2
/-- values as trees; cell: a list that is changed in place, by its address -/
inductive D where
  | non | bl (b : Bool) | int (i : Int) | str (x : Str)
  | tup (xs : List D) | lst (xs : List D) | dct (ks : List Key) (xs : List D)
  | scr (xs : List D) | cell (a : Addr) | fn (x : Str) | rng (a b : Int)
/-- what stands in a cell -/
inductive Cell where
  | lst (xs : List D)
abbrev Mem := Addr → Option Cell
abbrev Bad := Addr → Prop
def Mem.set (M : Mem) (a : Addr) (c : Cell) : Mem := fun b => if b = a then some c else M b
def Mem.del (M : Mem) (a : Addr) : Mem := fun b => if b = a then none else M b
theorem Mem.set_same {M : Mem} {a : Addr} {c : Cell} : M.set a c a = some c := if_pos rfl
theorem Mem.set_ne {M : Mem} {a b : Addr} {c : Cell} (h : b ≠ a) : M.set a c b = M b := if_neg h
theorem Mem.del_same {M : Mem} {a : Addr} : M.del a a = none := if_pos rfl
theorem Mem.del_ne {M : Mem} {a b : Addr} (h : b ≠ a) : M.del a b = M b := if_neg h
/-- fewer cells -/
def Sub (M M' : Mem) : Prop := ∀ a c, M a = some c → M' a = some c
theorem Sub.refl (M : Mem) : Sub M M := fun _ _ h => h
theorem Sub.trans {M M1 M2 : Mem} (h : Sub M M1) (h' : Sub M1 M2) : Sub M M2 := fun a c e => h' a c (h a c e)
theorem Sub.set {M M' : Mem} {p : Addr} {c : Cell} (h : Sub M M') (n : M p = none) : Sub M (M'.set p c) := fun a d e => by
  have : a ≠ p := fun z => by subst z; rw [n] at e; cases e
  rw [Mem.set_ne this]; exact h a d e
theorem Sub.del {M M' : Mem} {p : Addr} (h : Sub M M') (n : M p = none) : Sub M (M'.del p) := fun a d e => by
  have : a ≠ p := fun z => by subst z; rw [n] at e; cases e
  rw [Mem.del_ne this]; exact h a d e
section
variable (K : PySem.W.Frag)
/-- what may be read at a and is not changed by others -/
def RdF (H : Hp) (M : Mem) (B : Bad) (a : Addr) (u : HO) : Prop := H a = some u ∧ M a = none ∧ ¬ B a
def FrF (H : Hp) (M : Mem) (a : Addr) (u : HO) : Prop := (∃ o, H a = some (.frz o u)) ∧ M a = none
mutual
def Rep (H : Hp) (M : Mem) (B : Bad) : D → V → Prop
  | .non, v => v = .non
  | .bl b, v => v = .bl b
  | .int i, v => v = .int i
  | .str x, v => v = .str x
  | .tup xs, v => ∃ a vs, v = .ref a ∧ (RdF H M B a (.tup vs) ∨ SqT K (fun _ => none) a vs) ∧ xs.length ≤ sizeLine ∧ Reps H M B xs vs
  | .lst xs, v => ∃ a vs, v = .ref a ∧ RdF H M B a (.lst vs) ∧ xs.length ≤ sizeLine ∧ Reps H M B xs vs
  | .dct ks xs, v => ∃ a vs, v = .ref a ∧ RdF H M B a (.dK (ks.zip vs)) ∧ ks.length = vs.length ∧ xs.length ≤ sizeLine ∧ Reps H M B xs vs
  | .scr xs, v => ∃ a vs, v = .ref a ∧ (FrF H M a (.lst vs) ∨ SqL K (fun _ => none) a vs) ∧ xs.length ≤ sizeLine ∧ Reps H M B xs vs
  | .cell a, v => v = .ref a
  | .fn x, v => v = .ref (He.ga K x)
  | .rng a b, v => ∃ p, v = .ref p ∧ RdF H M B p (.rng a b)
def Reps (H : Hp) (M : Mem) (B : Bad) : List D → List V → Prop
  | [], vs => vs = []
  | d :: ds, vs => ∃ v r, vs = v :: r ∧ Rep H M B d v ∧ Reps H M B ds r
end
end
section
variable {K : PySem.W.Frag} {H H' H1 : Hp} {M M' M1 : Mem} {B B' : Bad} {a : Addr} {d : D} {v : V} {ds : List D} {vs : List V}
theorem Reps.length : ∀ {ds : List D} {vs : List V}, Reps K H M B ds vs → ds.length = vs.length
  | [], vs, h => by have e : vs = [] := h; subst e; rfl
  | d :: ds, vs, h => by
    obtain ⟨v, r, e, _, h2⟩ := h
    subst e
    rw [List.length_cons, List.length_cons, Reps.length h2]
theorem SqT.none_seq {H : Hp} {a : Addr} {vs : List V} (h : SqT K (fun _ => none) a vs) : SqT K H a vs := by
  rcases h with h | h
  · rcases h with h | ⟨_, h⟩ <;> cases h
  · exact .inr h
theorem SqL.none_seq {H : Hp} {a : Addr} {vs : List V} (h : SqL K (fun _ => none) a vs) : SqL K H a vs := by
  rcases h with h | h
  · rcases h with h | ⟨_, h⟩ <;> cases h
  · exact .inr h
theorem tupF {xs : List D} {v : V} (h : Rep K H M B (.tup xs) v) : ∃ a vs, v = .ref a ∧ SqT K H a vs ∧ xs.length ≤ sizeLine ∧ Reps K H M B xs vs := by
  obtain ⟨a, vs, e, h, z, r⟩ := h
  refine ⟨a, vs, e, ?_, z, r⟩
  rcases h with h | h
  · exact .inl (.inl h.1)
  · exact SqT.none_seq h
theorem lstF {xs : List D} {v : V} (h : Rep K H M B (.lst xs) v) : ∃ a vs, v = .ref a ∧ H a = some (.lst vs) ∧ xs.length ≤ sizeLine ∧ Reps K H M B xs vs := by
  obtain ⟨a, vs, e, h, z, r⟩ := h
  exact ⟨a, vs, e, h.1, z, r⟩
theorem scrF {xs : List D} {v : V} (h : Rep K H M B (.scr xs) v) : ∃ a vs, v = .ref a ∧ SqL K H a vs ∧ xs.length ≤ sizeLine ∧ Reps K H M B xs vs := by
  obtain ⟨a, vs, e, h, z, r⟩ := h
  refine ⟨a, vs, e, ?_, z, r⟩
  rcases h with ⟨⟨o, h⟩, _⟩ | h
  · exact .inl (.inr ⟨o, h⟩)
  · exact SqL.none_seq h
/-- objects that nobody changes are carried over -/
def Mv (H : Hp) (M : Mem) (B : Bad) (H' : Hp) (M' : Mem) (B' : Bad) : Prop := ∀ a o, H a = some o → M a = none → ¬ B a → H' a = some o ∧ M' a = none ∧ ¬ B' a
def FrOk (H : Hp) (B : Bad) : Prop := ∀ a o u, H a = some (.frz o u) → ¬ B a
mutual
theorem Rep.mv (f : FrOk H B) (m : Mv H M B H' M' B') : ∀ {d : D} {v : V}, Rep K H M B d v → Rep K H' M' B' d v
  | .non, _, h => h
  | .bl _, _, h => h
  | .int _, _, h => h
  | .str _, _, h => h
  | .cell _, _, h => h
  | .fn _, _, h => h
  | .rng _ _, _, h => by
    obtain ⟨p, e, h⟩ := h
    exact ⟨p, e, m _ _ h.1 h.2.1 h.2.2⟩
  | .tup xs, _, h => by
    obtain ⟨a, vs, e, h, z, r⟩ := h
    refine ⟨a, vs, e, ?_, z, Reps.mv f m r⟩
    rcases h with h | h
    · exact .inl (m _ _ h.1 h.2.1 h.2.2)
    · exact .inr h
  | .lst xs, _, h => by
    obtain ⟨a, vs, e, h, z, r⟩ := h
    exact ⟨a, vs, e, m _ _ h.1 h.2.1 h.2.2, z, Reps.mv f m r⟩
  | .dct ks xs, _, h => by
    obtain ⟨a, vs, e, h, l, z, r⟩ := h
    exact ⟨a, vs, e, m _ _ h.1 h.2.1 h.2.2, l, z, Reps.mv f m r⟩
  | .scr xs, _, h => by
    obtain ⟨a, vs, e, h, z, r⟩ := h
    refine ⟨a, vs, e, ?_, z, Reps.mv f m r⟩
    rcases h with ⟨⟨o, h⟩, n⟩ | h
    · obtain ⟨q1, q2, _⟩ := m _ _ h n (f _ _ _ h)
      exact .inl ⟨⟨o, q1⟩, q2⟩
    · exact .inr h
theorem Reps.mv (f : FrOk H B) (m : Mv H M B H' M' B') : ∀ {ds : List D} {vs : List V}, Reps K H M B ds vs → Reps K H' M' B' ds vs
  | [], _, h => h
  | d :: ds, _, h => by
    obtain ⟨v, r, e, h1, h2⟩ := h
    exact ⟨v, r, e, Rep.mv f m h1, Reps.mv f m h2⟩
end
theorem Reps.get : ∀ {ds : List D} {vs : List V} {i : Nat} {d : D}, Reps K H M B ds vs → ds[i]? = some d → ∃ v, vs[i]? = some v ∧ Rep K H M B d v
  | [], _, _, _, _, e => by simp at e
  | d :: ds, _, 0, _, h, e => by
    obtain ⟨v, r, rfl, h1, h2⟩ := h
    simp at e; subst e
    exact ⟨v, rfl, h1⟩
  | d :: ds, _, i + 1, _, h, e => by
    obtain ⟨v, r, rfl, h1, h2⟩ := h
    obtain ⟨v', e1, h3⟩ := Reps.get (i := i) h2 (by simpa using e)
    exact ⟨v', by simpa using e1, h3⟩
theorem Reps.get' : ∀ {ds : List D} {vs : List V} {i : Nat} {v : V}, Reps K H M B ds vs → vs[i]? = some v → ∃ d, ds[i]? = some d ∧ Rep K H M B d v
  | [], _, _, _, h, e => by have h : _ = [] := h; subst h; simp at e
  | d :: ds, _, 0, _, h, e => by
    obtain ⟨v, r, rfl, h1, h2⟩ := h
    simp at e; subst e
    exact ⟨d, rfl, h1⟩
  | d :: ds, _, i + 1, _, h, e => by
    obtain ⟨v, r, rfl, h1, h2⟩ := h
    obtain ⟨v', e1, h3⟩ := Reps.get' (i := i) h2 (by simpa using e)
    exact ⟨v', by simpa using e1, h3⟩
theorem Reps.append : ∀ {ds es : List D} {vs ws : List V}, Reps K H M B ds vs → Reps K H M B es ws → Reps K H M B (ds ++ es) (vs ++ ws)
  | [], _, _, _, h, h' => by have h : _ = [] := h; subst h; exact h'
  | d :: ds, _, _, _, h, h' => by
    obtain ⟨v, r, rfl, h1, h2⟩ := h
    exact ⟨v, r ++ _, rfl, h1, Reps.append h2 h'⟩
theorem Reps.take : ∀ {ds : List D} {vs : List V} (n : Nat), Reps K H M B ds vs → Reps K H M B (ds.take n) (vs.take n)
  | _, _, 0, _ => rfl
  | [], _, n + 1, h => by have h : _ = [] := h; subst h; rfl
  | d :: ds, _, n + 1, h => by
    obtain ⟨v, r, rfl, h1, h2⟩ := h
    exact ⟨v, r.take n, rfl, h1, Reps.take n h2⟩
theorem Reps.drop : ∀ {ds : List D} {vs : List V} (n : Nat), Reps K H M B ds vs → Reps K H M B (ds.drop n) (vs.drop n)
  | _, _, 0, h => h
  | [], _, n + 1, h => by have h : _ = [] := h; subst h; rfl
  | d :: ds, _, n + 1, h => by
    obtain ⟨v, r, rfl, h1, h2⟩ := h
    exact Reps.drop n h2
theorem Reps.rev {ds : List D} {vs : List V} (h : Reps K H M B ds vs) : Reps K H M B ds.reverse vs.reverse := by
  induction ds generalizing vs with
  | nil => have h : vs = [] := h; subst h; exact rfl
  | cons d ds ih =>
    obtain ⟨v, r, rfl, h1, h2⟩ := h
    rw [List.reverse_cons, List.reverse_cons]
    exact (ih h2).append ⟨v, [], rfl, h1, rfl⟩
theorem Reps.rep {ds : List D} {vs : List V} (h : Reps K H M B ds vs) : ∀ k : Nat, Reps K H M B (List.replicate k ds).flatten (List.replicate k vs).flatten
  | 0 => rfl
  | k + 1 => by
    rw [List.replicate_succ, List.replicate_succ, List.flatten_cons, List.flatten_cons]
    exact h.append (Reps.rep h k)
theorem Reps.setAt : ∀ {ds : List D} {vs : List V} (i : Nat), Reps K H M B ds vs → Rep K H M B d v → Reps K H M B (ds.set i d) (vs.set i v)
  | [], _, _, h, _ => by have h : _ = [] := h; subst h; rfl
  | _ :: _, _, 0, h, q => by
    obtain ⟨v', r, rfl, _, h2⟩ := h
    exact ⟨_, r, rfl, q, h2⟩
  | _ :: _, _, i + 1, h, q => by
    obtain ⟨v', r, rfl, h1, h2⟩ := h
    exact ⟨v', _, rfl, h1, Reps.setAt i h2 q⟩
theorem Reps.mapInt : ∀ {ns : List Int}, Reps K H M B (ns.map D.int) (ns.map V.int)
  | [] => rfl
  | n :: ns => ⟨_, _, rfl, rfl, Reps.mapInt⟩
theorem Reps.ints : ∀ {ns : List Int} {vs : List V}, Reps K H M B (ns.map D.int) vs → vs = ns.map V.int
  | [], _, h => h
  | n :: ns, _, h => by
    obtain ⟨v, r, rfl, h1, h2⟩ := h
    have h1 : v = .int n := h1
    rw [h1, Reps.ints h2]; rfl
theorem Reps.bls : ∀ {ns : List Bool} {vs : List V}, Reps K H M B (ns.map D.bl) vs → vs = ns.map V.bl
  | [], _, h => h
  | n :: ns, _, h => by
    obtain ⟨v, r, rfl, h1, h2⟩ := h
    have h1 : v = .bl n := h1
    rw [h1, Reps.bls h2]; rfl
/-! ### the state -/
def CellOk (K : PySem.W.Frag) (H : Hp) (M : Mem) (B : Bad) (a : Addr) : Cell → Prop
  | .lst xs => ∃ vs, H a = some (.lst vs) ∧ xs.length ≤ sizeLine ∧ Reps K H M B xs vs
/-- B: addresses that are being changed by somebody around -/
structure Good (K : PySem.W.Frag) (H : Hp) (M : Mem) (B : Bad) : Prop where
  bad : ∀ a, B a → M a = none ∧ ∃ o, H a = some o ∧ ∀ ob u, o ≠ .frz ob u
  cel : ∀ a c, M a = some c → CellOk K H M B a c
theorem Good.frok (g : Good K H M B) : FrOk H B := fun a o u e b => by
  obtain ⟨_, o', e', n⟩ := g.bad a b
  rw [e] at e'; cases e'
  exact n _ _ rfl
/-- what came about by running code: what stood and was no cell stands -/
def Ext (H : Hp) (M : Mem) (H' : Hp) (M' : Mem) : Prop := ∀ a o, H a = some o → M a = none → H' a = some o ∧ M' a = none
theorem Ext.refl (H : Hp) (M : Mem) : Ext H M H M := fun _ _ h n => ⟨h, n⟩
theorem Ext.trans {H2 : Hp} {M2 : Mem} (e : Ext H M H1 M1) (e' : Ext H1 M1 H2 M2) : Ext H M H2 M2 := fun a o h n => by
  obtain ⟨h1, n1⟩ := e a o h n
  exact e' a o h1 n1
theorem Ext.mv (e : Ext H M H' M') : Mv H M B H' M' B := fun a o h n b => ⟨(e a o h n).1, (e a o h n).2, b⟩
theorem Rep.ext (g : Good K H M B) (e : Ext H M H' M') (h : Rep K H M B d v) : Rep K H' M' B d v := Rep.mv g.frok e.mv h
theorem Reps.ext (g : Good K H M B) (e : Ext H M H' M') (h : Reps K H M B ds vs) : Reps K H' M' B ds vs := Reps.mv g.frok e.mv h
theorem Good.none_of (g : Good K H M B) (h : H a = none) : M a = none ∧ ¬ B a := by
  refine ⟨?_, fun b => ?_⟩
  · cases e : M a with
    | none => rfl
    | some c =>
      cases c with
      | lst xs =>
        obtain ⟨vs, e2, _⟩ := g.cel a _ e
        rw [h] at e2; cases e2
  · obtain ⟨_, o, e, _⟩ := g.bad a b
    rw [h] at e; cases e
/-- a new object -/
theorem Ext.new {p : Addr} {o : HO} (g : Good K H M B) (hp : H p = none) : Ext H M (upd H p o) M := fun a u e n => ⟨by rw [upd_ne (ne_of_none e hp)]; exact e, n⟩
theorem Good.new {p : Addr} {o : HO} (g : Good K H M B) (hp : H p = none) : Good K (upd H p o) M B where
  bad := fun a b => by
    obtain ⟨h1, o', e, n⟩ := g.bad a b
    exact ⟨h1, o', by rw [upd_ne (ne_of_none e hp)]; exact e, n⟩
  cel := fun a c e => by
    have z := g.cel a c e
    cases c with
    | lst xs =>
      obtain ⟨vs, e2, z2, r⟩ := z
      exact ⟨vs, by rw [upd_ne (ne_of_none e2 hp)]; exact e2, z2, r.ext g (Ext.new g hp)⟩
/-- a new list that will be changed -/
theorem Ext.newC {p : Addr} {o : HO} {c : Cell} (hp : H p = none) : Ext H M (upd H p o) (M.set p c) := fun a u e n => by
  have ne : a ≠ p := ne_of_none e hp
  exact ⟨by rw [upd_ne ne]; exact e, by rw [Mem.set_ne ne]; exact n⟩
theorem Good.newC {p : Addr} {xs : List D} (g : Good K H M B) (hp : H p = none) (r : Reps K H M B xs vs) (z : xs.length ≤ sizeLine) : Good K (upd H p (.lst vs)) (M.set p (.lst xs)) B where
  bad := fun a b => by
    obtain ⟨h1, o', e, n⟩ := g.bad a b
    have ne : a ≠ p := ne_of_none e hp
    exact ⟨by rw [Mem.set_ne ne]; exact h1, o', by rw [upd_ne ne]; exact e, n⟩
  cel := fun a c e => by
    by_cases h : a = p
    · subst h
      rw [Mem.set_same] at e; cases e
      exact ⟨vs, upd_same, z, r.ext g (Ext.newC hp)⟩
    · rw [Mem.set_ne h] at e
      have q := g.cel a c e
      cases c with
      | lst ys =>
        obtain ⟨ws, e2, z2, r2⟩ := q
        exact ⟨ws, by rw [upd_ne h]; exact e2, z2, r2.ext g (Ext.newC hp)⟩
/-- a cell is changed -/
theorem Ext.setC {o : HO} {c c' : Cell} (e : M a = some c) : Ext H M (upd H a o) (M.set a c') := fun b u h n => by
  have ne : b ≠ a := fun z => by subst z; rw [e] at n; cases n
  exact ⟨by rw [upd_ne ne]; exact h, by rw [Mem.set_ne ne]; exact n⟩
theorem Good.setC {xs ys : List D} (g : Good K H M B) (e : M a = some (.lst xs)) (r : Reps K H M B ys vs) (z : ys.length ≤ sizeLine) : Good K (upd H a (.lst vs)) (M.set a (.lst ys)) B where
  bad := fun b hb => by
    obtain ⟨h1, o', e', n⟩ := g.bad b hb
    have ne : b ≠ a := fun z => by subst z; rw [e] at h1; cases h1
    exact ⟨by rw [Mem.set_ne ne]; exact h1, o', by rw [upd_ne ne]; exact e', n⟩
  cel := fun b c e' => by
    by_cases h : b = a
    · subst h
      rw [Mem.set_same] at e'; cases e'
      exact ⟨vs, upd_same, z, r.ext g (Ext.setC e)⟩
    · rw [Mem.set_ne h] at e'
      have q := g.cel b c e'
      cases c with
      | lst ys =>
        obtain ⟨ws, e2, z2, r2⟩ := q
        exact ⟨ws, by rw [upd_ne h]; exact e2, z2, r2.ext g (Ext.setC e)⟩
/-- cells are let go: they stand as they are from now on -/
theorem Ext.sub (s : Sub M' M) : Ext H M H M' := fun a o h n => ⟨h, by
  cases e : M' a with
  | none => rfl
  | some c => rw [s a c e] at n; cases n⟩
theorem Good.sub (g : Good K H M B) (s : Sub M' M) : Good K H M' B where
  bad := fun a b => ⟨(Ext.sub (H := H) s a _ (g.bad a b).2.choose_spec.1 (g.bad a b).1).2, (g.bad a b).2⟩
  cel := fun a c e => by
    have q := g.cel a c (s a c e)
    cases c with
    | lst ys =>
      obtain ⟨ws, e2, z2, r2⟩ := q
      exact ⟨ws, e2, z2, r2.ext g (Ext.sub s)⟩
theorem Sub.del_self {M : Mem} {a : Addr} : Sub (M.del a) M := fun b c e => by
  by_cases h : b = a
  · subst h; rw [Mem.del_same] at e; cases e
  · rw [Mem.del_ne h] at e; exact e
theorem Rep.freeze {xs : List D} (g : Good K H M B) (e : M a = some (.lst xs)) : Rep K H (M.del a) B (.lst xs) (.ref a) := by
  obtain ⟨vs, h, z, r⟩ := g.cel a _ e
  refine ⟨a, vs, rfl, ⟨h, Mem.del_same, fun b => ?_⟩, z, r.ext g (Ext.sub Sub.del_self)⟩
  rw [(g.bad a b).1] at e; cases e
end
end RF
namespace RF
open PySem PySem.Spec PyProof.Rows L2
/-! heights: what the walk goes through stands higher than where it stops -/
def hgt0 : Nat := 0
def hgt1 : Nat := hgt0
def hgt2 : Nat := hgt1
def hgt3 : Nat := hgt2
def hgt4 : Nat := hgt3
def hgt5 : Nat := hgt4
def hgt6 : Nat := hgt5
def hgt7 : Nat := hgt6
def hgt8 : Nat := hgt7
def hgt9 : Nat := hgt8
def hgt10 : Nat := hgt9
def hgt11 : Nat := hgt10
def hgt12 : Nat := hgt11
def hgt13 : Nat := hgt12
def hgt14 : Nat := hgt13
def hgt15 : Nat := hgt14
def hgt16 : Nat := hgt15
def hgt17 : Nat := hgt16
def hgt18 : Nat := hgt17
def hgt19 : Nat := hgt18
def hgt20 : Nat := hgt19
def hgt21 : Nat := hgt20
def hgt22 : Nat := hgt21
def hgt23 : Nat := hgt22
def hgt24 : Nat := hgt23
def hgt25 : Nat := hgt24
def hgt26 : Nat := hgt25
def hgt27 : Nat := hgt26
def hgt28 : Nat := hgt27
def hgt29 : Nat := hgt28
def hgt30 : Nat := hgt29
def hgt31 : Nat := hgt30
def hgt32 : Nat := hgt31
def hgt33 : Nat := hgt32
def hgt34 : Nat := hgt33
def hgt35 : Nat := hgt34
def hgt36 : Nat := hgt35
def hgt37 : Nat := hgt36
def hgt38 : Nat := hgt37
def hgt39 : Nat := hgt38
def hgt40 : Nat := hgt39
/-! ### small expressions -/
inductive BT where | int | bool | str | tuple | list | dict
  deriving DecidableEq
inductive Bi where
  | len | isI (t : BT) | isI2 (t u : BT) | int1 | abs | max2 | min2 | max1 | min1 | divmod | tupleOf | listOf | sum | all | any | gcd | range | enum | zip | listRg | tupleRg | sorted | rangeV | repr
  deriving DecidableEq
/-- methods of built-in types -/
inductive Mt where
  | dget
  deriving DecidableEq
inductive Tg where
  | nm (i : Nat) | tup (ts : List Tg)
inductive CE where
  | var (i : Nat) | lit (d : D) | gl (x : Str) (d : D)
  | tup (es : List CE) | lst (live : Bool) (es : List CE)
  | bop (op : Operator) (a b : CE) | neg (a : CE) | not (a : CE)
  | cmp (op : CmpOp) (a b : CE) | chn (op op' : CmpOp) (a b c : CE)
  | and (es : List CE) | or (es : List CE) | ifx (c a b : CE)
  | call (f : Nat) (es : List CE)
  | callK (f : Nat) (es : List CE) (ks : List Str) (kes : List CE) (perm : List Nat)
  | bi (b : Bi) (es : List CE)
  | ix (a b : CE) | sl (a : CE) (lo hi : List CE) | slr (a : CE)
  | lc (own : List (Str × Nat)) (tg : Tg) (it : CE) (ifs : List CE) (elt : CE)
  | frz (e : CE)
  | nev
  | bits (a : CE)
  | live (e : CE)
  | lc2 (own : List (Str × Nat)) (tg : Tg) (it : CE) (ifs : List CE) (vs1 : List Nat) (tg1 : Tg) (it1 : CE) (ifs1 : List CE) (elt : CE)
  | dctE
  | gfn (x : Str)
  | mth (l : Bool) (a b : CE)
  | callL (i : Nat) (es : List CE) (cs : List (Str × Nat))
  | sls (a : CE) (lo : List CE) (k : Nat)
  | fdn (a b : CE)
  | excIs (i : Nat) (x : Str) (cs : List Nat)
  | excAt (i : Nat) (cs : List Nat)
  | dc (own : List (Str × Nat)) (tg : Tg) (it : CE) (ifs : List CE) (ke ve : CE)
  | mt (m : Mt) (o : CE) (es : List CE)
inductive TgS where
  | nm (i : Nat) | sub (o : Nat) (i : CE)
inductive CS where
  | expr (e : CE) | asg (i : Nat) (e : CE) | asgT (t : Tg) (e : CE) | par (is : List Nat) (es : List CE)
  | setix (o i e : CE) | asgM (ts : List TgS) (e : CE)
  | append (o e : CE)
  | ret (e : CE) | iff (c : CE) (a b : List CS) | for_ (t : Tg) (it : CE) (body : List CS)
  | while_ (c : CE) (body : List CS) | brk | cont | pass | never
  | gfrz (i : Nat)
  | raise_ (c : Nat) (e : CE)
  | raise0 (c : Nat)
  | tryAs (i : Nat) (x : Str) (cs : List Nat) (body handler : List CS)
/-! ### what they do -/
structure XD where
  cls : Nat
  val : Option D
abbrev QD := D → Mem → Prop
abbrev QL := List D → Mem → Prop
abbrev XQ := XD → Mem → Prop
abbrev Spec := List D → Mem → XQ → QD → Prop
abbrev DEnv := List (Option D)
@[reducible] def getD' : DEnv → Nat → Option D
  | [], _ => none
  | x :: _, 0 => x
  | _ :: r, n + 1 => getD' r n
@[reducible] def withV (o : Option D) (k : D → Prop) : Prop := match o with
  | some d => k d
  | none => (fun _ : Nat => False) hgt40
@[reducible] def setO : DEnv → Nat → Option D → DEnv
  | [], _, _ => []
  | _ :: r, 0, o => o :: r
  | x :: r, n + 1, o => x :: setO r n o
theorem setO_eq : ∀ (ρ : DEnv) (i : Nat) (o : Option D), setO ρ i o = ρ.set i o
  | [], _, _ => rfl
  | _ :: _, 0, _ => rfl
  | x :: r, n + 1, o => congrArg (x :: ·) (setO_eq r n o)
@[reducible] def setD' (ρ : DEnv) (i : Nat) (d : D) : DEnv := setO ρ i (some d)
@[reducible] def wipeD (ρ : DEnv) : List Nat → DEnv
  | [] => ρ
  | v :: vs => setO (wipeD ρ vs) v none
@[reducible] def snds : List (Str × Nat) → List Nat
  | [] => []
  | p :: r => p.2 :: snds r
theorem snds_eq : ∀ own : List (Str × Nat), snds own = own.map (·.2)
  | [] => rfl
  | p :: r => congrArg (p.2 :: ·) (snds_eq r)
/-- within an except clause nothing is raised: what stands in for it tells the exception that is held, at a -/
def addrM (a : Addr) : Mem := fun b => if b = a then some (.lst []) else none
def curX (a : Addr) (xd : XD) : XQ := fun x M => x = xd ∧ M = addrM a
theorem curX_inj {a b : Addr} {x y : XD} (h : curX a x = curX b y) : a = b ∧ x = y := by
  have h1 : curX b y x (addrM a) := by rw [← h]; exact ⟨rfl, rfl⟩
  obtain ⟨h1, h2⟩ := h1
  refine ⟨?_, h1⟩
  have h3 := congrFun h2 a
  unfold addrM at h3
  rw [if_pos rfl] at h3
  by_cases e : a = b
  · exact e
  · rw [if_neg e] at h3; cases h3
def curP (X : XQ) (a : Addr) (k : XD → Prop) : Prop := ∃ xd, X = curX a xd ∧ k xd
theorem curP_of {a : Addr} {xd : XD} {k : XD → Prop} (h : k xd) : curP (curX a xd) a k := ⟨xd, rfl, h⟩
def valP (o : Option D) (k : D → Prop) : Prop := match o with
  | some d => k d
  | none => False
@[reducible] def excD (d : D) (X : XQ) (k : XD → Prop) : Prop := match d with
  | .cell a => curP X a k
  | _ => (fun _ : Nat => False) hgt40
/-- nothing known -/
@[reducible] def blankE : DEnv → DEnv
  | [] => []
  | _ :: r => none :: blankE r
def cellL (M : Mem) (a : Addr) (k : List D → Prop) : Prop := match M a with
  | some (.lst xs) => k xs
  | none => False
theorem cellL_some {a : Addr} {k : List D → Prop} (h : cellL M a k) : ∃ xs, M a = some (.lst xs) ∧ k xs := by
  unfold cellL at h
  split at h
  · exact ⟨_, by assumption, h⟩
  · exact h.elim
def mulOk (i j : Int) : Prop := CMul i j ∨ CMulX i j
def divOk (i j : Int) : Prop := CDiv i j ∨ CDivW i j
@[reducible] def bopD : Operator → D → D → Mem → QD → Prop
  | .Add, .int i, .int j, M, Q => Q (.int (i + j)) M
  | .Add, .str x, .str y, M, Q => x.length + y.length ≤ sizeLine ∧ Q (.str (x ++ y)) M
  | .Add, .lst xs, .lst ys, M, Q => xs.length + ys.length ≤ sizeLine ∧ Q (.lst (xs ++ ys)) M
  | .Add, .tup xs, .tup ys, M, Q => xs.length + ys.length ≤ sizeLine ∧ Q (.tup (xs ++ ys)) M
  | .Add, .cell a, .lst ys, M, Q => cellL M a fun xs => xs.length + ys.length ≤ sizeLine ∧ Q (.lst (xs ++ ys)) M
  | .Sub, .int i, .int j, M, Q => Q (.int (i - j)) M
  | .Mult, .int i, .int j, M, Q => mulOk i j ∧ Q (.int (i * j)) M
  | .Mult, .lst xs, .int k, M, Q => (-(2 ^ 63) ≤ k ∧ k < 2 ^ 63 ∧ xs.length * k.toNat ≤ sizeLine) ∧ Q (.lst (List.replicate k.toNat xs).flatten) M
  | .Mult, .tup xs, .int k, M, Q => (xs ≠ [] ∧ 1 ≤ k ∧ k ≤ 1000 ∧ xs.length ≤ 1000) ∧ Q (.tup (List.replicate k.toNat xs).flatten) M
  | .FloorDiv, .int i, .int j, M, Q => divOk i j ∧ Q (.int (i / j)) M
  | .Mod, .int i, .int j, M, Q => 0 < j ∧ Q (.int (i % j)) M
  | .Pow, .int i, .int j, M, Q => CPow i j ∧ Q (.int (i ^ j.toNat)) M
  | .LShift, .int i, .int j, M, Q => CPow i j ∧ Q (.int (i * 2 ^ j.toNat)) M
  | .RShift, .int i, .int j, M, Q => 0 ≤ j ∧ Q (.int (i / 2 ^ j.toNat)) M
  | .BitAnd, .int i, .int j, M, Q => Q (.int (Builtin.bitAnd i j)) M
  | .BitOr, .int i, .int j, M, Q => Q (.int (Builtin.bitOr i j)) M
  | .BitXor, .int i, .int j, M, Q => Q (.int (Builtin.bitXor i j)) M
  | _, _, _, _, _ => (fun _ : Nat => False) hgt40
/-! equality -/
mutual
def py : D → Option PyData
  | .non => some .none
  | .bl b => some (.bool b)
  | .int i => some (.int i)
  | .str x => some (.str x)
  | .tup xs => (pys xs).map PyData.tuple
  | .lst xs => (pys xs).map PyData.list
  | _ => none
def pys : List D → Option (List PyData)
  | [] => some []
  | d :: ds => (py d).bind fun p => (pys ds).map fun ps => p :: ps
end
def eqOk (x y : D) (b : Bool) : Prop := (∃ d e, py x = some d ∧ py y = some e ∧ SeqAt.shaped d = true ∧ SeqAt.shaped e = true ∧ PyData.eqv d e = b) ∨ ∃ xs ys, x = .lst xs ∧ y = .lst ys ∧ xs.length ≠ ys.length ∧ b = false
@[reducible] def eqD : D → D → (Bool → Prop) → Prop
  | .int i, .int j, k => k (decide (i = j))
  | .str x, .str y, k => k (decide (x = y))
  | .non, .non, k => k true
  | .bl a, .bl b, k => k (decide (a = b))
  | x, y, k => ∃ b, eqOk x y b ∧ k b
def flatD : D → Option V
  | .non => some .non
  | .bl b => some (.bl b)
  | .int i => some (.int i)
  | .str x => some (.str x)
  | _ => none
def flatDs : List D → Option (List V)
  | [] => some []
  | d :: ds => (flatD d).bind fun v => (flatDs ds).map fun vs => v :: vs
def inOk (x : D) (xs : List D) (b : Bool) : Prop := ∃ d ds, py x = some d ∧ pys xs = some ds ∧ SeqAt.shaped d = true ∧ SeqAt.shaped (.list ds) = true ∧ (ds.any fun z => PyData.eqv z d) = b
def inSeq (x : D) (xs : List D) (k : Bool → Prop) : Prop := match flatD x, flatDs xs with
  | some v, some vs => k (inV v vs)
  | _, _ => ∃ b, inOk x xs b ∧ k b
def ltInts : List D → List D → Option (List Int × List Int)
  | xs, ys => match xs.mapM (fun | .int i => some i | _ => none), ys.mapM (fun | .int i => some i | _ => none) with
    | some a, some b => some (a, b)
    | _, _ => none
@[reducible] def isNon : D → Bool
  | .non => true
  | _ => false
@[reducible] def isD : D → D → (Bool → Prop) → Prop
  | x, .non, k => k (isNon x)
  | .bl a, .bl b, k => k (decide (a = b))
  | _, _, _ => (fun _ : Nat => False) hgt40
def inFl (x : D) (xs : List D) (k : Bool → Prop) : Prop := match flatD x, flatDs xs with
  | some v, some vs => k (inV v vs)
  | _, _ => False
@[reducible] def inD : D → D → Mem → (Bool → Prop) → Prop
  | x, .lst xs, _, k => inSeq x xs k
  | x, .tup xs, _, k => inSeq x xs k
  | x, .cell a, M, k => cellL M a fun xs => inFl x xs k
  | .str x, .str y, _, k => k (!(Builtin.Str.occurrences y x 0 y.length 1).isEmpty)
  | _, _, _, _ => (fun _ : Nat => False) hgt40
@[reducible] def cmpD : CmpOp → D → D → Mem → (Bool → Prop) → Prop
  | .Eq, x, y, _, k => eqD x y k
  | .NotEq, x, y, _, k => eqD x y fun b => k (!b)
  | .Lt, .int i, .int j, _, k => k (decide (i < j))
  | .LtE, .int i, .int j, _, k => k (decide (i ≤ j))
  | .Gt, .int i, .int j, _, k => k (decide (j < i))
  | .GtE, .int i, .int j, _, k => k (decide (j ≤ i))
  | .Is, x, y, _, k => isD x y k
  | .IsNot, x, y, _, k => isD x y fun b => k (!b)
  | .In, x, y, M, k => inD x y M k
  | .NotIn, x, y, M, k => inD x y M fun b => k (!b)
  | _, _, _, _, _ => (fun _ : Nat => False) hgt40
/-- a division by any number but 0 -/
@[reducible] def fdnD : D → D → Mem → QD → Prop
  | .int i, .int j, M, Q => CDivN i j ∧ Q (.int (i.fdiv j)) M
  | _, _, _, _ => (fun _ : Nat => False) hgt40
@[reducible] def negD : D → (D → Prop) → Prop
  | .int i, k => k (.int (-i))
  | _, _ => (fun _ : Nat => False) hgt40
@[reducible] def bitsD : D → (D → Prop) → Prop
  | .int i, k => k (.int (Builtin.Int.intBits i : Nat))
  | _, _ => (fun _ : Nat => False) hgt40
@[reducible] def liveD : D → Mem → QD → Prop
  | .lst xs, M, Q => ∀ p, M p = none → Q (.cell p) (M.set p (.lst xs))
  | _, _, _ => (fun _ : Nat => False) hgt40
@[reducible] def truD : D → (Bool → Prop) → Prop
  | .non, k => k false
  | .bl b, k => k b
  | .int i, k => k (i != 0)
  | .str x, k => x.length ≤ sizeLine ∧ k (((x.length : Nat) : Int) != 0)
  | .tup xs, k => k (!xs.isEmpty)
  | .lst xs, k => k (!xs.isEmpty)
  | .scr xs, k => k (!xs.isEmpty)
  | .dct ks xs, k => k (!ks.isEmpty)
  | _, _ => (fun _ : Nat => False) hgt40
/-- isinstance with a built-in class -/
@[reducible] def isB : D → BT → Bool
  | .bl _, .int => true
  | .bl _, .bool => true
  | .int _, .int => true
  | .str _, .str => true
  | .tup _, .tuple => true
  | .lst _, .list => true
  | .scr _, .list => true
  | .dct _ _, .dict => true
  | _, _ => false
@[reducible] def cellD (d : D) (M : Mem) (k : List D → Prop) : Prop := match d with
  | .cell a => cellL M a k
  | _ => (fun _ : Nat => False) hgt40
def ixP (n : Nat) (i : Int) (k : Nat → Prop) : Prop := match ixN n i with
  | some j => k j
  | none => False
def ixL (xs : List D) (i : Int) (k : D → Prop) : Prop := match atI xs i with
  | some d => k d
  | none => False
@[reducible] def ixD : D → D → Mem → QD → Prop
  | .lst xs, .int i, M, Q => ixL xs i fun d => Q d M
  | .tup xs, .int i, M, Q => ixL xs i fun d => Q d M
  | .scr xs, .int i, M, Q => ixL xs i fun d => Q d M
  | .cell a, .int i, M, Q => cellL M a fun xs => ixL xs i fun d => Q d M
  | .str x, .int i, M, Q => x.length ≤ sizeLine ∧ (match atI x.cps.toList i with | some c => Q (.str ⟨#[c]⟩) M | none => False)
  | _, _, _, _ => (fun _ : Nat => False) hgt40
def cutD {α : Type} (xs : List α) (lo hi : Option Int) : List α := (xs.drop (HT.sIx xs.length 0 lo)).take (HT.sIx xs.length xs.length hi - HT.sIx xs.length 0 lo)
@[reducible] def bndD : List D → Option (Option Int)
  | [] => some none
  | [.int i] => some (some i)
  | _ => none
@[reducible] def withB (o : Option (Option Int)) (k : Option Int → Prop) : Prop := match o with
  | some l => k l
  | none => (fun _ : Nat => False) hgt40
@[reducible] def slD : D → Option Int → Option Int → Mem → QD → Prop
  | .lst xs, lo, hi, M, Q => Q (.lst (cutD xs lo hi)) M
  | .scr xs, lo, hi, M, Q => Q (.lst (cutD xs lo hi)) M
  | .tup xs, lo, hi, M, Q => Q (.tup (cutD xs lo hi)) M
  | .cell a, lo, hi, M, Q => cellL M a fun xs => Q (.lst (cutD xs lo hi)) M
  | _, _, _, _, _ => (fun _ : Nat => False) hgt40
/-- the items that a slice with a step takes -/
def stepV {α : Type} (xs : List α) (lo hi : Option Int) (k : Int) : List α :=
  (List.range (Builtin.Slice.slicePlaces (Builtin.Slice.sliceAdjust lo hi k xs.length).1 (Builtin.Slice.sliceAdjust lo hi k xs.length).2 k)).filterMap fun (m : Nat) => xs[((Builtin.Slice.sliceAdjust lo hi k xs.length).1 + (m : Int) * k).toNat]?
@[reducible] def slrD : D → Mem → QD → Prop
  | .lst xs, M, Q => Q (.lst xs.reverse) M
  | .tup xs, M, Q => Q (.tup xs.reverse) M
  | _, _, _ => (fun _ : Nat => False) hgt40
@[reducible] def slsD : D → Option Int → Nat → Mem → QD → Prop
  | .tup xs, l, k, M, Q => (2 ≤ k ∧ (stepV xs l none k).length ≤ sizeLine) ∧ Q (.tup (stepV xs l none k)) M
  | _, _, _, _, _ => (fun _ : Nat => False) hgt40
def rngD (a b : Int) : List D := (List.range (b - a).toNat).map fun (i : Nat) => D.int (a + (i : Int))
def rngOk (a b : Int) : Prop := -(2 ^ 62) ≤ a ∧ a < 2 ^ 62 ∧ -(2 ^ 62) ≤ b ∧ b < 2 ^ 62 ∧ (b - a).toNat ≤ sizeLine
@[reducible] def asInts : List D → Option (List Int)
  | [] => some []
  | .int i :: r => (asInts r).map fun ns => i :: ns
  | _ => none
@[reducible] def asBls : List D → Option (List Bool)
  | [] => some []
  | .bl i :: r => (asBls r).map fun ns => i :: ns
  | _ => none
@[reducible] def sumD (o : Option (List Int)) (k : D → Prop) : Prop := match o with
  | some ns => k (.int ns.sum)
  | none => (fun _ : Nat => False) hgt40
@[reducible] def sortD (o : Option (List Int)) (k : D → Prop) : Prop := match o with
  | some ns => ∀ ns' : List Int, ns'.Perm ns → ns'.Pairwise (· ≤ ·) → k (.lst (ns'.map D.int))
  | none => (fun _ : Nat => False) hgt40
@[reducible] def mthD (l : Bool) : D → D → (D → Prop) → Prop
  | .int i, .int j, k => (match l with
    | true => (i.natAbs.log2 < 4000 ∧ j.natAbs.log2 < 4000) ∧ k (.int ((Nat.lcm i.natAbs j.natAbs : Nat) : Int))
    | false => k (.int ((Nat.gcd i.natAbs j.natAbs : Nat) : Int)))
  | _, _, _ => (fun _ : Nat => False) hgt40
@[reducible] def maxD (o : Option (List Int)) (k : D → Prop) : Prop := match o with
  | some ns => 0 < ns.length ∧ ∀ m, m ∈ ns → (∀ y, y ∈ ns → y ≤ m) → k (.int m)
  | none => (fun _ : Nat => False) hgt40
@[reducible] def minD (o : Option (List Int)) (k : D → Prop) : Prop := match o with
  | some ns => 0 < ns.length ∧ ∀ m, m ∈ ns → (∀ y, y ∈ ns → m ≤ y) → k (.int m)
  | none => (fun _ : Nat => False) hgt40
@[reducible] def allD (o : Option (List Bool)) (k : D → Prop) : Prop := match o with
  | some ns => k (.bl (ns.all id))
  | none => (fun _ : Nat => False) hgt40
@[reducible] def anyD (o : Option (List Bool)) (k : D → Prop) : Prop := match o with
  | some ns => k (.bl (ns.any id))
  | none => (fun _ : Nat => False) hgt40
/-- the text of a thing -/
def reprK (d : D) (k : Str → Prop) : Prop := ∃ p, py d = some p ∧ p.showable = true ∧ p.depth ≤ 60 ∧ p.shown.length ≤ sizeLine ∧ k p.shown
@[reducible] def biD : Bi → List D → Mem → QD → Prop
  | .len, [.lst xs], M, Q => Q (.int xs.length) M
  | .len, [.tup xs], M, Q => Q (.int xs.length) M
  | .len, [.scr xs], M, Q => Q (.int xs.length) M
  | .len, [.cell a], M, Q => cellL M a fun xs => Q (.int xs.length) M
  | .len, [.str x], M, Q => x.length ≤ sizeLine ∧ Q (.int x.length) M
  | .isI t, [d], M, Q => (match d with | .cell _ => False | .fn _ => False | .rng _ _ => False | d => Q (.bl (isB d t)) M)
  | .isI2 t u, [d], M, Q => (match d with | .cell _ => False | .fn _ => False | .rng _ _ => False | d => Q (.bl (isB d t || isB d u)) M)
  | .int1, [.int i], M, Q => Q (.int i) M
  | .int1, [.bl b], M, Q => Q (.int (if b then 1 else 0)) M
  | .abs, [.int i], M, Q => Q (.int (if i < 0 then -i else i)) M
  | .max2, [.int i, .int j], M, Q => Q (.int (if j > i then j else i)) M
  | .min2, [.int i, .int j], M, Q => Q (.int (if j < i then j else i)) M
  | .max1, [.lst xs], M, Q => maxD (asInts xs) fun d => Q d M
  | .min1, [.lst xs], M, Q => minD (asInts xs) fun d => Q d M
  | .divmod, [.int i, .int j], M, Q => divOk i j ∧ Q (.tup [.int (i / j), .int (i % j)]) M
  | .tupleOf, [.lst xs], M, Q => Q (.tup xs) M
  | .tupleOf, [.tup xs], M, Q => Q (.tup xs) M
  | .tupleOf, [.cell a], M, Q => cellL M a fun xs => Q (.tup xs) M
  | .listOf, [.lst xs], M, Q => Q (.lst xs) M
  | .listOf, [.tup xs], M, Q => Q (.lst xs) M
  | .sum, [.lst xs], M, Q => sumD (asInts xs) fun d => Q d M
  | .rangeV, [.int b], M, Q => Q (.rng 0 b) M
  | .repr, [d], M, Q => reprK d fun x => Q (.str x) M
  | .sorted, [.lst xs], M, Q => sortD (asInts xs) fun d => Q d M
  | .all, [.lst xs], M, Q => allD (asBls xs) fun d => Q d M
  | .any, [.lst xs], M, Q => anyD (asBls xs) fun d => Q d M
  | .gcd, [.int i, .int j], M, Q => Q (.int ((Nat.gcd i.natAbs j.natAbs : Nat) : Int)) M
  | .listRg, [.int a, .int b], M, Q => rngOk a b ∧ Q (.lst (rngD a b)) M
  | .listRg, [.int b], M, Q => rngOk 0 b ∧ Q (.lst (rngD 0 b)) M
  | .tupleRg, [.int a, .int b], M, Q => rngOk a b ∧ Q (.tup (rngD a b)) M
  | .tupleRg, [.int b], M, Q => rngOk 0 b ∧ Q (.tup (rngD 0 b)) M
  | _, _, _, _ => (fun _ : Nat => False) hgt40
def strItems (x : Str) : List D := x.cps.toList.map fun c => D.str ⟨#[c]⟩
/-- two clauses -/
def lc2Go (g : D → (DEnv → Prop) → Prop) (t : DEnv → Mem → (Bool → Mem → Prop) → Prop) (inn : DEnv → List D → Mem → QL → Prop) : List D → List D → Mem → QL → Prop
  | [], acc, M, Q => Q acc M
  | x :: xs, acc, M, Q => g x fun ρ => t ρ M fun b M1 => if b = true then inn ρ acc M1 fun acc' M2 => lc2Go g t inn xs acc' M2 Q else lc2Go g t inn xs acc M1 Q
/-- a local name's def -/
@[reducible] def fnAt (o : Option Nat) (k : Nat → Prop) : Prop := match o with
  | some n => k n
  | none => (fun _ : Nat => False) hgt40
@[reducible] def lookF : List (Str × Nat) → Str → Option Nat
  | [], _ => none
  | p :: r, x => if p.1 = x then some p.2 else lookF r x
@[reducible] def callC (d : D) (cs : List (Str × Nat)) (k : Nat → Prop) : Prop := match d with
  | .fn x => fnAt (lookF cs x) k
  | _ => (fun _ : Nat => False) hgt40
/-- what a for or a comprehension walks -/
@[reducible] def itD : D → QL → Mem → Prop
  | .lst xs, Q, M => Q xs M
  | .tup xs, Q, M => Q xs M
  | .scr xs, Q, M => Q xs M
  | .str x, Q, M => x.length ≤ sizeLine ∧ Q (strItems x) M
  | .rng a b, Q, M => rngOk a b ∧ Q (rngD a b) M
  | _, _, _ => (fun _ : Nat => False) hgt40
def enumFrom (n : Nat) : List D → List D
  | [] => []
  | x :: r => .tup [.int (n : Nat), x] :: enumFrom (n + 1) r
def zipD : List D → List D → List D
  | x :: xs, y :: ys => .tup [x, y] :: zipD xs ys
  | _, _ => []
@[reducible] def itB : Bi → List D → QL → Mem → Prop
  | .range, [.int b], Q, M => rngOk 0 b ∧ Q (rngD 0 b) M
  | .range, [.int a, .int b], Q, M => rngOk a b ∧ Q (rngD a b) M
  | .enum, [.lst xs], Q, M => Q (enumFrom 0 xs) M
  | .enum, [.tup xs], Q, M => Q (enumFrom 0 xs) M
  | .zip, [.lst xs, .lst ys], Q, M => Q (zipD xs ys) M
  | .zip, [.tup xs, .tup ys], Q, M => Q (zipD xs ys) M
  | .zip, [.tup xs, .lst ys], Q, M => Q (zipD xs ys) M
  | .zip, [.lst xs, .tup ys], Q, M => Q (zipD xs ys) M
  | b, ds, Q, M => biD b ds M fun d M1 => itD d Q M1
def permD (zs : List D) : List Nat → Option (List D)
  | [] => some []
  | i :: r => match zs[i]?, permD zs r with
    | some d, some ds => some (d :: ds)
    | _, _ => none
def permP (o : Option (List D)) (k : List D → Prop) : Prop := match o with
  | some ws => k ws
  | none => False
theorem permP_of {o : Option (List D)} {k : List D → Prop} {ws : List D} (h : o = some ws) (hk : k ws) : permP o k := by subst h; exact hk
/-! a target takes a value -/
mutual
@[reducible] def tgD : Tg → D → DEnv → (DEnv → Prop) → Prop
  | .nm i, d, ρ, Q => Q (setD' ρ i d)
  | .tup ts, .tup ds, ρ, Q => ds.length = ts.length ∧ tgDs ts ds ρ Q
  | .tup ts, .lst ds, ρ, Q => ds.length = ts.length ∧ tgDs ts ds ρ Q
  | _, _, _, _ => (fun _ : Nat => False) hgt40
@[reducible] def tgDs : List Tg → List D → DEnv → (DEnv → Prop) → Prop
  | [], _, ρ, Q => Q ρ
  | t :: ts, d :: ds, ρ, Q => tgD t d ρ fun ρ' => tgDs ts ds ρ' Q
  | _, _, _, _ => (fun _ : Nat => False) hgt40
end
/-- a comprehension's turns -/
def lcGo (g : D → (DEnv → Prop) → Prop) (t : DEnv → Mem → (Bool → Mem → Prop) → Prop) (e : DEnv → Mem → QD → Prop) : List D → List D → Mem → QL → Prop
  | [], acc, M, Q => Q acc M
  | x :: xs, acc, M, Q => g x fun ρ => t ρ M fun b M1 => if b = true then e ρ M1 fun y M2 => lcGo g t e xs (acc ++ [y]) M2 Q else lcGo g t e xs acc M1 Q
/-! dicts: keys, values -/
@[reducible] def keyD : D → (Key → Prop) → Prop
  | .int i, k => k (.inl i)
  | .str x, k => k (.inr x)
  | _, _ => (fun _ : Nat => False) hgt40
/-- in its place, or at the end -/
def putL {α : Type} (ks : List Key) (xs : List α) (k : Key) (x : α) : List Key × List α :=
  if (ks.any fun j => decide (j = k)) = true then (ks, (ks.zip xs).map fun p => if p.1 = k then x else p.2) else (ks ++ [k], xs ++ [x])
def valL {α : Type} (ks : List Key) (xs : List α) (k : Key) : Option α := ((ks.zip xs).find? fun p => decide (p.1 = k)).map (·.2)
/-- a dict comprehension's turns -/
def dcGo (g : D → (DEnv → Prop) → Prop) (t : DEnv → Mem → (Bool → Mem → Prop) → Prop) (e v : DEnv → Mem → QD → Prop) : List D → List Key → List D → Mem → (List Key → List D → Mem → Prop) → Prop
  | [], ks, ys, M, Q => Q ks ys M
  | x :: xs, ks, ys, M, Q => g x fun ρ => t ρ M fun b M1 => if b = true then e ρ M1 fun kd M2 => v ρ M2 fun y M3 => keyD kd fun k => ks.length < sizeLine ∧ dcGo g t e v xs (putL ks ys k y).1 (putL ks ys k y).2 M3 Q else dcGo g t e v xs ks ys M1 Q
/-- whose method it is -/
@[reducible] def mtOk : Mt → D → Mem → Prop → Prop
  | .dget, .dct _ _, _, P => P
  | _, _, _, _ => (fun _ : Nat => False) hgt40
/-- what a method tells -/
@[reducible] def mtD : Mt → D → List D → Mem → QD → Prop
  | .dget, .dct ks xs, [kd, f], M, Q => keyD kd fun k => Q ((valL ks xs k).getD f) M
  | _, _, _, _, _ => (fun _ : Nat => False) hgt40
def isBoolish : CE → Bool
  | .not _ => true
  | .and _ => true
  | .or _ => true
  | .ifx .. => true
  | .cmp .. => true
  | .chn .. => true
  | _ => false
section
variable (Φ : Nat → Spec)
mutual
@[reducible] def wpE : CE → DEnv → Mem → XQ → QD → Prop
  | .var i, ρ, M, _, Q => withV (getD' ρ i) fun d => Q d M
  | .lit d, _, M, _, Q => Q d M
  | .gl _ d, _, M, _, Q => Q d M
  | .tup es, ρ, M, X, Q => wpEs es ρ M X fun ds M1 => Q (.tup ds) M1
  | .lst false es, ρ, M, X, Q => wpEs es ρ M X fun ds M1 => Q (.lst ds) M1
  | .lst true es, ρ, M, X, Q => wpEs es ρ M X fun ds M1 => ∀ p, M1 p = none → Q (.cell p) (M1.set p (.lst ds))
  | .bop op a b, ρ, M, X, Q => wpE a ρ M X fun x M1 => wpE b ρ M1 X fun y M2 => bopD op x y M2 Q
  | .neg a, ρ, M, X, Q => wpE a ρ M X fun x M1 => negD x fun d => Q d M1
  | .not a, ρ, M, X, Q => wpE a ρ M X fun x M1 => truD x fun b => Q (.bl (!b)) M1
  | .cmp op a b, ρ, M, X, Q => wpE a ρ M X fun x M1 => wpE b ρ M1 X fun y M2 => cmpD op x y M2 fun c => Q (.bl c) M2
  | .chn op op' a b c, ρ, M, X, Q => wpE a ρ M X fun x M1 => wpE b ρ M1 X fun y M2 => cmpD op x y M2 fun k =>
      if k = true then wpE c ρ M2 X fun z M3 => cmpD op' y z M3 fun k' => Q (.bl k') M3 else Q (.bl false) M2
  | .and es, ρ, M, X, Q => wpAnd es ρ M X Q
  | .or es, ρ, M, X, Q => wpOr es ρ M X Q
  | .ifx c a b, ρ, M, X, Q => wpT c ρ M X fun k M1 => if k = true then wpE a ρ M1 X Q else wpE b ρ M1 X Q
  | .call f es, ρ, M, X, Q => wpEs es ρ M X fun ds M1 => Φ f ds M1 X Q
  | .callK f es _ kes perm, ρ, M, X, Q => wpEs es ρ M X fun ds M1 => wpEs kes ρ M1 X fun zs M2 => permP (permD zs perm) fun ws => Φ f (ds ++ ws) M2 X Q
  | .bi b es, ρ, M, X, Q => wpEs es ρ M X fun ds M1 => biD b ds M1 Q
  | .ix a b, ρ, M, X, Q => wpE a ρ M X fun x M1 => wpE b ρ M1 X fun y M2 => ixD x y M2 Q
  | .sl a lo hi, ρ, M, X, Q => wpE a ρ M X fun x M1 => wpEs lo ρ M1 X fun l M2 => withB (bndD l) fun l' => wpEs hi ρ M2 X fun h M3 => withB (bndD h) fun h' => slD x l' h' M3 Q
  | .slr a, ρ, M, X, Q => wpE a ρ M X fun x M1 => slrD x M1 Q
  | .sls a lo k, ρ, M, X, Q => wpE a ρ M X fun x M1 => wpEs lo ρ M1 X fun l M2 => withB (bndD l) fun l' => slsD x l' k M2 Q
  | .lc own tg it ifs elt, ρ, M, X, Q => wpI it ρ M X fun xs M1 =>
      lcGo (fun d k => tgD tg d (wipeD ρ (snds own)) k) (fun ρ' M2 k => wpTs ifs ρ' M2 (fun _ _ => False) k) (fun ρ' M2 k => wpE elt ρ' M2 (fun _ _ => False) k) xs [] M1 fun ys M2 => Q (.lst ys) M2
  | .lc2 own tg it ifs vs1 tg1 it1 ifs1 elt, ρ, M, X, Q => wpI it ρ M X fun xs M1 =>
      lc2Go (fun d k => tgD tg d (wipeD ρ (snds own)) k) (fun ρ' M2 k => wpTs ifs ρ' M2 (fun _ _ => False) k)
        (fun ρ' acc M2 QL => wpI it1 ρ' M2 (fun _ _ => False) fun xs1 M3 => acc.length + xs1.length ≤ sizeLine ∧ lcGo (fun d k => tgD tg1 d (wipeD ρ' vs1) k) (fun ρ' M2 k => wpTs ifs1 ρ' M2 (fun _ _ => False) k) (fun ρ' M2 k => wpE elt ρ' M2 (fun _ _ => False) k) xs1 acc M3 QL)
        xs [] M1 fun ys M2 => Q (.lst ys) M2
  | .dctE, _, M, _, Q => Q (.dct [] []) M
  | .gfn x, _, M, _, Q => Q (.fn x) M
  | .mth l a b, ρ, M, X, Q => wpE a ρ M X fun x M1 => wpE b ρ M1 X fun y M2 => mthD l x y fun d => Q d M2
  | .callL i es cs, ρ, M, X, Q => withV (getD' ρ i) fun d => callC d cs fun k => wpEs es ρ M X fun ds M1 => Φ k ds M1 X Q
  | .fdn a b, ρ, M, X, Q => wpE a ρ M X fun x M1 => wpE b ρ M1 X fun y M2 => fdnD x y M2 Q
  | .excIs i _ cs, ρ, M, X, Q => withV (getD' ρ i) fun d => excD d X fun xd => Q (.bl (cs.contains xd.cls)) M
  | .excAt i cs, ρ, M, X, Q => withV (getD' ρ i) fun d => excD d X fun xd => cs.contains xd.cls = true ∧ valP xd.val fun v => Q v M
  | .dc own tg it ifs ke ve, ρ, M, X, Q => wpI it ρ M X fun xs M1 =>
      dcGo (fun d k => tgD tg d (wipeD ρ (snds own)) k) (fun ρ' M2 k => wpTs ifs ρ' M2 (fun _ _ => False) k) (fun ρ' M2 k => wpE ke ρ' M2 (fun _ _ => False) k) (fun ρ' M2 k => wpE ve ρ' M2 (fun _ _ => False) k) xs [] [] M1 fun ks ys M2 => Q (.dct ks ys) M2
  | .mt m o es, ρ, M, X, Q => wpE o ρ M X fun x M1 => mtOk m x M1 (wpEs es ρ M1 X fun ds M2 => mtD m x ds M2 Q)
  | .nev, _, _, _, _ => False
  | .bits a, ρ, M, X, Q => wpE a ρ M X fun x M1 => bitsD x fun d => Q d M1
  | .live e, ρ, M, X, Q => wpE e ρ M X fun d M1 => liveD d M1 Q
  | .frz e, ρ, M, X, Q => wpE e ρ M X fun x M1 => match x with
    | .cell a => cellL M1 a fun xs => Q (.lst xs) (M1.del a)
    | _ => False
@[reducible] def wpEs : List CE → DEnv → Mem → XQ → QL → Prop
  | [], _, M, _, Q => Q [] M
  | e :: es, ρ, M, X, Q => wpE e ρ M X fun d M1 => wpEs es ρ M1 X fun ds M2 => Q (d :: ds) M2
@[reducible] def wpAnd : List CE → DEnv → Mem → XQ → QD → Prop
  | [], _, _, _, _ => False
  | [e], ρ, M, X, Q => wpE e ρ M X Q
  | e :: es, ρ, M, X, Q => wpE e ρ M X fun d M1 => truD d fun k => if k = true then wpAnd es ρ M1 X Q else Q d M1
@[reducible] def wpOr : List CE → DEnv → Mem → XQ → QD → Prop
  | [], _, _, _, _ => False
  | [e], ρ, M, X, Q => wpE e ρ M X Q
  | e :: es, ρ, M, X, Q => wpE e ρ M X fun d M1 => truD d fun k => if k = true then Q d M1 else wpOr es ρ M1 X Q
/-- as a test -/
@[reducible] def wpT : CE → DEnv → Mem → XQ → (Bool → Mem → Prop) → Prop
  | .not a, ρ, M, X, Q => wpT a ρ M X fun k M1 => Q (!k) M1
  | .excIs i _ cs, ρ, M, X, Q => withV (getD' ρ i) fun d => excD d X fun xd => Q (cs.contains xd.cls) M
  | .and es, ρ, M, X, Q => wpTA es ρ M X Q
  | .or es, ρ, M, X, Q => wpTO es ρ M X Q
  | .cmp op a b, ρ, M, X, Q => wpE a ρ M X fun x M1 => wpE b ρ M1 X fun y M2 => cmpD op x y M2 fun c => Q c M2
  | .chn op op' a b c, ρ, M, X, Q => wpE a ρ M X fun x M1 => wpE b ρ M1 X fun y M2 => cmpD op x y M2 fun k =>
      if k = true then wpE c ρ M2 X fun z M3 => cmpD op' y z M3 fun k' => Q k' M3 else Q false M2
  | .var i, ρ, M, _, Q => withV (getD' ρ i) fun d => truD d fun k => Q k M
  | .call f es, ρ, M, X, Q => wpEs es ρ M X fun ds M1 => Φ f ds M1 X fun d M2 => truD d fun k => Q k M2
  | .callL i es cs, ρ, M, X, Q => withV (getD' ρ i) fun d => callC d cs fun k => wpEs es ρ M X fun ds M1 => Φ k ds M1 X fun d M2 => truD d fun k => Q k M2
  | .bi b es, ρ, M, X, Q => wpEs es ρ M X fun ds M1 => biD b ds M1 fun d M2 => truD d fun k => Q k M2
  | .ix a b, ρ, M, X, Q => wpE a ρ M X fun x M1 => wpE b ρ M1 X fun y M2 => ixD x y M2 fun d M3 => truD d fun k => Q k M3
  | _, _, _, _, _ => False
@[reducible] def wpTA : List CE → DEnv → Mem → XQ → (Bool → Mem → Prop) → Prop
  | [], _, _, _, _ => False
  | [e], ρ, M, X, Q => wpT e ρ M X Q
  | e :: es, ρ, M, X, Q => wpT e ρ M X fun k M1 => if k = true then wpTA es ρ M1 X Q else Q false M1
@[reducible] def wpTO : List CE → DEnv → Mem → XQ → (Bool → Mem → Prop) → Prop
  | [], _, _, _, _ => False
  | [e], ρ, M, X, Q => wpT e ρ M X Q
  | e :: es, ρ, M, X, Q => wpT e ρ M X fun k M1 => if k = true then Q true M1 else wpTO es ρ M1 X Q
/-- the tests of a comprehension: none or one -/
@[reducible] def wpTs : List CE → DEnv → Mem → XQ → (Bool → Mem → Prop) → Prop
  | [], _, M, _, Q => Q true M
  | [e], ρ, M, X, Q => wpT e ρ M X Q
  | _, _, _, _, _ => False
/-- what is walked -/
@[reducible] def wpI : CE → DEnv → Mem → XQ → QL → Prop
  | .bi b es, ρ, M, X, Q => wpEs es ρ M X fun ds M1 => itB b ds Q M1
  | .var i, ρ, M, _, Q => withV (getD' ρ i) fun d => itD d Q M
  | .call f es, ρ, M, X, Q => wpEs es ρ M X fun ds M1 => Φ f ds M1 X fun d M2 => itD d Q M2
  | .ix a b, ρ, M, X, Q => wpE a ρ M X fun x M1 => wpE b ρ M1 X fun y M2 => ixD x y M2 fun d M3 => itD d Q M3
  | .sl a lo hi, ρ, M, X, Q => wpE a ρ M X fun x M1 => wpEs lo ρ M1 X fun l M2 => withB (bndD l) fun l' => wpEs hi ρ M2 X fun h M3 => withB (bndD h) fun h' => slD x l' h' M3 fun d M4 => itD d Q M4
  | .lst false es, ρ, M, X, Q => wpEs es ρ M X fun ds M1 => Q ds M1
  | .tup es, ρ, M, X, Q => wpEs es ρ M X fun ds M1 => Q ds M1
  | .bop op a b, ρ, M, X, Q => wpE a ρ M X fun x M1 => wpE b ρ M1 X fun y M2 => bopD op x y M2 fun d M3 => itD d Q M3
  | .lc own tg it ifs elt, ρ, M, X, Q => wpI it ρ M X fun xs M1 =>
      lcGo (fun d k => tgD tg d (wipeD ρ (snds own)) k) (fun ρ' M2 k => wpTs ifs ρ' M2 (fun _ _ => False) k) (fun ρ' M2 k => wpE elt ρ' M2 (fun _ _ => False) k) xs [] M1 fun ys M2 => Q ys M2
  | _, _, _, _, _ => False
end
/-- what is wanted behind a statement -/
structure DE where
  nx : DEnv → Mem → Prop
  rt : QD
  bk : DEnv → Mem → Prop := fun _ _ => False
  ct : DEnv → Mem → Prop := fun _ _ => False
def forGo (g : D → DEnv → (DEnv → Prop) → Prop) (b : DEnv → Mem → (DEnv → Mem → Prop) → Prop) : List D → DEnv → Mem → (DEnv → Mem → Prop) → Prop
  | [], ρ, M, Q => Q ρ M
  | x :: xs, ρ, M, Q => g x ρ fun ρ1 => b ρ1 M fun ρ2 M2 => forGo g b xs ρ2 M2 Q
def whlGo (c : DEnv → Mem → (Bool → Mem → Prop) → Prop) (b : DEnv → Mem → (DEnv → Mem → Prop) → Prop) : Nat → DEnv → Mem → (DEnv → Mem → Prop) → Prop
  | 0, _, _, _ => False
  | n + 1, ρ, M, Q => c ρ M fun k M1 => if k = true then b ρ M1 fun ρ2 M2 => whlGo c b n ρ2 M2 Q else Q ρ M1
@[reducible] def setIxD : D → D → D → Mem → (Mem → Prop) → Prop
  | .cell a, .int i, v, M, Q => cellL M a fun xs => ixP xs.length i fun j => Q (M.set a (.lst (xs.set j v)))
  | _, _, _, _, _ => (fun _ : Nat => False) hgt40
@[reducible] def appD : D → D → Mem → (Mem → Prop) → Prop
  | .cell a, v, M, Q => cellL M a fun xs => xs.length < sizeLine ∧ Q (M.set a (.lst (xs ++ [v])))
  | _, _, _, _ => (fun _ : Nat => False) hgt40
@[reducible] def parSet : List Nat → List D → DEnv → DEnv
  | i :: is, d :: ds, ρ => parSet is ds (setD' ρ i d)
  | _, _, ρ => ρ
@[reducible] def tgSDs : List TgS → List D → DEnv → Mem → XQ → (DEnv → Mem → Prop) → Prop
  | [], _, ρ, M, _, Q => Q ρ M
  | .nm i :: ts, d :: ds, ρ, M, X, Q => tgSDs ts ds (setD' ρ i d) M X Q
  | .sub o i :: ts, d :: ds, ρ, M, X, Q => withV (getD' ρ o) fun ov => wpE Φ i ρ M X fun iv M1 => setIxD ov iv d M1 fun M2 => tgSDs ts ds ρ M2 X Q
  | _, _, _, _, _, _ => False
mutual
def wpS : CS → DEnv → Mem → XQ → DE → Prop
  | .expr e, ρ, M, X, Z => wpE Φ e ρ M X fun _ M1 => Z.nx ρ M1
  | .asg i e, ρ, M, X, Z => wpE Φ e ρ M X fun d M1 => Z.nx (setD' ρ i d) M1
  | .asgT t e, ρ, M, X, Z => wpE Φ e ρ M X fun d M1 => tgD t d ρ fun ρ1 => Z.nx ρ1 M1
  | .par is es, ρ, M, X, Z => wpEs Φ es ρ M X fun ds M1 => Z.nx (parSet is ds ρ) M1
  | .setix o i e, ρ, M, X, Z => wpE Φ e ρ M X fun d M1 => wpE Φ o ρ M1 X fun ov M2 => wpE Φ i ρ M2 X fun iv M3 => setIxD ov iv d M3 fun M4 => Z.nx ρ M4
  | .asgM ts e, ρ, M, X, Z => wpE Φ e ρ M X fun d M1 => match d with
    | .tup ds => ds.length = ts.length ∧ tgSDs Φ ts ds ρ M1 X Z.nx
    | _ => False
  | .append o e, ρ, M, X, Z => wpE Φ o ρ M X fun ov M1 => cellD ov M1 fun _ => wpE Φ e ρ M1 X fun d M2 => appD ov d M2 fun M3 => Z.nx ρ M3
  | .ret e, ρ, M, X, Z => wpE Φ e ρ M X Z.rt
  | .iff c a b, ρ, M, X, Z => wpT Φ c ρ M X fun k M1 => if k = true then wpSs a ρ M1 X Z else wpSs b ρ M1 X Z
  | .for_ t it body, ρ, M, X, Z => wpI Φ it ρ M X fun xs M1 => forGo (fun d ρ' k => tgD t d ρ' k) (fun ρ' M' k => wpSs body ρ' M' X { nx := k, rt := Z.rt, bk := Z.nx, ct := k }) xs ρ M1 Z.nx
  | .while_ c body, ρ, M, X, Z => ∃ n, whlGo (fun ρ' M' k => wpT Φ c ρ' M' X k) (fun ρ' M' k => wpSs body ρ' M' X { nx := k, rt := Z.rt, bk := Z.nx, ct := k }) n ρ M Z.nx
  | .brk, ρ, M, _, Z => Z.bk ρ M
  | .cont, ρ, M, _, Z => Z.ct ρ M
  | .pass, ρ, M, _, Z => Z.nx ρ M
  | .never, _, _, _, _ => False
  | .gfrz i, ρ, M, _, Z => withV (getD' ρ i) fun d => match d with
    | .cell a => cellL M a fun xs => Z.nx (setD' ρ i (.lst xs)) (M.del a)
    | _ => False
  | .raise0 c, _, M, X, _ => X ⟨c, none⟩ M
  | .raise_ c e, ρ, M, X, _ => wpE Φ e ρ M X fun d M1 => X ⟨c, some d⟩ M1
  | .tryAs i _ cs body hd, ρ, M, X, Z => wpSs body ρ M (fun xd M1 => if cs.contains xd.cls = true then
      ∀ a, M1 a = none → wpSs hd (setD' (blankE ρ) i (.cell a)) M1 (curX a xd) { nx := fun ρ' M' => Z.nx (setO ρ' i none) M', rt := Z.rt, bk := fun ρ' M' => Z.bk (setO ρ' i none) M', ct := fun ρ' M' => Z.ct (setO ρ' i none) M' } else X xd M1) Z
def wpSs : List CS → DEnv → Mem → XQ → DE → Prop
  | [], ρ, M, _, Z => Z.nx ρ M
  | s :: ss, ρ, M, X, Z => wpS s ρ M X { Z with nx := fun ρ' M' => wpSs ss ρ' M' X Z }
end
end
/-- behind a statement: the others -/
@[reducible] def seqZ (Φ : Nat → Spec) (ss : List CS) (X : XQ) (Z : DE) : DE := { Z with nx := fun ρ' M' => wpSs Φ ss ρ' M' X Z }
/-- in a loop's body -/
@[reducible] def lopZ (Z : DE) (k : DEnv → Mem → Prop) : DE := { nx := k, rt := Z.rt, bk := Z.nx, ct := k }
/-- behind an except clause -/
@[reducible] def excZ (Z : DE) (i : Nat) : DE := { nx := fun ρ' M' => Z.nx (setO ρ' i none) M', rt := Z.rt, bk := fun ρ' M' => Z.bk (setO ρ' i none) M', ct := fun ρ' M' => Z.ct (setO ρ' i none) M' }
/-- what a try's body may raise -/
def tryX (Φ : Nat → Spec) (i : Nat) (cs : List Nat) (hd : List CS) (ρ : DEnv) (X : XQ) (Z : DE) : XQ := fun xd M1 => if cs.contains xd.cls = true then ∀ a, M1 a = none → wpSs Φ hd (setD' (blankE ρ) i (.cell a)) M1 (curX a xd) (excZ Z i) else X xd M1
section
variable {Φ : Nat → Spec} {ρ : DEnv} {M : Mem} {X : XQ} {Z : DE}
theorem wpS_raise {c : Nat} {e : CE} (h : wpE Φ e ρ M X fun d M1 => X ⟨c, some d⟩ M1) : wpS Φ (.raise_ c e) ρ M X Z := h
theorem wpS_raise0 {c : Nat} (h : X ⟨c, none⟩ M) : wpS Φ (.raise0 c) ρ M X Z := h
theorem wpS_try {i : Nat} {x : Str} {cs : List Nat} {body hd : List CS} (h : wpSs Φ body ρ M (tryX Φ i cs hd ρ X Z) Z) : wpS Φ (.tryAs i x cs body hd) ρ M X Z := h
theorem wpSs_nil (h : Z.nx ρ M) : wpSs Φ [] ρ M X Z := h
theorem wpSs_cons {s : CS} {ss : List CS} (h : wpS Φ s ρ M X (seqZ Φ ss X Z)) : wpSs Φ (s :: ss) ρ M X Z := h
theorem wpS_expr {e : CE} (h : wpE Φ e ρ M X fun _ M1 => Z.nx ρ M1) : wpS Φ (.expr e) ρ M X Z := h
theorem wpS_asg {i : Nat} {e : CE} (h : wpE Φ e ρ M X fun d M1 => Z.nx (setD' ρ i d) M1) : wpS Φ (.asg i e) ρ M X Z := h
theorem wpS_asgT {t : Tg} {e : CE} (h : wpE Φ e ρ M X fun d M1 => tgD t d ρ fun ρ1 => Z.nx ρ1 M1) : wpS Φ (.asgT t e) ρ M X Z := h
theorem wpS_par {is : List Nat} {es : List CE} (h : wpEs Φ es ρ M X fun ds M1 => Z.nx (parSet is ds ρ) M1) : wpS Φ (.par is es) ρ M X Z := h
theorem wpS_setix {o i e : CE} (h : wpE Φ e ρ M X fun d M1 => wpE Φ o ρ M1 X fun ov M2 => wpE Φ i ρ M2 X fun iv M3 => setIxD ov iv d M3 fun M4 => Z.nx ρ M4) : wpS Φ (.setix o i e) ρ M X Z := h
theorem wpS_append {o e : CE} (h : wpE Φ o ρ M X fun ov M1 => cellD ov M1 fun _ => wpE Φ e ρ M1 X fun d M2 => appD ov d M2 fun M3 => Z.nx ρ M3) : wpS Φ (.append o e) ρ M X Z := h
theorem wpS_ret {e : CE} (h : wpE Φ e ρ M X Z.rt) : wpS Φ (.ret e) ρ M X Z := h
theorem wpS_iff {c : CE} {a b : List CS} (h : wpT Φ c ρ M X fun k M1 => if k = true then wpSs Φ a ρ M1 X Z else wpSs Φ b ρ M1 X Z) : wpS Φ (.iff c a b) ρ M X Z := h
theorem wpS_for {t : Tg} {it : CE} {body : List CS} (h : wpI Φ it ρ M X fun xs M1 => forGo (fun d ρ' k => tgD t d ρ' k) (fun ρ' M' k => wpSs Φ body ρ' M' X (lopZ Z k)) xs ρ M1 Z.nx) : wpS Φ (.for_ t it body) ρ M X Z := h
theorem wpS_while {c : CE} {body : List CS} (h : ∃ n, whlGo (fun ρ' M' k => wpT Φ c ρ' M' X k) (fun ρ' M' k => wpSs Φ body ρ' M' X (lopZ Z k)) n ρ M Z.nx) : wpS Φ (.while_ c body) ρ M X Z := h
theorem wpS_brk (h : Z.bk ρ M) : wpS Φ .brk ρ M X Z := h
theorem wpS_cont (h : Z.ct ρ M) : wpS Φ .cont ρ M X Z := h
theorem wpS_pass (h : Z.nx ρ M) : wpS Φ .pass ρ M X Z := h
theorem wpS_asgM {ts : List TgS} {e : CE} (h : wpE Φ e ρ M X fun d M1 => match d with
    | .tup ds => ds.length = ts.length ∧ tgSDs Φ ts ds ρ M1 X Z.nx
    | _ => False) : wpS Φ (.asgM ts e) ρ M X Z := h
theorem wpS_gfrz {i : Nat} (h : withV (getD' ρ i) fun d => match d with
    | .cell a => cellL M a fun xs => Z.nx (setD' ρ i (.lst xs)) (M.del a)
    | _ => False) : wpS Φ (.gfrz i) ρ M X Z := h
end
end RF
namespace RF
open PySem PySem.Spec PyProof.Rows L2
/-! the places that a target stores to -/
mutual
def tgIx : Tg → List Nat
  | .nm i => [i]
  | .tup ts => tgIxs ts
def tgIxs : List Tg → List Nat
  | [] => []
  | t :: ts => tgIx t ++ tgIxs ts
end
structure FI where
  name : Str
  ps : List Str
  lvl : Nat
  deriving DecidableEq
structure KW where
  f : Nat
  n : Nat
  ks : List Str
  perm : List Nat
  deriving DecidableEq
structure GL where
  name : Str
  val : V
  deriving DecidableEq
structure Cfg where
  N : List Str
  fns : List FI
  kws : List KW
  gls : List GL
  gts : List (Str × List V) := []
  mth : List Str := []
  blt : List Str
  exs : List (Nat × (Str × Str))
  eis : List (Str × List Nat) := []
  calm : Bool
  lvl : Nat
/-! ### does the small text tell the great one? -/
section
variable (Γ : Cfg)
def visB (sc : Scope) (x : Str) : Bool := match sc.names.lookup x with
  | some .local => true
  | some .cell => true
  | some .free => true
  | _ => false
def glB (sc : Scope) (x : Str) : Bool := match sc.names.lookup x with
  | some .globalImplicit => true
  | _ => false
def locB (so : Scope) (x : Str) : Bool := match so.names.lookup x with
  | some .local => true
  | some .cell => true
  | _ => false
def plainN (x : Str) : Bool := !(x == ("__debug__" : Str)) && !(x == ("__classdict__" : Str))
def varB (sc : Scope) (i : Nat) (x : Str) : Bool := decide (Γ.N[i]? = some x) && (visB sc x && plainN x)
/-- the name of a built-in -/
def bltB (sc : Scope) (x y : Str) : Bool := decide (x = y) && (glB sc x && decide (x ∈ Γ.blt))
def litB : Const → D → Bool
  | .none, .non => true
  | .bool b, .bl c => b == c
  | .int i, .int j => i == j
  | .str x, .str y => decide (x = y)
  | _, _ => false
def BT.nm : BT → String
  | .int => "int" | .bool => "bool" | .str => "str" | .tuple => "tuple" | .list => "list" | .dict => "dict"
def Bi.nm : Bi → Str
  | .len => "len" | .isI _ => "isinstance" | .isI2 .. => "isinstance" | .int1 => "int" | .abs => "abs" | .max2 => "max" | .min2 => "min" | .max1 => "max" | .min1 => "min"
  | .divmod => "divmod" | .tupleOf => "tuple" | .listOf => "list" | .sum => "sum" | .all => "all" | .any => "any" | .gcd => "gcd"
  | .range => "range" | .enum => "enumerate" | .zip => "zip" | .listRg => "list" | .tupleRg => "tuple" | .sorted => "sorted" | .rangeV => "range" | .repr => "repr"
/-- of how many arguments, as a value -/
def Bi.ar : Bi → Option Nat
  | .len => some 1 | .isI _ => some 2 | .int1 => some 1 | .abs => some 1 | .max2 => some 2 | .min2 => some 2 | .max1 => some 1 | .min1 => some 1
  | .divmod => some 2 | .tupleOf => some 1 | .listOf => some 1 | .sum => some 1 | .all => some 1 | .any => some 1 | .sorted => some 1 | .rangeV => some 1 | .repr => some 1
  | _ => none
def isRev : Expr → Bool
  | .Slice none none (some (.UnaryOp .USub (.Constant (.int i) _ _) _)) _ => decide (i = 1)
  | _ => false
theorem isRev_of {e : Expr} (h : isRev e = true) : ∃ k p1 p2 p3, e = .Slice none none (some (.UnaryOp .USub (.Constant (.int 1) k p1) p2)) p3 := by
  unfold isRev at h
  split at h
  · rename_i i k p1 p2 p3
    obtain rfl := of_decide_eq_true h
    exact ⟨k, p1, p2, p3, rfl⟩
  · cases h
def okHead : Expr → Bool
  | .Name .. => true
  | .Constant .. => true
  | .Tuple .. => true
  | .List .. => true
  | .BinOp .. => true
  | .UnaryOp .. => true
  | .Compare .. => true
  | .BoolOp .. => true
  | .IfExp .. => true
  | .Call .. => true
  | .Subscript .. => true
  | .ListComp .. => true
  | .DictComp .. => true
  | .Dict .. => true
  | .Attribute .. => true
  | _ => false
def rgArgs : List Expr → Option (Str × List Expr)
  | [.Call (.Name y _) es' [] _] => some (y, es')
  | _ => none
theorem rgArgs_of {as : List Expr} {y : Str} {es : List Expr} (h : rgArgs as = some (y, es)) : ∃ p pos, as = [.Call (.Name y p) es [] pos] := by
  unfold rgArgs at h
  split at h
  · cases h; exact ⟨_, _, rfl⟩
  · cases h
def isiArgs : List Expr → Option (Expr × Str)
  | [a', .Name y _] => some (a', y)
  | _ => none
theorem isiArgs_of {as : List Expr} {y : Str} {a : Expr} (h : isiArgs as = some (a, y)) : ∃ p, as = [a, .Name y p] := by
  unfold isiArgs at h
  split at h
  · cases h; exact ⟨_, rfl⟩
  · cases h
def excArgs : List Expr → Option (Str × Str)
  | [.Name x _, .Name y _] => some (x, y)
  | _ => none
theorem excArgs_of {as : List Expr} {x y : Str} (h : excArgs as = some (x, y)) : ∃ p q, as = [.Name x p, .Name y q] := by
  unfold excArgs at h
  split at h
  · cases h; exact ⟨_, _, rfl⟩
  · cases h
def isi2Args : List Expr → Option (Expr × Str × Str)
  | [a', .Tuple [.Name y _, .Name z _] _ _] => some (a', y, z)
  | _ => none
theorem isi2Args_of {as : List Expr} {y z : Str} {a : Expr} (h : isi2Args as = some (a, y, z)) : ∃ p q k r, as = [a, .Tuple [.Name y p, .Name z q] k r] := by
  unfold isi2Args at h
  split at h
  · cases h; exact ⟨_, _, _, _, rfl⟩
  · cases h
/-- o.name() -/
def meth0 : Expr → Option (Expr × Str)
  | .Call (.Attribute a f ap) [] [] cp => if (ap.endLine == cp.line) = true then some (a, f) else none
  | _ => none
theorem meth0_of {e a : Expr} {f : Str} (h : meth0 e = some (a, f)) : ∃ ap cp, e = .Call (.Attribute a f ap) [] [] cp ∧ (ap.endLine == cp.line) = true := by
  unfold meth0 at h
  split at h
  · split at h
    · cases h; exact ⟨_, _, rfl, by assumption⟩
    · cases h
  · cases h
/-- o.name(args) -/
def meth1 : Expr → Option (Expr × Str × List Expr)
  | .Call (.Attribute a f ap) es [] cp => if (ap.endLine == cp.line) = true then some (a, f, es) else none
  | _ => none
theorem meth1_of {e a : Expr} {f : Str} {es : List Expr} (h : meth1 e = some (a, f, es)) : ∃ ap cp, e = .Call (.Attribute a f ap) es [] cp ∧ (ap.endLine == cp.line) = true := by
  unfold meth1 at h
  split at h
  · split at h
    · cases h; exact ⟨_, _, rfl, by assumption⟩
    · cases h
  · cases h
def Mt.nm : Mt → Str
  | .dget => "get"
def Mt.ar : Mt → Nat
  | .dget => 2
/-- no super() -/
def noSup : Expr → Bool
  | .Call (.Name _ _) [] [] _ => false
  | _ => true
def isNewL : CE → Bool
  | .lc .. => true
  | .bi .listOf _ => true
  | .bop .Add _ _ => true
  | .bop .Mult _ _ => true
  | _ => false
def isTupE : Expr → Bool
  | .Tuple .. => true
  | _ => false
mutual
def mTg (so : Scope) : Tg → Expr → Bool
  | .nm i, .Name x _ => decide (Γ.N[i]? = some x) && locB so x
  | .tup ts, .Tuple es _ _ => Γ.calm && mTgs so ts es
  | _, _ => false
def mTgs (so : Scope) : List Tg → List Expr → Bool
  | [], [] => true
  | t :: ts, e :: es => mTg so t e && mTgs so ts es
  | _, _ => false
end
def noMark (op : CmpOp) (e : Expr) : Bool := !behindInMarks op e
/-- read as a value, as a test, as what is walked (whether the target is a tuple) -/
inductive Md where | v | t | i (tp : Bool)
def Md.isV : Md → Bool
  | .v => true
  | _ => false
def Md.isI : Md → Bool
  | .i _ => true
  | _ => false
def Md.isT : Md → Bool
  | .t => true
  | _ => false
/-- a tuple is the target -/
def Md.tp : Md → Bool
  | .i b => b
  | _ => false
def callB (sc : Scope) (f : Nat) (n : Nat) (x : Str) : Bool := Γ.calm && (glB sc x && (plainN x && (decide (0 < n) && (match Γ.fns[f]? with
    | some fi => decide (fi.name = x) && (decide (fi.lvl ≤ Γ.lvl) && decide (fi.ps.length = n))
    | none => false))))
def callKB (sc : Scope) (f : Nat) (n : Nat) (ks : List Str) (perm : List Nat) (x : Str) : Bool := Γ.calm && (glB sc x && (plainN x && (decide (0 < ks.length) && (decide (⟨f, n, ks, perm⟩ ∈ Γ.kws) && (match Γ.fns[f]? with
    | some fi => decide (fi.name = x) && (decide (fi.lvl ≤ Γ.lvl) && decide (fi.ps.length = n + perm.length))
    | none => false)))))
def tupG (d : D) (k : List V → Bool) : Bool := match d with
  | .tup ds => decide (ds.length ≤ 1000) && (match flatDs ds with
    | some vs => k vs
    | none => false)
  | _ => false
def glcB (sc : Scope) (x : Str) (d : D) (y : Str) : Bool := decide (x = y) && (glB sc y && (plainN y && (match flatD d with
    | some v => decide (⟨x, v⟩ ∈ Γ.gls)
    | none => tupG d fun vs => decide ((x, vs) ∈ Γ.gts))))
def gfnB (sc : Scope) (x y : Str) : Bool := decide (x = y) && (glB sc y && (plainN y && Γ.fns.any fun fi => decide (fi.name = x) && decide (fi.lvl ≤ Γ.lvl)))
def mthN (l : Bool) : Str := if l then "lcm" else "gcd"
def mthI (x : Str) : String := if x = "lcm" then "math.lcm" else "math.gcd"
def mthB (sc : Scope) (l : Bool) (x : Str) : Bool := decide (x = mthN l) && (glB sc x && decide (x ∈ Γ.mth))
def candB (n : Nat) : List (Str × Nat) → Bool
  | [] => true
  | p :: r => (match Γ.fns[p.2]? with
    | some fi => decide (fi.name = p.1) && (decide (fi.lvl ≤ Γ.lvl) && decide (fi.ps.length = n))
    | none => false) && candB n r
mutual
def mE (m : Md) (sc : Scope) : CE → Expr → Bool
  | .var i, .Name x _ => varB Γ sc i x
  | .lit d, .Constant c _ _ => m.isV && litB c d
  | .gl x d, .Name y _ => m.isV && glcB Γ sc x d y
  | .tup es, .Tuple es' _ _ => !m.isT && (mEs .v sc es es' && decide (es.length ≤ 1000))
  | .lst lv es, .List es' _ => (m.isV || (m.isI && !lv)) && (mEs .v sc es es' && decide (es.length ≤ 1000))
  | .bop op a b, .BinOp a' op' b' _ => !m.isT && (decide (op = op') && (mE .v sc a a' && mE .v sc b b'))
  | .neg a, .UnaryOp .USub a' _ => m.isV && mE .v sc a a'
  | .not a, .UnaryOp .Not a' _ => !m.isI && mE m sc a a'
  | .cmp op a b, .Compare a' [op'] [b'] _ => !m.isI && (decide (op = op') && (noMark op b' && (mE .v sc a a' && mE .v sc b b')))
  | .chn op op2 a b c, .Compare a' [op', op2'] [b', c'] _ => !m.isI && (decide (op = op') && (decide (op2 = op2') && (noMark op2 c' && (mE .v sc a a' && (mE .v sc b b' && mE .v sc c c')))))
  | .and es, .BoolOp .And es' _ => !m.isI && (mEs m sc es es' && decide (0 < es.length))
  | .or es, .BoolOp .Or es' _ => !m.isI && (mEs m sc es es' && decide (0 < es.length))
  | .ifx c a b, .IfExp c' a' b' _ => m.isV && (mE .t sc c c' && (mE .v sc a a' && mE .v sc b b'))
  | .call f es, .Call (.Name x _) es' [] _ => mEs .v sc es es' && callB Γ sc f es.length x
  | .callK f es ks kes perm, .Call (.Name x _) es' kws _ => m.isV && (mEs .v sc es es' && (mKs sc ks kes kws && callKB Γ sc f es.length ks perm x))
  | .bi b es, .Call (.Name x _) as [] _ => match b with
    | .isI t => !m.isI && (match isiArgs as with
      | some (a', y) => mEs .v sc es [a'] && (bltB Γ sc x "isinstance" && bltB Γ sc y (Str.ofString t.nm))
      | none => false)
    | .isI2 t u => !m.isI && (match isi2Args as with
      | some (a', y, z) => mEs .v sc es [a'] && (bltB Γ sc x "isinstance" && (bltB Γ sc y (Str.ofString t.nm) && bltB Γ sc z (Str.ofString u.nm)))
      | none => false)
    | .listRg => !m.isT && (match rgArgs as with
      | some (y, es') => mEs .v sc es es' && (Γ.calm && (bltB Γ sc x "list" && (bltB Γ sc y "range" && decide (es.length = 1 ∨ es.length = 2))))
      | none => false)
    | .tupleRg => !m.isT && (match rgArgs as with
      | some (y, es') => mEs .v sc es es' && (Γ.calm && (bltB Γ sc x "tuple" && (bltB Γ sc y "range" && decide (es.length = 1 ∨ es.length = 2))))
      | none => false)
    | .range => m.isI && (mEs .v sc es as && (bltB Γ sc x "range" && decide (es.length = 1 ∨ es.length = 2)))
    | .enum => m.tp && (mEs .v sc es as && (bltB Γ sc x "enumerate" && decide (es.length = 1)))
    | .zip => m.tp && (mEs .v sc es as && (bltB Γ sc x "zip" && decide (es.length = 2)))
    | b => mEs .v sc es as && ((Γ.calm || decide (b = .len)) && (bltB Γ sc x b.nm && decide (b.ar = some es.length)))
  | .ix a b, .Subscript a' b' _ => mE .v sc a a' && mE .v sc b b'
  | .sl a lo hi, .Subscript a' (.Slice lo' hi' none _) _ => !m.isT && (mE .v sc a a' && ((match lo' with | none => lo.isEmpty | some x => mEs .v sc lo [x]) && (match hi' with | none => hi.isEmpty | some x => mEs .v sc hi [x])))
  | .slr a, .Subscript a' b' _ => m.isV && (isRev b' && mE .v sc a a')
  | .sls a lo k, .Subscript a' (.Slice lo' none (some (.Constant (.int i) _ _)) _) _ => m.isV && (decide (i = (k : Int)) && (mE .v sc a a' && (match lo' with | none => lo.isEmpty | some x => mEs .v sc lo [x])))
  | .lc own tg it ifs elt, .ListComp elt' [⟨tg', it', ifs', n⟩] scope _ => !m.isT && (decide (n = 0) && (Γ.calm && (mE (.i (isTupE tg')) sc it it' && (blkC Γ.N sc scope own && (mTg Γ scope tg tg' && ((tgIx tg).all (fun i => decide (i ∈ own.map (·.2))) && (decide (ifs.length ≤ 1) && (mEs .t (relS scope sc) ifs ifs' && mE .v (relS scope sc) elt elt'))))))))
  | .frz e, e' => m.isV && mE .v sc e e'
  | .nev, e' => okHead e'
  | .bits a, e' => m.isV && (match meth0 e' with
    | some (a', f) => decide (f = ("bit_length" : Str)) && (noSup a' && mE .v sc a a')
    | none => false)
  | .live c, e' => m.isV && (isNewL c && mE .v sc c e')
  | .lc2 own tg it ifs vs1 tg1 it1 ifs1 elt, .ListComp elt' [⟨tg', it', ifs', n⟩, ⟨tg1', it1', ifs1', n1⟩] scope _ => !m.isT && ((decide (n = 0) && decide (n1 = 0)) && (Γ.calm && (mE (.i (isTupE tg')) sc it it' && (blkC Γ.N sc scope own && (mTg Γ scope tg tg' && ((tgIx tg).all (fun i => decide (i ∈ own.map (·.2))) && (decide (ifs.length ≤ 1) && (mEs .t (relS scope sc) ifs ifs' && (mE .v (relS scope sc) elt elt' &&
      (mE (.i (isTupE tg1')) (relS scope sc) it1 it1' && (mTg Γ scope tg1 tg1' && (((tgIx tg1).all (fun i => decide (i ∈ vs1)) && vs1.all (fun i => decide (i ∈ own.map (·.2)))) && (decide (ifs1.length ≤ 1) && mEs .t (relS scope sc) ifs1 ifs1')))))))))))))
  | .dctE, .Dict [] [] _ => m.isV
  | .mth l a b, .Call (.Name x _) [a', b'] [] _ => m.isV && (mthB Γ sc l x && (mE .v sc a a' && mE .v sc b b'))
  | .dc own tg it ifs ke ve, .DictComp ke' ve' [⟨tg', it', ifs', n⟩] scope _ => m.isV && (decide (n = 0) && (Γ.calm && (mE (.i (isTupE tg')) sc it it' && (blkC Γ.N sc scope own && (mTg Γ scope tg tg' && ((tgIx tg).all (fun i => decide (i ∈ own.map (·.2))) && (decide (ifs.length ≤ 1) && (mEs .t (relS scope sc) ifs ifs' && (mE .v (relS scope sc) ke ke' && mE .v (relS scope sc) ve ve')))))))))
  | .mt b o es, e' => m.isV && (match meth1 e' with
    | some (a', f, es') => decide (f = b.nm) && (decide (es.length = b.ar) && (noSup a' && (mE .v sc o a' && mEs .v sc es es')))
    | none => false)
  | .gfn x, .Name y _ => m.isV && gfnB Γ sc x y
  | .fdn a b, .BinOp a' .FloorDiv b' _ => m.isV && (mE .v sc a a' && mE .v sc b b')
  | .excIs i x cs, .Call (.Name f _) as [] _ => !m.isI && (match excArgs as with
    | some (e, y) => !Γ.calm && (varB Γ sc i e && (bltB Γ sc f "isinstance" && (decide (x = y) && (glB sc y && decide ((x, cs) ∈ Γ.eis)))))
    | none => false)
  | .excAt i cs, .Attribute (.Name e _) y _ => m.isV && ((!Γ.calm && decide (y ≠ "")) && (varB Γ sc i e && cs.all fun c => match Γ.exs.lookup c with | some p => decide (p.2 = y) | none => true))
  | .callL i es cs, .Call (.Name x _) es' [] _ => !m.isI && (Γ.calm && (varB Γ sc i x && (decide (0 < es.length) && (candB Γ es.length cs && mEs .v sc es es'))))
  | _, _ => false
def mEs (m : Md) (sc : Scope) : List CE → List Expr → Bool
  | [], [] => true
  | c :: cs, e :: es => mE m sc c e && mEs m sc cs es
  | _, _ => false
def mKs (sc : Scope) : List Str → List CE → List Keyword → Bool
  | [], [], [] => true
  | k :: ks, c :: cs, ⟨n, e, _⟩ :: es => decide (n = some k) && (mE .v sc c e && mKs sc ks cs es)
  | _, _, _ => false
end
end
end RF
namespace RF
open PySem PySem.Spec PyProof.Rows L2
/-! ### promises of defs that ask that no repr is under way -/
structure FnG (P : Program) (w : World) (K : PySem.W.Frag) (mg : Str → Option Value) (base : Heap) (CX : CXT) (k : Nat) (f : Addr) (fd : FuncData) (ps : List Str) (sp : Sp) : Prop where
  len : ∀ (vs : List V) (H : Hp) (Q : VK) (E : XK), sp vs H Q E → vs.length = ps.length
  run : ∀ (A : Around) (outer : List Env) (s : Shared) (H : Hp) (args : Args) (us : List Value) (vs : List V) (Q : VK) (E : XK),
    Room k A → A.guards = some [] → Env0 P w K mg base A outer s H → BindsTo s fd args (ps.zip us) → Vals vs us → sp vs H Q E → codeAny (model P w) A (.call (.ref f) args) (CR CX outer P w H s Q E) s
section
variable {CX : CXT} {P : Program} {w : World} {K : PySem.W.Frag} {mg : Str → Option Value} {base : Heap} {k : Nat} {f : Addr} {name qual : Str} {params : Arguments} {body : List Stmt} {scope : Scope} {dV kV doc pm cdv ct oc : Value} {an od : Option Addr} {osl : Array (Option Value)} {N ps : List Str} {sp : Sp}
theorem fnG_of (lk : List.lookup f K = some ⟨oc, od, .func (PySem.W.fnOf name qual params body scope dV kV doc pm an cdv ct), osl⟩) (hcd : PySem.W.codeIn K cdv qual = true) (S : FnScope N ps scope) (len : ∀ (vs : List V) (H : Hp) (Q : VK) (E : XK), sp vs H Q E → vs.length = ps.length)
    (hbody : ∀ (A : Around) (outer : List Env) (s : Shared) (H : Hp) (vs : List V) (Q : VK) (E : XK), Room k (A.deeper (envOfC qual scope s.heap.objs.size f cdv)) → (A.deeper (envOfC qual scope s.heap.objs.size f cdv)).guards = some [] → sp vs H Q E →
      ∃ t, PSs (cxOf CX P w K mg base N qual scope f cdv A outer s H E) body t ∧ t { nx := fun _ H' => Q .non H', rt := Q } (L2.start N vs) H) :
    FnG P w K mg base CX (k + 1) f (PySem.W.fnOf name qual params body scope dV kV doc pm an cdv ct) ps sp where
  len := len
  run := fun A outer s H args us vs Q E hr hg e0 hb r hsp => by
    have hl := len vs H Q E hsp
    have KX := e0.mod.kin.keeps fun b o e => (e0.bs b o e).1
    have lim := e0.mod.nolimit.keeps fun b o e => (e0.bs b o e).1
    refine codeAny_call_function hr.depth (KX f _ lk) rfl S.co S.gen rfl (PySem.W.codeRec_of KX hcd)
      (hb (model P w) A.in1 (fun e s' => CR CX outer P w H s Q E (.error e) s') _ (wpAny_newFunctionEnv_cells S.kind (fun (n, v) hy => ?_) fun env he s1 x => ?_))
    · rcases S.par n (List.of_mem_zip hy).1 with q | q
      · exact .inl q
      · exact .inr ⟨q, PySem.W.cellsFrom_some scope.names (s.heap.objs.size + 1) [] (.inl q)⟩
    · subst he
      refine ⟨lim.keeps x.toInCall.keep, codeAny_func ?_⟩
      obtain ⟨t, ht, hq⟩ := hbody A outer s H vs Q E (hr.deeper _) hg hsp
      have I := inv_start (CX := CX) (E := E) S hr.hd e0 hl r x
      refine wpAny_mono (ht.run [] s1 (L2.start N vs) H { nx := fun _ H' => Q .non H', rt := Q } I hq) (fun fl s' hs => ?_) fun e s' hs => hs
      cases fl with
      | next =>
        obtain ⟨σ', H', J, q⟩ := hs
        exact ⟨.non, H', J.os, J.bare, J.base, J.hok, rfl, q⟩
      | brk => obtain ⟨_, _, _, q⟩ := hs; exact q.elim
      | cont => obtain ⟨_, _, _, q⟩ := hs; exact q.elim
      | ret u =>
        obtain ⟨v, σ', H', J, rv, q⟩ := hs
        exact ⟨v, H', J.os, J.bare, J.base, J.hok, rv, q⟩
end
theorem FunD.okG {P : Program} {w : World} {K : PySem.W.Frag} {mg : Str → Option Value} {base : Heap} {x qual : Str} {params : Arguments} {body : List Stmt} {scope : Scope} {dvs : List V} {kws : List (Str × V)} {f : Addr} {fd : FuncData} {CX : CXT} {N ps : List Str} {k : Nat} {sp : Sp}
    (F : FunD K x qual params body scope dvs kws f fd) (S : FnScope N ps scope) (len : ∀ (vs : List V) (H : Hp) (Q : VK) (E : XK), sp vs H Q E → vs.length = ps.length)
    (hbody : ∀ (cdv : Value) (A : Around) (outer : List Env) (s : Shared) (H : Hp) (vs : List V) (Q : VK) (E : XK), Room k (A.deeper (envOfC qual scope s.heap.objs.size f cdv)) → (A.deeper (envOfC qual scope s.heap.objs.size f cdv)).guards = some [] → sp vs H Q E →
      ∃ t, PSs (cxOf CX P w K mg base N qual scope f cdv A outer s H E) body t ∧ t { nx := fun _ H' => Q .non H', rt := Q } (L2.start N vs) H) : FnG P w K mg base CX (k + 1) f fd ps sp := by
  obtain ⟨oc, od, dV, kV, doc, pm, an, cdv, ct, osl, rfl, lk, hcd, -, -⟩ := F.ex
  exact fnG_of lk hcd S len fun A outer s H vs Q E hr hg hsp => hbody cdv A outer s H vs Q E hr hg hsp
section
variable {X : Cx} {pins : List (Addr × Obj)}
/-- a call of a def by its promise -/
theorem run_fnG {CX : CXT} {k : Nat} {f : Addr} {fd : FuncData} {ps : List Str} {sp : Sp} {E : L2.St → XK} {σ : L2.St} {H : Hp} {s : Shared} {Q : VK} {us : List Value} {vs : List V} (F : FnG X.prog X.w X.K X.mg X.base CX k f fd ps sp) (hr : Room k X.A) (hg : X.A.guards = some [])
    (hb : Binds X.K fd ps []) (hx : PassesAt CX X σ (E σ)) (I : Inv X pins σ H s) (r : Vals vs us) (q : sp vs H Q (E σ)) : wpAny (model X.prog X.w) X.A (call (.ref f) us) (EP X pins σ Q) X.xe s := by
  have hl : us.length = ps.length := by rw [← r.length]; exact F.len _ _ _ _ q
  refine wpAny_call (codeAny_mono (F.run X.A X.stack s H ⟨us, []⟩ us vs Q (E σ) hr hg I.env0 ?_ r q) fun r s' hq => ?_)
  · have := hb s us I.kIn (by simpa using hl)
    simpa using this
  · cases r with
    | error e => exact hx pins H s e s' I hq
    | ok fl =>
      cases fl with
      | ret u => exact I.after hq
      | next => exact False.elim hq
      | brk => exact False.elim hq
      | cont => exact False.elim hq
theorem pe_callG {CX : CXT} {k : Nat} {f : Addr} {fd : FuncData} {ps : List Str} {sp : Sp} {E : L2.St → XK} {x : Str} {p pos : Pos} {e : Expr} {es : List Expr} {t : TA} (F : FnG X.prog X.w X.K X.mg X.base CX k f fd ps sp) (hr : Room k X.A) (hgd : X.A.guards = some []) (hg : Gl X x) (hm : X.mg x = some (.ref f)) (hk : PySem.W.keepIn X.K (.ref f) = true)
    (hb : Binds X.K fd ps []) (hx : ∀ σ, PassesAt CX X σ (E σ)) (ha : PA X (e :: es) t) (hdb : (x == ("__debug__" : Str)) = false) (he : starEach (e :: es) X.env = (false, eval e X.env) :: starEach es X.env) (hpl : (backTo pos (starEach es X.env)).any (·.1) = false) : PE X (.Call (.Name x p) (e :: es) [] pos) (tCallS sp E t) := by
  refine ⟨fun pins s σ H Q I h => ?_⟩
  refine wpAny_Call_Name_kw (ld_glob I hg hm ?_ hdb)
  refine PySem.W.callWith_K (h₀ := X.base) I.ok.mod.kin hk (thn (ha.run pos pins s σ _ _ I h) fun us s2 ⟨vs, H2, I2, r, q⟩ => ⟨I2.kIn, ?_⟩) he hpl
  exact run_fnG F hr hgd hb (hx σ) I2 r q
end
end RF
namespace RF
open PySem PySem.Spec PySem.W PySem.Calls PyProof.Rows PySem.HandSPX L2
/-! ### errors of the program's own: a class with one value, kept by its __init__ under its own name -/
def iA (y : Str) (p1 p2 : Pos) : Arguments := { posonlyargs := [], args := [{ arg := "self", annotation := none, pos := p1 }, { arg := y, annotation := none, pos := p2 }], vararg := none, kwonlyargs := [], kw_defaults := [], kwarg := none, defaults := [] }
def iB (y : Str) (q1 q2 q3 q4 : Pos) : List Stmt := [.Assign [.Attribute (.Name "self" q1) y q2] (.Name y q3) q4]
def iS (y : Str) : Scope := { kind := .function, names := [(PySem.Str.ofString "self", .local), (y, .local)], isGenerator := false, isCoroutine := false, more := [] }
/-- what the written part says of the class x, at C, whose values are kept as y by its __init__, at fI -/
structure ExcF (K : Frag) (y : Str) (C fI : Addr) : Prop where
  cls : ∃ nm q N bs bm sn sub ab col dd k0 k1 k2 k3 k5, K.lookup C = some (excClassObj nm q C N bs bm true sn sub ab col dd k0 k1 k2 k3 k5 "ValueError.__new__") ∧ refsVE bm = true
  sa : findIn K (.ref C) "__setattr__" = some (some (.builtin "object.__setattr__"))
  ga : findIn K (.ref C) "__getattribute__" = some (some (.builtin "BaseException.__getattribute__"))
  gg : findIn K (.ref C) "__getattr__" = some none
  noN : findIn K (.ref C) y = some none
  iC : findIn K (.ref C) "__init__" = some (some (.ref fI))
  tC : typeIn K (.ref fI) = some (.type "function")
  kC : keepIn K (.ref C) = true
  exC : subIn K (.ref C) (.type "BaseException") = some true
  tyC : typeIn K (.ref C) = some (.type "type")
  hdC : hasDictIn K C = true
  nm : y = "given" ∨ y = "index"
  fn : ∃ (oc : Value) (od : Option Addr) (qn : Str) (kV doc pm : Value) (an : Option Addr) (cdv ct : Value) (osl : Array (Option Value)) (p1 p2 q1 q2 q3 q4 : Pos),
    K.lookup fI = some ⟨oc, od, .func (fnOf "__init__" qn (iA y p1 p2) (iB y q1 q2 q3 q4) (iS y) .none kV doc pm an cdv ct), osl⟩ ∧ codeIn K cdv qn = true
theorem ldC {M : Model} {s : Shared} {name : Str} {scope : Scope} {L a : Addr} {cd : Value} {m : Str → Option Value} {x : Str} {pos : Pos} {v : Value} {Q : Value → Shared → Prop} {A : Around} {E : Value → Shared → Prop} (hn : s.heap.Ns L m) (hv : m x = some v) (h : Q v s)
    (hk : scope.kind = .function) (hl : (envOfC name scope L a cd).kindOf x = some .local) (hd : (x == ("__debug__" : Str)) = false) :
    wpAny M A (eval (.Name x pos) (envOfC name scope L a cd)) Q E s := wpAny_Name (wpAny_loadName_local hk hl hn hv h) hd
/-- what __init__ leaves of a fresh exception at x -/
structure InitEnd (y : Str) (h h' : Heap) (x C dx t1 : Addr) (v : Value) : Prop where
  keep : ∀ b o, b ≠ x → h.get? b = some o → h'.get? b = some o
  obj : h'.get? x = some { cls := .ref C, dict := some dx, data := .fields #[.ref t1, .none, .none, .none, .bool false, .none] }
  dbig : h.objs.size ≤ dx
  dne : dx ≠ x
  ns : h'.Ns1 dx (fun z => if z = y then some v else none)
/-- a made one -/
structure OwnMade (y : Str) (h h' : Heap) (e C d : Addr) (v : Value) : Prop where
  keep : ∀ b o, h.get? b = some o → h'.get? b = some o
  new : h.objs.size ≤ e
  obj : ∃ oe vs, h'.get? e = some oe ∧ oe.cls = .ref C ∧ oe.dict = some d ∧ oe.data = .fields vs ∧ vs[1]? = some .none
  dbig : h.objs.size ≤ d
  dne : d ≠ e
  ns : h'.Ns1 d (fun z => if z = y then some v else none)
section
variable {prog : Program} {w : World} {A : Around} {E : Value → Shared → Prop} {R : Result → Shared → Prop} {s : Shared} {K : Frag} {C fI : Addr} {y : Str}
theorem exc_init (T : ExcF K y C fI) {x t0 : Addr} {v : Value} (X : K.In s.heap) (hlim : s.heap.NoLimit) (hx : s.heap.get? x = some (excO C t0)) (hnx : K.lookup x = none) (hroom : A.depth < recursionLimit)
    (hq : ∀ h' tk dx, InitEnd y s.heap h' x C dx t0 v → R (.ok (.ret .none)) { s with heap := h', toks := tk }) :
    codeAny (model prog w) A (.call (.ref fI) ⟨[.ref x, v], []⟩) R s := by
  rcases T.nm with rfl | rfl
  all_goals
    obtain ⟨oc, od, qn, kV, doc, pm, an, cdv, ct, osl, p1, p2, q1, q2, q3, q4, ho, hcd⟩ := T.fn
    obtain ⟨nm, q, N, bs, bm, sn, sub, ab, col, dd, k0, k1, k2, k3, k5, hC, hbm⟩ := T.cls
    have hcl : clsIn K C = some { name := nm, bases := bs, mro := .ref C :: bm, ns := N, qualname := q, hasDict := true, slotNames := sn, subclasses := sub, abstract := ab, collection := col, hasDel := false } := by unfold clsIn; rw [hC] <;> rfl
    first
      | refine Att.call_fn (binds := [("self", .ref x), ("given", v)]) X hlim ho hcd hroom (BindsTo.of_eq (by first | rfl | with_unfolding_all rfl)) (by first | rfl | decide | with_unfolding_all rfl) (fun s₁ IC => ?_) rfl rfl rfl
      | refine Att.call_fn (binds := [("self", .ref x), ("index", v)]) X hlim ho hcd hroom (BindsTo.of_eq (by first | rfl | with_unfolding_all rfl)) (by first | rfl | decide | with_unfolding_all rfl) (fun s₁ IC => ?_) rfl rfl rfl
    obtain ⟨h₁, tk₁, rfl⟩ := IC.toInCall.same
    have k : ∀ b o, s.heap.get? b = some o → h₁.get? b = some o := IC.toInCall.keep
    have hn := IC.toInCall.ns
    have hxL : s.heap.objs.size ≠ x := Nat.ne_of_gt (Heap.lt_size hx)
    have X₁ : K.In h₁ := X.keeps k
    have hx₁ := k _ _ hx
    show wpAny _ _ (execs _ _) _ _ _
    refine wpAny_execs_cons (plainObj_wpAny_Assign_Attribute ?_)
    refine ldC (v := v) hn (by first | rfl | with_unfolding_all rfl | kernel_rfl) (ldC (v := .ref x) hn (by first | rfl | with_unfolding_all rfl | kernel_rfl) ?_ rfl rfl (by decide)) rfl rfl (by decide)
    refine set_plain X₁ (ox := excO C t0) (od := none) ⟨hx₁, rfl, rfl, trivial⟩ T.sa ?_
    refine exc_osa X₁ hx₁ hcl (show refsVE (.ref C :: bm) = true from hbm) rfl T.noN (fun h₃ tk₃ dx k₃ dn dne hx₃ hn₃ => ?_)
    show wpAny _ _ (execs _ _) _ _ _
    have z : s.heap.objs.size < h₁.objs.size := hn.lt
    exact wpAny_execs_nil (hq h₃ tk₃ dx ⟨fun b o hb e => k₃ b o hb (k b o e), hx₃, Nat.le_of_lt (Nat.lt_of_lt_of_le z dn), dne, hn₃⟩)
theorem exc_made (T : ExcF K y C fI) {v : Value} (X : K.In s.heap) (hlim : s.heap.NoLimit) (hroom : A.depth + 1 < recursionLimit)
    (hq : ∀ h' tk e d, OwnMade y s.heap h' e C d v → R (.ok (.ret (.ref e))) { s with heap := h', toks := tk }) :
    codeAny (model prog w) A (.call (.ref C) ⟨[v], []⟩) R s := by
  obtain ⟨nm, q, N, bs, bm, sn, sub, ab, col, dd, k0, k1, k2, k3, k5, hC, hbm⟩ := T.cls
  obtain ⟨hp, g, dr, tk, os⟩ := s
  have k : ∀ b o, hp.get? b = some o → ((hp.push (kdv_tup [v])).push (excO C hp.objs.size)).get? b = some o := fun b o e => Heap.get?_push_of_some _ (Heap.get?_push_of_some _ e)
  have hget : ((hp.push (kdv_tup [v])).push (excO C hp.objs.size)).get? (hp.objs.size + 1) = some (excO C hp.objs.size) := by heap_get
  have hnx : K.lookup (hp.objs.size + 1) = none := by
    cases e : K.lookup (hp.objs.size + 1) with
    | none => rfl
    | some o =>
      have z : hp.get? (hp.objs.size + 1) = some o := X _ _ e
      exact absurd (Nat.lt_of_succ_lt (Heap.lt_size z)) (Nat.lt_irrefl _)
  refine call_own F.excBase_ValueError (fun X => refsVE_contains X bm hbm) (X _ _ hC) (looks_findIn X T.iC) (fun self => bind_fn X self T.tC) (by rw [sizeLine_eq]; exact (by decide : 1 ≤ 16777216)) ?_
  refine exc_init (s := ⟨(hp.push (kdv_tup [v])).push (excO C hp.objs.size), g, dr, tk, os⟩) T (X.keeps k) (hlim.keeps k) hget hnx ?_ fun h' tk' dx ⟨k', hx, dn, dne, hns⟩ => ?_
  · show A.depth + 1 < recursionLimit
    exact hroom
  · have old : ∀ b o, hp.get? b = some o → h'.get? b = some o := fun b o e => k' b o (Nat.ne_of_lt (Nat.lt_succ_of_lt (Heap.lt_size e))) (k b o e)
    have z : hp.objs.size + 1 + 1 ≤ dx := by
      first
        | (simpa only [Heap.size_push] using dn)
        | exact dn
        | (have q := dn; rw [Heap.size_push, Heap.size_push] at q; exact q)
    exact ⟨rfl, hq h' tk' (hp.objs.size + 1) dx ⟨old, Nat.le_succ _, ⟨_, _, hx, rfl, rfl, rfl, rfl⟩, Nat.le_trans (Nat.le_trans (Nat.le_succ _) (Nat.le_succ _)) z, dne, hns⟩⟩
end
theorem relO_at {y : Str} {v : V} {v' : Value} (r : RelV v v') (f : Str) : RelO (List.lookup f [(y, v)]) (if f = y then some v' else none) := by
  by_cases hw : f = y
  · subst hw
    rw [if_pos rfl]
    have q : List.lookup f [(f, v)] = some v := by simp [List.lookup]
    rw [q]
    exact r
  · rw [if_neg hw]
    have qw : (f == y) = false := by simpa using hw
    have q2 : List.lookup f [(y, v)] = none := by simp [List.lookup, qw]
    rw [q2]
    trivial
section
variable {X : Cx} {C fI : Addr} {x y : Str}
/-- x(e), an error made -/
def tMk (y : Str) (C : Addr) (ta : TA) : L2.St → Hp → XK → Prop := fun σ H Q => ta σ H fun vs H1 => ∃ v, vs = [v] ∧ ∀ d, H1 d = none → Q (.ref C) (some d) (upd H1 d (.xd [(y, v)]))
theorem pmk_exc {a : Expr} {ta : TA} {p pos : Pos} {k : Nat} (T : ExcF X.K y C fI) (hm : X.mg x = some (.ref C)) (hr : Room k X.A) (ha : PA X [a] ta) (hg : Gl X x) (hdb : (x == ("__debug__" : Str)) = false)
    (he : starEach (a :: []) X.env = (false, eval a X.env) :: starEach [] X.env) (hpl : (backTo pos (starEach [] X.env)).any (·.1) = false) :
    PMk X (.Call (.Name x p) [a] [] pos) (tMk y C ta) := by
  intro pins s σ H Q I h
  refine wpAny_Call_Name_kw (ld_glob I hg hm ?_ hdb)
  refine PySem.W.callWith_K (h₀ := X.base) I.ok.mod.kin T.kC (thn (ha.run pos pins s σ H _ I h) fun us s1 hh => ?_) he hpl
  obtain ⟨vs, H1, I1, r1, v, ev, q1⟩ := hh
  subst ev
  refine ⟨I1.kIn, ?_⟩
  cases r1 with
  | cons rv rn =>
    rename_i v' us'
    cases rn
    show wpAny _ _ (call (.ref C) [v']) _ _ _
    have hlim := I1.nolimit
    obtain ⟨hp, g, dr, tk, os⟩ := s1
    refine wpAny_call (exc_made T I1.kIn hlim (by have := hr.dp; omega) fun h' tk' e d M => ?_)
    show MkP X pins σ Q (.ref e) ⟨h', g, dr, tk', os⟩
    obtain ⟨oe, fv, hoe, hc, hd, hdat, h1⟩ := M.obj
    have hns := M.ns
    obtain ⟨G', g1, g2⟩ := restrict h' fun b => decide (b ≠ e)
    have gk : ∀ b, b ≠ e → G'.get? b = h'.get? b := fun b hb => g1 b (decide_eq_true hb)
    have ge : G'.get? e = none := g2 e (by simp)
    have old : ∀ b o, hp.get? b = some o → G'.get? b = some o := fun b o q => (gk b (Nat.ne_of_lt (Nat.lt_of_lt_of_le (Heap.lt_size q) M.new))).trans (M.keep b o q)
    have ob : ObjOk X.prog X.w (upd H1 d (.xd [(y, v)])) G' d (.xd [(y, v)]) :=
      ⟨_, hns.at (fun o q => (gk d M.dne).trans q), fun f => relO_at rv f⟩
    have J : Inv X pins σ (upd H1 d (.xd [(y, v)])) ⟨G', g, dr, tk', os⟩ := I1.laid (t' := tk') old M.dbig ob
    refine ⟨e, oe, fv, ⟨G', g, dr, tk', os⟩, _, .ref C, some d, rfl, J, fun b o q => ?_, ge, hoe, ⟨hc, hd⟩, hdat, h1, ?_, rfl, I1.bare, raises_own T.exC T.tyC, q1 d (I1.hok.fresh M.dbig)⟩
    · by_cases hb : b = e
      · have q' : G'.get? b = some o := q
        rw [hb, ge] at q'; cases q'
      · exact (gk b hb).symm.trans q
    · rw [upd_ne (Ne.symm M.dne)]
      exact I1.hok.fresh M.new
/-- raise x(e) -/
def tRaise (y : Str) (C : Addr) (W : WX) (ta : TA) : TS := fun _ σ H => tMk y C ta σ H fun cls d H' => W cls d σ H'
theorem ps_raiseX {a : Expr} {ta : TA} {W : WX} {p pos pos2 : Pos} {k : Nat} (hc : X.calm = true) (T : ExcF X.K y C fI) (hm : X.mg x = some (.ref C)) (hr : Room k X.A) (tk : Takes X W) (ha : PA X [a] ta) (hg : Gl X x) (hdb : (x == ("__debug__" : Str)) = false)
    (he : starEach (a :: []) X.env = (false, eval a X.env) :: starEach [] X.env) (hpl : (backTo pos (starEach [] X.env)).any (·.1) = false) :
    PS X (.Raise (some (.Call (.Name x p) [a] [] pos)) none pos2) (tRaise y C W ta) := ps_raise hc tk (pmk_exc T hm hr ha hg hdb he hpl)
/-- e.y, e an exception that stands pinned -/
theorem pe_attrX {y : Str} {e : Expr} {te : TE} {pos : Pos} (he : PE X e te) (hb : attributeBase e y X.env (eval e X.env) = eval e X.env) :
    PE X (.Attribute e y pos) (fun σ H Q => te σ H fun z H1 => ∃ (a : Addr) (oe : Obj) (C fI dd : Addr) (v : V), (a, oe) ∈ X.pn ∧ Zc (.ref C) (some dd) oe ∧ (∃ vs, oe.data = .fields vs) ∧ ExcF X.K y C fI ∧ z = .ref a ∧ H1 dd = some (.xd [(y, v)]) ∧ Q v H1) := by
  refine ⟨fun pins s σ H Q I h => ?_⟩
  refine attr_of hb (thn (he.run pins s σ H _ I h) fun u s1 hh => ?_)
  obtain ⟨z, H1, I1, rx, a, oe, C, fI, dd, v, hp, hz, hf, T, ex, ea, q⟩ := hh
  subst ex
  obtain rfl : u = Value.ref a := rx
  obtain ⟨ha, _⟩ := I1.pin (a, oe) (List.mem_append_left _ hp)
  obtain ⟨vs, hd⟩ := hf
  have hx : ObjOk X.prog X.w H1 s1.heap dd (.xd [(y, v)]) := I1.hok dd _ ea
  obtain ⟨mA, hns, hr⟩ := hx
  obtain ⟨od, ho, hl⟩ := lookIn_ns hns
  have l : List.lookup y [(y, v)] = some v := by simp [List.lookup]
  obtain ⟨u, hu, ru⟩ := RelO.some_of (v := v) (o := mA y) (by rw [← l]; exact hr y)
  have J : PySem.W.InstAt s1.heap a oe C (some od) := ⟨ha, hz.1, by unfold PySem.W.notCls; rw [hd] <;> rfl, by rw [hz.2]; exact ho⟩
  exact HandSPX.exc_get I1.kIn J T.ga T.gg T.exC (PySem.W.findObj_own T.hdC T.noN rfl (by rw [hl, hu])) (handed_of ru) ⟨v, H1, I1.tok _, ru, q⟩
/-- isinstance(e, c), e an exception that stands pinned -/
def rIsX (X : Cx) : List V → Hp → VK → Prop := fun xs H Q => ∃ (a : Addr) (oe : Obj) (C : Addr) (d : Option Addr) (c : V) (cv : Value) (b : Bool), (a, oe) ∈ X.pn ∧ Zc (.ref C) d oe ∧ (∃ vs, oe.data = .fields vs) ∧ ExcC X.K C ∧ xs = [.ref a, c] ∧ (∀ u, RelV c u → u = cv) ∧
  PySem.W.kitOne X.K (.ref C) cv = some b ∧ (d = none ∨ ∃ dd y v, d = some dd ∧ H dd = some (.xd [(y, v)])) ∧ Q (.bl b) H
theorem call_isX : CallR X (.builtin "isinstance") (rIsX X) := by
  intro pins s σ H xs us Q I r h
  obtain ⟨a, oe, C, d, c, cv, b, hp, hz, hf, T, rfl, hcv, e, hd, q⟩ := h
  cases r with
  | cons rx rr =>
    cases rr with
    | cons rt rr =>
      cases rr
      cases rx
      have ec := hcv _ rt
      subst ec
      obtain ⟨ha, _⟩ := I.pin (a, oe) (List.mem_append_left _ hp)
      obtain ⟨vs, hv⟩ := hf
      obtain ⟨od, J⟩ : ∃ od, PySem.W.InstAt s.heap a oe C od := by
        rcases hd with rfl | ⟨dd, y, v, rfl, hdd⟩
        · exact ⟨none, ha, hz.1, by unfold PySem.W.notCls; rw [hv] <;> rfl, by rw [hz.2]; trivial⟩
        · obtain ⟨mA, hns, hr⟩ := show ObjOk X.prog X.w H s.heap dd (.xd [(y, v)]) from I.hok dd _ hdd
          obtain ⟨od, ho, _⟩ := lookIn_ns hns
          exact ⟨some od, ha, hz.1, by unfold PySem.W.notCls; rw [hv] <;> rfl, by rw [hz.2]; exact ho⟩
      have hcl : (PySem.W.clsIn X.K C).isSome = true := by
        obtain ⟨cd, hc, _⟩ := PySem.W.any_some T.hd
        rw [hc]; rfl
      exact PySem.W.kia_one (PySem.W.kitx_exc hcl T.hg T.hk T.hs T.ha T.hn T.ht T.hm) I.kIn J e (fun z => nomatch z) fun tk => ⟨.bl b, H, I.kept (t' := tk) fun _ _ z => z, rfl, q⟩
end
/-! ### a class without attribute -/
structure ExcN (K : Frag) (C : Addr) : Prop where
  q : PySem.W.excIn K C veTail "ValueError.__new__" = true
  k : keepIn K (.ref C) = true
  exC : subIn K (.ref C) (.type "BaseException") = some true
  tyC : typeIn K (.ref C) = some (.type "type")
section
variable {X : Cx} {C : Addr}
/-- raise x() -/
theorem ps_raise0 {x : Str} {W : WX} {p pos pos2 : Pos} (hc : X.calm = true) (T : ExcN X.K C) (hm : X.mg x = some (.ref C)) (tk : Takes X W) (hg : Gl X x) (hdb : (x == ("__debug__" : Str)) = false) :
    PS X (.Raise (some (.Call (.Name x p) [] [] pos)) none pos2) (fun _ σ H => W (.ref C) none σ H) := by
  refine ps_raise (t := fun _ H Q => Q (.ref C) none H) hc tk fun pins s σ H Q I h => ?_
  refine wpAny_Call_Name_kw (ld_glob I hg hm ?_ hdb)
  refine PySem.W.callWith_K0 I.kIn T.k ?_
  show wpAny _ _ (call (.ref C) []) _ _ _
  obtain ⟨hp, g, dr, tk, os⟩ := s
  obtain ⟨bm, N, nm, qn, bs, hdct, sn, sub, ab, col, dd, k0, k1, k2, k3, k5, mN, hC, hN, hni, TT⟩ := exc_obj I.kIn T.q
  refine wpAny_call_exc_subT PySem.F.excBase_ValueError TT hC hN hni (fun h' e hm => ?_) (Nat.zero_le _)
  exact mk_of I hm (raises_own T.exC T.tyC) h (I.hok.gone hm.new)
end
/-! ### the classes of errors of a law -/
theorem look_mem {α : Type} : ∀ {l : List (Nat × α)} {n : Nat} {c : α}, l.lookup n = some c → (n, c) ∈ l
  | [], _, _, h => nomatch h
  | (m, d) :: r, n, c, h => by
    rw [List.lookup_cons] at h
    by_cases e : n = m
    · subst e
      simp at h
      rw [h]; exact List.mem_cons_self
    · rw [show (n == m) = false from by simpa using e] at h
      exact List.mem_cons_of_mem _ (look_mem h)
structure ExAll (K : Frag) (mg : Str → Option Value) (exs : List (Nat × (Str × Str))) (eis : List (Str × List Nat)) : Prop where
  cls : ∀ q ∈ exs, (q.2.1 == ("__debug__" : Str)) = false ∧ ∃ C, mg q.2.1 = some (.ref C) ∧ ExcC K C ∧ ((∃ fI, ExcF K q.2.2 C fI) ∨ (q.2.2 = "" ∧ ExcN K C))
  is : ∀ e ∈ eis, (e.1 == ("__debug__" : Str)) = false ∧ ∃ (c : V) (cv : Value), RelV c cv ∧ (∀ u, RelV c u → u = cv) ∧ (mg e.1 = some cv ∨ (mg e.1 = none ∧ bootBuiltins e.1 = some cv ∧ e.1 ≠ "__name__")) ∧
    ∀ i p C, exs.lookup i = some p → mg p.1 = some C → PySem.W.kitOne K C cv = some (e.2.contains i) ∧ PySem.W.exmOne K C cv = some (e.2.contains i)
theorem exAll_nil {K : Frag} {mg : Str → Option Value} : ExAll K mg [] [] := ⟨fun _ h => (nomatch h), fun _ h => (nomatch h)⟩
end RF
namespace RF
open PySem PySem.Spec PyProof.Rows L2
abbrev SV := L2.St
/-! ### slots -/
theorem getD'_eq : ∀ (ρ : DEnv) (i : Nat), getD' ρ i = (ρ[i]?).join
  | [], i => by simp [getD']
  | x :: r, 0 => by simp [getD']
  | x :: r, i + 1 => by
    show getD' r i = _
    rw [getD'_eq r i]; simp
def EnvR (K : PySem.W.Frag) (H : Hp) (M : Mem) (B : Bad) (ρ : DEnv) (σ : SV) : Prop := ρ.length = σ.length ∧ ∀ i d, getD' ρ i = some d → ∃ v, σ[i]? = some (some v) ∧ Rep K H M B d v
section
variable {K : PySem.W.Frag} {H H' H1 : Hp} {M M' M1 : Mem} {B B' : Bad} {a : Addr} {d : D} {v : V} {ds : List D} {vs : List V} {ρ ρ' : DEnv} {σ σ' : SV}
theorem EnvR.mv (f : FrOk H B) (m : Mv H M B H' M' B') (h : EnvR K H M B ρ σ) : EnvR K H' M' B' ρ σ := ⟨h.1, fun i d e => by
  obtain ⟨v, h1, h2⟩ := h.2 i d e
  exact ⟨v, h1, h2.mv f m⟩⟩
theorem EnvR.ext (g : Good K H M B) (e : Ext H M H' M') (h : EnvR K H M B ρ σ) : EnvR K H' M' B ρ σ := h.mv g.frok e.mv
theorem EnvR.set {i : Nat} (h : EnvR K H M B ρ σ) (r : Rep K H M B d v) : EnvR K H M B (setD' ρ i d) (σ.set i (some v)) := by
  refine ⟨by unfold setD'; rw [setO_eq, List.length_set, List.length_set]; exact h.1, fun j e hj => ?_⟩
  rw [getD'_eq] at hj
  unfold setD' at hj
  rw [setO_eq] at hj
  by_cases hi : i = j
  · subst hi
    by_cases hl : i < ρ.length
    · rw [List.getElem?_set_self hl] at hj
      have e1 : d = e := by simpa using hj
      subst e1
      refine ⟨v, ?_, r⟩
      rw [List.getElem?_set_self (by rw [← h.1]; exact hl)]
    · rw [List.getElem?_eq_none (by simpa using hl)] at hj
      cases hj
  · rw [List.getElem?_set_ne hi, ← getD'_eq] at hj
    rw [List.getElem?_set_ne hi]
    exact h.2 j e hj
theorem wipeD_len : ∀ (ρ : DEnv) (vs : List Nat), (wipeD ρ vs).length = ρ.length
  | _, [] => rfl
  | ρ, v :: vs => by unfold wipeD; rw [setO_eq, List.length_set, wipeD_len ρ vs]
theorem wipe_get {σ : SV} {j : Nat} : ∀ {vs : List Nat}, (wipe σ vs)[j]? = if j ∈ vs then (if j < σ.length then some none else none) else σ[j]?
  | [] => by simp [wipe]
  | v :: vs => by
    unfold wipe
    by_cases hv : v = j
    · subst hv
      simp only [List.mem_cons, true_or, if_true]
      by_cases hl : v < σ.length
      · rw [List.getElem?_set_self (by rw [wipe_length]; exact hl), if_pos hl]
      · rw [List.getElem?_eq_none (by rw [List.length_set, wipe_length]; omega), if_neg hl]
    · rw [List.getElem?_set_ne hv, wipe_get]
      have : (j ∈ v :: vs) = (j ∈ vs) := by
        simp only [List.mem_cons, eq_iff_iff, or_iff_right_iff_imp]
        intro z; exact absurd z.symm hv
      simp only [this]
theorem wipeD_get {ρ : DEnv} {j : Nat} {d : D} : ∀ {vs : List Nat}, getD' (wipeD ρ vs) j = some d → getD' ρ j = some d ∧ j ∉ vs
  | [], h => ⟨h, by simp⟩
  | v :: vs, h => by
    unfold wipeD at h
    rw [setO_eq, getD'_eq] at h
    by_cases hv : v = j
    · subst hv
      by_cases hl : v < (wipeD ρ vs).length
      · rw [List.getElem?_set_self hl] at h; cases h
      · rw [List.getElem?_eq_none (by simpa using hl)] at h; cases h
    · rw [List.getElem?_set_ne hv, ← getD'_eq] at h
      obtain ⟨h1, h2⟩ := wipeD_get h
      exact ⟨h1, by simp only [List.mem_cons, not_or]; exact ⟨fun z => hv z.symm, h2⟩⟩
theorem EnvR.wipe (h : EnvR K H M B ρ σ) (vs : List Nat) : EnvR K H M B (wipeD ρ vs) (wipe σ vs) := by
  refine ⟨by rw [wipeD_len, wipe_length]; exact h.1, fun j d e => ?_⟩
  obtain ⟨h1, h2⟩ := wipeD_get e
  obtain ⟨v, h3, h4⟩ := h.2 j d h1
  exact ⟨v, by rw [wipe_get, if_neg h2]; exact h3, h4⟩
/-- σ' is σ but at the places in ix -/
def SameOut (ix : List Nat) (σ σ' : SV) : Prop := σ'.length = σ.length ∧ ∀ j, j ∉ ix → σ'[j]? = σ[j]?
theorem SameOut.refl (ix : List Nat) (σ : SV) : SameOut ix σ σ := ⟨rfl, fun _ _ => rfl⟩
theorem SameOut.trans {ix : List Nat} {σ σ1 σ2 : SV} (a : SameOut ix σ σ1) (b : SameOut ix σ1 σ2) : SameOut ix σ σ2 := ⟨b.1.trans a.1, fun j hj => (b.2 j hj).trans (a.2 j hj)⟩
theorem wipe_same {ix vs : List Nat} {σ σ' : SV} (h : SameOut ix (wipe σ vs) σ') (hs : ∀ i ∈ ix, i ∈ vs) : wipe σ' vs = wipe σ vs := by
  have hl : σ'.length = σ.length := by rw [h.1, wipe_length]
  refine List.ext_getElem? fun j => ?_
  rw [wipe_get, wipe_get, hl]
  by_cases hj : j ∈ vs
  · rw [if_pos hj, if_pos hj]
  · rw [if_neg hj, if_neg hj, h.2 j (fun z => hj (hs j z)), wipe_get, if_neg hj]
end
/-! ### exceptions, promises -/
def XRel (K : PySem.W.Frag) (mg : Str → Option Value) (exs : List (Nat × (Str × Str))) (H : Hp) (M : Mem) (B : Bad) (xd : XD) (C : Value) (d : Option Addr) : Prop :=
  ∃ p, exs.lookup xd.cls = some p ∧ mg p.1 = some C ∧ match xd.val with
    | none => d = none
    | some dv => ∃ dd v, d = some dd ∧ H dd = some (.xd [(p.2, v)]) ∧ M dd = none ∧ Rep K H M B dv v
def spOf (K : PySem.W.Frag) (mg : Str → Option Value) (exs : List (Nat × (Str × Str))) (n : Nat) (S : Spec) : Sp := fun vs H Q E => ∃ ds M B Xd Qd, ds.length = n ∧ Reps K H M B ds vs ∧ Good K H M B ∧ S ds M Xd Qd ∧
  (∀ d v H' M', Ext H M H' M' → Good K H' M' B → Rep K H' M' B d v → Qd d M' → Q v H') ∧
  (∀ xd C dd H' M', Ext H M H' M' → Good K H' M' B → XRel K mg exs H' M' B xd C dd → Xd xd M' → E C dd H')
def permV {α : Type} (zs : List α) : List Nat → Option (List α)
  | [] => some []
  | i :: r => match zs[i]?, permV zs r with
    | some d, some ds => some (d :: ds)
    | _, _ => none
theorem permD_eq : ∀ (zs : List D) (p : List Nat), permD zs p = permV zs p
  | _, [] => rfl
  | zs, i :: r => by
    unfold permD permV
    rw [permD_eq zs r]
    cases zs[i]? <;> cases permV zs r <;> rfl
def KB (K : PySem.W.Frag) (fd : FuncData) (ps : List Str) (kw : KW) : Prop := ∀ (s : Shared) (us ws zs : List Value), K.In s.heap → us.length = kw.n → ws.length = kw.ks.length → permV ws kw.perm = some zs → (us ++ zs).length = ps.length →
  BindsTo s fd ⟨us, kw.ks.zip ws⟩ (ps.zip (us ++ zs))
def CallOk (Γ : Cfg) (X : Cx) (fi : FI) (S : Spec) : Prop := ∃ fd, X.mg fi.name = some (.ref (He.ga X.K fi.name)) ∧ PySem.W.keepIn X.K (.ref (He.ga X.K fi.name)) = true ∧
  FnG X.prog X.w X.K X.mg X.base (L2.CX X.prog X.w) fi.lvl (He.ga X.K fi.name) fd fi.ps (spOf X.K X.mg Γ.exs fi.ps.length S) ∧ Binds X.K fd fi.ps [] ∧ ∀ kw ∈ Γ.kws, Γ.fns[kw.f]? = some fi → KB X.K fd fi.ps kw
/-- what the great text's context is to be -/
structure COk (Γ : Cfg) (Φ : Nat → Spec) (X : Cx) (W : WX) (sc so : Scope) : Prop where
  sc : X.env.scope = sc
  N : X.N = Γ.N
  nd : Γ.N.Nodup
  calm : Γ.calm = true → X.calm = true
  room : Γ.calm = true → Room Γ.lvl X.A
  units : X.A.units + 65 < cLine
  gd : X.A.guards = some []
  fns : ∀ i fi, Γ.fns[i]? = some fi → fi.lvl ≤ Γ.lvl → CallOk Γ X fi (Φ i)
  blt : ∀ x ∈ Γ.blt, X.mg x = none
  gls : ∀ g ∈ Γ.gls, ∃ u, X.mg g.name = some u ∧ RelV g.val u
  pass : ∀ σ, PassesAt (L2.CX X.prog X.w) X σ (fun c d H => W c d σ H)
  own : Γ.calm = true → PassesOwn (model X.prog X.w) X.A X.env X.xe
  gts : ∀ p ∈ Γ.gts, ∃ a, X.mg p.1 = some (.ref a) ∧ SqT X.K (fun _ => none) a p.2
  mth : ∀ x ∈ Γ.mth, X.mg x = some (.builtin (mthI x))
  exc : ExAll X.K X.mg Γ.exs Γ.eis
  st : ∀ x, locB so x = true → Loc X.env.scope x ∧ (X.fn x = true ∨ X.env.scope.names.lookup x = some .local)
/-! ### readings -/
/-- what follows a value -/
def Fol (X : Cx) (H : Hp) (M : Mem) (B : Bad) (Qd : QD) (Q : VK) : Prop := ∀ d v H' M', Ext H M H' M' → Good X.K H' M' B → Rep X.K H' M' B d v → Qd d M' → Q v H'
section
variable (Γ : Cfg) (X : Cx) (W : WX)
/-- the exception that an except clause holds -/
def ExOk (B : Bad) (H : Hp) (M : Mem) (a : Addr) (xd : XD) : Prop := ∃ (oe : Obj) (C : Value) (d : Option Addr), (a, oe) ∈ X.pn ∧ Zc C d oe ∧ (∃ vs, oe.data = .fields vs) ∧ XRel X.K X.mg Γ.exs H M B xd C d
/-- what Xd tells: what may be raised, within an except clause what is held -/
structure XL (B : Bad) (σ : SV) (H : Hp) (M : Mem) (Xd : XQ) : Prop where
  go : Γ.calm = true → ∀ xd C dd H' M', Ext H M H' M' → Good X.K H' M' B → XRel X.K X.mg Γ.exs H' M' B xd C dd → Xd xd M' → W C dd σ H'
  cur : Γ.calm = false → ∀ a xd, Xd = curX a xd → ExOk Γ X B H M a xd
structure S0 (B : Bad) (σ : SV) (H : Hp) (ρ : DEnv) (M : Mem) (Xd : XQ) : Prop where
  good : Good X.K H M B
  env : EnvR X.K H M B ρ σ
  xl : XL Γ X W B σ H M Xd
def tD (w : DEnv → Mem → XQ → QD → Prop) : TE := fun σ H Q => ∃ B ρ M Xd Qd, S0 Γ X W B σ H ρ M Xd ∧ w ρ M Xd Qd ∧ Fol X H M B Qd Q
def tT (w : DEnv → Mem → XQ → (Bool → Mem → Prop) → Prop) : TT := fun σ H Q => ∃ B ρ M Xd Qd, S0 Γ X W B σ H ρ M Xd ∧ w ρ M Xd Qd ∧ ∀ k H' M', Ext H M H' M' → Good X.K H' M' B → Qd k M' → Q k H'
def tL (n : Nat) (w : DEnv → Mem → XQ → QL → Prop) : TA := fun σ H Q => ∃ B ρ M Xd Qd, S0 Γ X W B σ H ρ M Xd ∧ w ρ M Xd Qd ∧ ∀ ds vs H' M', Ext H M H' M' → Good X.K H' M' B → Reps X.K H' M' B ds vs → ds.length = n → Qd ds M' → Q vs H'
/-- J walks over xs, as long as what stands stands -/
def Wk (K : PySem.W.Frag) (J : It) (xs : List D) (H₀ : Hp) (M₀ : Mem) (B₀ : Bad) : Prop := ∀ H M B, Mv H₀ M₀ B₀ H M B → Good K H M B →
  (∀ i, i < xs.length → J.go i H) ∧ J.stop xs.length H ∧ ∀ i d x H', xs[i]? = some d → J.yld i H x H' → Ext H M H' M ∧ Good K H' M B ∧ Rep K H' M B d x ∧ ∀ b o, H b = some o → H' b = some o
def tI (w : DEnv → Mem → XQ → QL → Prop) : TI := fun σ H R => ∃ B ρ M Xd Qd, S0 Γ X W B σ H ρ M Xd ∧ w ρ M Xd Qd ∧ ∀ xs J H' M', Ext H M H' M' → Good X.K H' M' B → Wk X.K J xs H' M' B → xs.length ≤ sizeLine → Qd xs M' → R J H'
end
section
variable {Γ : Cfg} {X : Cx} {W : WX} {B : Bad} {σ : SV} {H H1 : Hp} {ρ : DEnv} {M M1 : Mem} {Xd : XQ}
theorem XRel.ext {K : PySem.W.Frag} {mg : Str → Option Value} {exs : List (Nat × (Str × Str))} {xd : XD} {C : Value} {dd : Option Addr} (g : Good K H M B) (e : Ext H M H1 M1) (h : XRel K mg exs H M B xd C dd) : XRel K mg exs H1 M1 B xd C dd := by
  obtain ⟨p, h1, h2, h3⟩ := h
  refine ⟨p, h1, h2, ?_⟩
  cases q : xd.val with
  | none => rw [q] at h3; exact h3
  | some dv =>
    rw [q] at h3
    obtain ⟨a, v, h4, h5, h6, h7⟩ := h3
    exact ⟨a, v, h4, (e a _ h5 h6).1, (e a _ h5 h6).2, h7.ext g e⟩
theorem XL.step (x : XL Γ X W B σ H M Xd) (g0 : Good X.K H M B) (e : Ext H M H1 M1) : XL Γ X W B σ H1 M1 Xd :=
  ⟨fun hc xd C dd H' M' e' g' => x.go hc xd C dd H' M' (e.trans e') g', fun hc a xd he => by
    obtain ⟨oe, C, d, h1, h2, h3, h4⟩ := x.cur hc a xd he
    exact ⟨oe, C, d, h1, h2, h3, h4.ext g0 e⟩⟩
theorem S0.step (s : S0 Γ X W B σ H ρ M Xd) (e : Ext H M H1 M1) (g : Good X.K H1 M1 B) : S0 Γ X W B σ H1 ρ M1 Xd :=
  ⟨g, s.env.ext s.good e, s.xl.step s.good e⟩
/-- nothing is raised -/
theorem xl_no {noX : XQ} (h : ∀ x M, ¬ noX x M) : XL Γ X W B σ H M noX := ⟨fun _ _ _ _ _ _ _ _ _ z => (h _ _ z).elim, fun _ a xd e => (h xd (addrM a) (by rw [e]; exact ⟨rfl, rfl⟩)).elim⟩
theorem PE.mono {e : Expr} {t t' : TE} (h : PE X e t) (i : ∀ σ H Q, t' σ H Q → t σ H Q) : PE X e t' := ⟨fun pins s σ H Q I hw => h.run pins s σ H Q I (i σ H Q hw)⟩
theorem PT.mono {e : Expr} {t t' : TT} (h : PT X e t) (i : ∀ σ H Q, t' σ H Q → t σ H Q) : PT X e t' := ⟨fun pins s σ H Q I hw => h.run pins s σ H Q I (i σ H Q hw)⟩
theorem PW.mono {e : Expr} {t t' : TT} (h : PW X e t) (i : ∀ σ H Q, t' σ H Q → t σ H Q) : PW X e t' := ⟨fun wh pins s σ H Q I hw => h.run wh pins s σ H Q I (i σ H Q hw)⟩
theorem PA.mono {es : List Expr} {t t' : TA} (h : PA X es t) (i : ∀ σ H Q, t' σ H Q → t σ H Q) : PA X es t' := ⟨fun pos pins s σ H Q I hw => h.run pos pins s σ H Q I (i σ H Q hw)⟩
theorem PS.mono {e : Stmt} {t t' : TS} (h : PS X e t) (i : ∀ D σ H, t' D σ H → t D σ H) : PS X e t' := ⟨fun pins s σ H Q I hw => h.run pins s σ H Q I (i Q σ H hw)⟩
theorem PSs.mono {e : List Stmt} {t t' : TS} (h : PSs X e t) (i : ∀ D σ H, t' D σ H → t D σ H) : PSs X e t' := ⟨fun pins s σ H Q I hw => h.run pins s σ H Q I (i Q σ H hw)⟩
theorem PI.mono {tg e : Expr} {t t' : TI} (h : PI X tg e t) (i : ∀ σ H Q, t' σ H Q → t σ H Q) : PI X tg e t' := ⟨fun pins s σ H Q I hw => h.run pins s σ H Q I (i σ H Q hw)⟩
/-! ### operators on trees -/
/-- a tuple, once -/
theorem tuple_mul1 (l : Addr) (items : Array Value) (n : Nat) (dd : Option Addr) (sl : Array (Option Value)) (u : Tok) :
    Meets (Builtin.«tuple.__mul__» ⟨[.ref l, .int 1 u], []⟩) (fun _ R s => s.heap.get? l = some { cls := .type "tuple", dict := dd, data := .seq items n, slots := sl } ∧ R (.ok (.ret (Value.ref l))) s) :=
  .of_wp fun prog w A R s h => by
    obtain ⟨hp, g, d, tk, os⟩ := s
    obtain ⟨hl, h⟩ := h
    have f1 := AutoSeq1.idx_int
    wp_walk using wpAny_loadPart' hl
    repeat (first
      | (refine wpAny_ite_false (decide_eq_false (by decide)) ?_; wp_walk using wpAny_loadPart' hl)
      | (refine wpAny_ite_true (decide_eq_true (by simp)) ?_; wp_walk using wpAny_loadPart' hl))
    exact ⟨_, rfl, h⟩
def rRepT1 (K : PySem.W.Frag) : R2 := fun x y H Q => ∃ l xs, x = .ref l ∧ y = .int 1 ∧ SqT K H l xs ∧ Q (.ref l) H
theorem op_repT1 : OpR X (binaryOp .Mult) (rRepT1 X.K) := by
  intro pins s σ H x y v u Q I rx ry h
  obtain ⟨l, xs, rfl, rfl, hT, q⟩ := h
  cases rx
  obtain ⟨t, rfl⟩ := ry
  obtain ⟨its, r, ⟨⟨cls, dd, data, sl⟩, ho, hc, n, hd⟩, hs⟩ := I.tuple hT
  simp only at hc hd
  subst hc hd
  exact wpAny_binaryOp_repeat_ref (T := "tuple") (U := "int") (by decide) ⟨_, ho, rfl⟩ (fun s' => typeIs_int s' 1 t) noFill_tuple_mul F.fills_int_mul F.slot_int_rmul repeat_tuple F.slot_int_index.lookup
    (call_meets F.slot_int_rmul (typeIs_int s 1 t) F.entry_int_rmul (F.args_int_rmul_2 _ _) (int_rmul_tuple 1 t l its.toArray n dd sl)
      ⟨ho, rfl, ⟨_, ho, rfl⟩, call_meets F.slot_tuple_mul ⟨_, ho, rfl⟩ F.entry_tuple_mul (F.args_tuple_mul_2 _ _) (tuple_mul1 l its.toArray n dd sl t) ⟨ho, ⟨.ref l, _, I, rfl, q⟩⟩⟩)
/-- a value that is no new object -/
theorem Fol.here {d : D} {v : V} {Qd : QD} {Q : VK} (f : Fol X H M B Qd Q) (g : Good X.K H M B) (r : Rep X.K H M B d v) (q : Qd d M) : Q v H := f d v H M (Ext.refl H M) g r q
/-- a new tuple, a new list -/
theorem Fol.tup {p : Addr} {ds : List D} {vs : List V} {Qd : QD} {Q : VK} (f : Fol X H M B Qd Q) (g : Good X.K H M B) (hp : H p = none) (r : Reps X.K H M B ds vs) (z : ds.length ≤ sizeLine) (q : Qd (.tup ds) M) : Q (.ref p) (upd H p (.tup vs)) :=
  f (.tup ds) (.ref p) _ M (Ext.new g hp) (g.new hp) ⟨p, vs, rfl, .inl ⟨upd_same, g.none_of hp⟩, z, r.ext g (Ext.new g hp)⟩ q
theorem Fol.lst {p : Addr} {ds : List D} {vs : List V} {Qd : QD} {Q : VK} (f : Fol X H M B Qd Q) (g : Good X.K H M B) (hp : H p = none) (r : Reps X.K H M B ds vs) (z : ds.length ≤ sizeLine) (q : Qd (.lst ds) M) : Q (.ref p) (upd H p (.lst vs)) :=
  f (.lst ds) (.ref p) _ M (Ext.new g hp) (g.new hp) ⟨p, vs, rfl, ⟨upd_same, g.none_of hp⟩, z, r.ext g (Ext.new g hp)⟩ q
def OpD (X : Cx) (f : Value → Value → Sem Value) (r : D → D → Mem → QD → Prop) : Prop :=
  ∀ (pins : List (Addr × Obj)) (s : Shared) (σ : SV) (H : Hp) (x y : D) (vx vy : V) (v u : Value) (M : Mem) (B : Bad) (Qd : QD) (Q : VK), Inv X pins σ H s → RelV vx v → RelV vy u → Good X.K H M B → Rep X.K H M B x vx → Rep X.K H M B y vy → r x y M Qd →
    Fol X H M B Qd Q → wpAny (model X.prog X.w) X.A (f v u) (EP X pins σ Q) X.xe s
theorem mulOk.ok {i j : Int} (h : mulOk i j) : IntMulOk i j := h.elim CMul.ok CMulX.ok
theorem op_mulD : OpR X (binaryOp .Mult) (rI mulOk fun i j => .int (i * j)) := opI fun _ _ _ _ _ _ _ hc q => mul_int q hc.ok
theorem bop_ok (op : Operator) : OpD X (binaryOp op) (bopD op) := by
  intro pins s σ H x y vx vy v u M B Qd Q I rx ry g hx hy h f
  cases op with
  | Add =>
    cases x <;> cases y <;> first | exact (show False from h).elim | skip
    case int.int i j =>
      obtain rfl : vx = .int i := hx
      obtain rfl : vy = .int j := hy
      exact op_add pins s σ H _ _ v u Q I rx ry ⟨i, j, rfl, rfl, f.here g (d := .int (i + j)) rfl h⟩
    case str.str i j =>
      obtain rfl : vx = .str i := hx
      obtain rfl : vy = .str j := hy
      exact op_add_str pins s σ H _ _ v u Q I rx ry ⟨i, j, rfl, rfl, h.1, f.here g (d := .str (i ++ j)) rfl h.2⟩
    case lst.lst xs ys =>
      obtain ⟨a, vs, rfl, h1, z1, r1⟩ := lstF hx
      obtain ⟨b, ws, rfl, h2, z2, r2⟩ := lstF hy
      exact op_cat pins s σ H _ _ v u Q I rx ry ⟨a, b, vs, ws, rfl, rfl, h1, h2, by rw [← r1.length, ← r2.length]; exact h.1, fun p hp => f.lst g hp (r1.append r2) (by rw [List.length_append]; exact h.1) h.2⟩
    case tup.tup xs ys =>
      obtain ⟨a, vs, e1, h1, z1, r1⟩ := tupF hx
      obtain ⟨b, ws, e2, h2, z2, r2⟩ := tupF hy
      have l1 := r1.length
      have l2 := r2.length
      have hx' := hx
      have hy' := hy
      subst e1
      subst e2
      refine op_catA pins s σ H _ _ v u Q I rx ry ⟨a, b, vs, ws, rfl, rfl, h1, h2, by rw [← l1, ← l2]; exact h.1, fun e => ?_, fun n e => ?_, fun n1 n2 p hp => f.tup g hp (r1.append r2) (by rw [List.length_append]; exact h.1) h.2⟩
      · have e3 : xs = [] := List.eq_nil_of_length_eq_zero (by rw [l1, e]; rfl)
        subst e3
        exact f.here g hy' h.2
      · have e3 : ys = [] := List.eq_nil_of_length_eq_zero (by rw [l2, e]; rfl)
        subst e3
        have q := h.2
        rw [List.append_nil] at q
        exact f.here g hx' q
    case cell.lst a ys =>
      obtain rfl : vx = .ref a := hx
      obtain ⟨xs, hc, q⟩ := cellL_some h
      obtain ⟨vs, h1, z1, r1⟩ := g.cel a _ hc
      obtain ⟨b, ws, rfl, h2, z2, r2⟩ := lstF hy
      exact op_cat pins s σ H _ _ v u Q I rx ry ⟨a, b, vs, ws, rfl, rfl, h1, h2, by rw [← r1.length, ← r2.length]; exact q.1, fun p hp => f.lst g hp (r1.append r2) (by rw [List.length_append]; exact q.1) q.2⟩
  | Sub =>
    cases x <;> cases y <;> first | exact (show False from h).elim | skip
    case int.int i j =>
      obtain rfl : vx = .int i := hx
      obtain rfl : vy = .int j := hy
      exact op_sub pins s σ H _ _ v u Q I rx ry ⟨i, j, rfl, rfl, f.here g (d := .int (i - j)) rfl h⟩
  | Mult =>
    cases x <;> cases y <;> first | exact (show False from h).elim | skip
    case int.int i j =>
      obtain rfl : vx = .int i := hx
      obtain rfl : vy = .int j := hy
      exact op_mulD pins s σ H _ _ v u Q I rx ry ⟨i, j, rfl, rfl, h.1, f.here g (d := .int (i * j)) rfl h.2⟩
    case lst.int xs k =>
      obtain ⟨a, vs, rfl, h1, z1, r1⟩ := lstF hx
      obtain rfl : vy = .int k := hy
      obtain ⟨⟨c1, c2, c3⟩, q⟩ := h
      exact op_rep pins s σ H _ _ v u Q I rx ry ⟨a, k, vs, rfl, rfl, h1, c1, c2, by rw [← r1.length]; exact c3, fun p hp => f.lst g hp (r1.rep _) (by simpa [List.length_flatten, Nat.mul_comm] using c3) q⟩
    case tup.int xs k =>
      obtain ⟨a, vs, rfl, h1, z1, r1⟩ := tupF hx
      obtain rfl : vy = .int k := hy
      obtain ⟨⟨c1, c2, c3, c4⟩, q⟩ := h
      have l := r1.length
      by_cases k1 : k = 1
      · subst k1
        have e : (List.replicate (1 : Int).toNat xs).flatten = xs := by show (List.replicate 1 xs).flatten = xs; simp
        rw [e] at q
        exact op_repT1 pins s σ H _ _ v u Q I rx ry ⟨a, vs, rfl, rfl, h1, f.here g hx q⟩
      have c2 : 2 ≤ k := by omega
      refine op_repT pins s σ H _ _ v u Q I rx ry ⟨a, k, vs, rfl, rfl, h1, fun e => c1 (List.eq_nil_of_length_eq_zero (by rw [l, e]; rfl)), c2, c3, by rw [← l]; exact c4, fun p hp => f.tup g hp (r1.rep _) ?_ q⟩
      have : (List.replicate k.toNat xs).flatten.length = k.toNat * xs.length := by simp [List.length_flatten]
      rw [this, sizeLine_eq]
      have h3 : k.toNat ≤ 1000 := by omega
      exact Nat.le_trans (Nat.mul_le_mul h3 c4) (by decide)
  | FloorDiv =>
    cases x <;> cases y <;> first | exact (show False from h).elim | skip
    case int.int i j =>
      obtain rfl : vx = .int i := hx
      obtain rfl : vy = .int j := hy
      rcases h.1 with c | c
      · exact op_fdiv pins s σ H _ _ v u Q I rx ry ⟨i, j, rfl, rfl, c, f.here g (d := .int (i / j)) rfl h.2⟩
      · exact op_fdivW pins s σ H _ _ v u Q I rx ry ⟨i, j, rfl, rfl, c, f.here g (d := .int (i / j)) rfl h.2⟩
  | Mod =>
    cases x <;> cases y <;> first | exact (show False from h).elim | skip
    case int.int i j =>
      obtain rfl : vx = .int i := hx
      obtain rfl : vy = .int j := hy
      exact op_mod pins s σ H _ _ v u Q I rx ry ⟨i, j, rfl, rfl, h.1, f.here g (d := .int (i % j)) rfl h.2⟩
  | Pow =>
    cases x <;> cases y <;> first | exact (show False from h).elim | skip
    case int.int i j =>
      obtain rfl : vx = .int i := hx
      obtain rfl : vy = .int j := hy
      exact op_pow pins s σ H _ _ v u Q I rx ry ⟨i, j, rfl, rfl, h.1, f.here g (d := .int (i ^ j.toNat)) rfl h.2⟩
  | LShift =>
    cases x <;> cases y <;> first | exact (show False from h).elim | skip
    case int.int i j =>
      obtain rfl : vx = .int i := hx
      obtain rfl : vy = .int j := hy
      exact op_shl pins s σ H _ _ v u Q I rx ry ⟨i, j, rfl, rfl, h.1, f.here g (d := .int (i * 2 ^ j.toNat)) rfl h.2⟩
  | RShift =>
    cases x <;> cases y <;> first | exact (show False from h).elim | skip
    case int.int i j =>
      obtain rfl : vx = .int i := hx
      obtain rfl : vy = .int j := hy
      exact op_shr pins s σ H _ _ v u Q I rx ry ⟨i, j, rfl, rfl, h.1, f.here g (d := .int (i / 2 ^ j.toNat)) rfl h.2⟩
  | BitAnd =>
    cases x <;> cases y <;> first | exact (show False from h).elim | skip
    case int.int i j =>
      obtain rfl : vx = .int i := hx
      obtain rfl : vy = .int j := hy
      exact op_and pins s σ H _ _ v u Q I rx ry ⟨i, j, rfl, rfl, f.here g (d := .int (Builtin.bitAnd i j)) rfl h⟩
  | BitOr =>
    cases x <;> cases y <;> first | exact (show False from h).elim | skip
    case int.int i j =>
      obtain rfl : vx = .int i := hx
      obtain rfl : vy = .int j := hy
      exact op_or pins s σ H _ _ v u Q I rx ry ⟨i, j, rfl, rfl, f.here g (d := .int (Builtin.bitOr i j)) rfl h⟩
  | BitXor =>
    cases x <;> cases y <;> first | exact (show False from h).elim | skip
    case int.int i j =>
      obtain rfl : vx = .int i := hx
      obtain rfl : vy = .int j := hy
      exact op_xor pins s σ H _ _ v u Q I rx ry ⟨i, j, rfl, rfl, f.here g (d := .int (Builtin.bitXor i j)) rfl h⟩
  | MatMult => cases x <;> cases y <;> exact (show False from h).elim
  | Div => cases x <;> cases y <;> exact (show False from h).elim
end
end RF
namespace RF
open PySem PySem.Spec PyProof.Rows L2
section
variable {Γ : Cfg} {X : Cx} {W : WX} {B : Bad} {σ : SV} {H H1 : Hp} {ρ : DEnv} {M M1 : Mem} {Xd : XQ} {K : PySem.W.Frag}
/-! ### comparisons -/
def OpC (X : Cx) (f : Value → Value → Sem Value) (r : D → D → Mem → (Bool → Prop) → Prop) : Prop :=
  ∀ (pins : List (Addr × Obj)) (s : Shared) (σ : SV) (H : Hp) (x y : D) (vx vy : V) (v u : Value) (M : Mem) (B : Bad) (k : Bool → Prop) (Q : VK), Inv X pins σ H s → RelV vx v → RelV vy u → Good X.K H M B → Rep X.K H M B x vx → Rep X.K H M B y vy → r x y M k →
    (∀ c, k c → Q (.bl c) H) → wpAny (model X.prog X.w) X.A (f v u) (EP X pins σ Q) X.xe s
mutual
theorem dp_of : ∀ {d : D} {v : V} {p : PyData}, Rep K H M B d v → py d = some p → Dp K H v p
  | .non, _, _, h, e => by obtain rfl := h; cases e; exact .non
  | .bl b, _, _, h, e => by obtain rfl := h; cases e; exact .bl b
  | .int i, _, _, h, e => by obtain rfl := h; cases e; exact .int i
  | .str x, _, _, h, e => by obtain rfl := h; cases e; exact .str x
  | .tup xs, _, _, h, e => by
    obtain ⟨a, vs, rfl, h1, _, r⟩ := tupF h
    unfold py at e
    cases q : pys xs with
    | none => rw [q] at e; cases e
    | some ps => rw [q] at e; cases e; exact .tup h1 (dps_of r q)
  | .lst xs, _, _, h, e => by
    obtain ⟨a, vs, rfl, h1, _, r⟩ := lstF h
    unfold py at e
    cases q : pys xs with
    | none => rw [q] at e; cases e
    | some ps => rw [q] at e; cases e; exact .lst (SqL.of h1) (dps_of r q)
  | .dct _ _, _, _, _, e => nomatch e
  | .scr _, _, _, _, e => nomatch e
  | .cell _, _, _, _, e => nomatch e
  | .fn _, _, _, _, e => nomatch e
  | .rng _ _, _, _, _, e => nomatch e
theorem dps_of : ∀ {ds : List D} {vs : List V} {ps : List PyData}, Reps K H M B ds vs → pys ds = some ps → DpAll K H vs ps
  | [], _, _, h, e => by have h : _ = [] := h; subst h; cases e; exact .nil
  | d :: ds, _, _, h, e => by
    obtain ⟨v, r, rfl, h1, h2⟩ := h
    unfold pys at e
    cases q : py d with
    | none => rw [q] at e; cases e
    | some p =>
      rw [q] at e
      cases q2 : pys ds with
      | none => rw [q2] at e; cases e
      | some ps => rw [q2] at e; cases e; exact .cons (dp_of h1 q) (dps_of h2 q2)
end
theorem lens_ne {pins : List (Addr × Obj)} {s : Shared} {xs ys : List D} {vx vy : V} {v u : Value} (I : Inv X pins σ H s) (rx : RelV vx v) (ry : RelV vy u) (hx : Rep X.K H M B (.lst xs) vx) (hy : Rep X.K H M B (.lst ys) vy) (h : xs.length ≠ ys.length) :
    ∃ a b, ∃ is js : Array Value, v = .ref a ∧ u = .ref b ∧ s.heap.IsList a is ∧ s.heap.IsList b js ∧ (is.size != js.size) = true ∧ a ≠ b := by
  obtain ⟨a, vs, rfl, h1, _, r⟩ := lstF hx
  obtain ⟨b, ws, rfl, h2, _, q⟩ := lstF hy
  cases rx
  cases ry
  obtain ⟨is, w1, ⟨o, n, ho, hc, _, hd⟩, _⟩ := I.list (SqL.of h1)
  obtain ⟨js, w2, ⟨o2, n2, ho2, hc2, _, hd2⟩, _⟩ := I.list (SqL.of h2)
  have l1 := w1.length
  have l2 := w2.length
  have l3 := r.length
  have l4 := q.length
  refine ⟨a, b, is.toArray, js.toArray, rfl, rfl, ⟨o, ho, hc, n, hd⟩, ⟨o2, ho2, hc2, n2, hd2⟩, ?_, fun z => ?_⟩
  · rw [bne_iff_ne]; simp; omega
  · subst z
    rw [h1] at h2; cases h2; omega
theorem eq_deep {pins : List (Addr × Obj)} {s : Shared} {x y : D} {vx vy : V} {v u : Value} {b : Bool} {Q : VK} (hu : X.A.units + 65 < cLine) (I : Inv X pins σ H s) (rx : RelV vx v) (ry : RelV vy u) (hx : Rep X.K H M B x vx) (hy : Rep X.K H M B y vy) (h : eqOk x y b)
    (q : Q (.bl b) H) : wpAny (model X.prog X.w) X.A (compareOp .Eq v u) (EP X pins σ Q) X.xe s := by
  rcases h with h | ⟨xs, ys, rfl, rfl, hl, rfl⟩
  case inr =>
    obtain ⟨a, b, is, js, rfl, rfl, h1, h2, h3, _⟩ := lens_ne I rx ry hx hy hl
    exact SeqAt.eq_list_lengthsAt h1 h2 h3 (by omega) ⟨.bl _, H, I, rfl, q⟩
  obtain ⟨d, e, h1, h2, h3, h4, h5⟩ := h
  subst h5
  exact op_eqD (by omega) pins s σ H vx vy v u Q I rx ry ⟨d, e, dp_of hx h1, dp_of hy h2, h3, h4, q⟩
theorem ne_deep {pins : List (Addr × Obj)} {s : Shared} {x y : D} {vx vy : V} {v u : Value} {b : Bool} {Q : VK} (hu : X.A.units + 65 < cLine) (I : Inv X pins σ H s) (rx : RelV vx v) (ry : RelV vy u) (hx : Rep X.K H M B x vx) (hy : Rep X.K H M B y vy) (h : eqOk x y b)
    (q : Q (.bl (!b)) H) : wpAny (model X.prog X.w) X.A (compareOp .NotEq v u) (EP X pins σ Q) X.xe s := by
  rcases h with h | ⟨xs, ys, rfl, rfl, hl, rfl⟩
  case inr =>
    obtain ⟨a, b, is, js, rfl, rfl, h1, h2, h3, _⟩ := lens_ne I rx ry hx hy hl
    exact SeqAt.RcNeAt.lists_lengths h1 h2 h3 (by omega) X.prog X.w X.xe _ ⟨.bl _, H, I, rfl, q⟩
  obtain ⟨d, e, h1, h2, h3, h4, h5⟩ := h
  subst h5
  exact op_neD (by omega) pins s σ H vx vy v u Q I rx ry ⟨d, e, dp_of hx h1, dp_of hy h2, h3, h4, q⟩
/-- in, of things of any depth -/
theorem in_deep {pins : List (Addr × Obj)} {s : Shared} {x : D} {xs : List D} {vx vy : V} {v u : Value} {b : Bool} {Q : VK} (hu : X.A.units + 65 < cLine) (neg : Bool) (I : Inv X pins σ H s) (rx : RelV vx v) (ry : RelV vy u) (hx : Rep X.K H M B x vx)
    (hy : Rep X.K H M B (.lst xs) vy ∨ Rep X.K H M B (.tup xs) vy) (h : inOk x xs b) (q : Q (.bl (if neg then !b else b)) H) : wpAny (model X.prog X.w) X.A (compareOp (if neg then .NotIn else .In) v u) (EP X pins σ Q) X.xe s := by
  obtain ⟨d, ds, e1, e2, sd, se, e3⟩ := h
  obtain ⟨as, r1⟩ := Dp.reads I d vx v (dp_of hx e1) rx
  have sh := SeqAt.canLay_of_shaped se
  subst e3
  rcases hy with hy | hy
  · obtain ⟨bs, r2⟩ := Dp.reads I (.list ds) vy u (dp_of hy (show (pys xs).map PyData.list = _ by rw [e2]; rfl)) ry
    cases neg
    · exact SeqAt.in_list_reads r2 r1 sh (SeqAt.canLay_of_shaped sd) (room_in_shaped sd hu) ⟨.bl _, H, I, rfl, q⟩
    · exact SeqAt.notIn_list_reads r2 r1 sh (SeqAt.canLay_of_shaped sd) (room_in_shaped sd hu) ⟨.bl _, H, I, rfl, q⟩
  · obtain ⟨bs, r2⟩ := Dp.reads I (.tuple ds) vy u (dp_of hy (show (pys xs).map PyData.tuple = _ by rw [e2]; rfl)) ry
    cases neg
    · exact SeqAt.in_tuple_reads r2 r1 sh (SeqAt.canLay_of_shaped sd) (room_in_shaped sd hu) ⟨.bl _, H, I, rfl, q⟩
    · exact SeqAt.notIn_tuple_reads r2 r1 sh (SeqAt.canLay_of_shaped sd) (room_in_shaped sd hu) ⟨.bl _, H, I, rfl, q⟩
theorem eqD_def {x y : D} {k : Bool → Prop} (h : eqD x y k) : (∃ i j, x = .int i ∧ y = .int j ∧ k (decide (i = j))) ∨ (∃ i j, x = .str i ∧ y = .str j ∧ k (decide (i = j))) ∨ (x = .non ∧ y = .non ∧ k true) ∨ (∃ i j, x = .bl i ∧ y = .bl j ∧ k (decide (i = j))) ∨ ∃ b, eqOk x y b ∧ k b := by
  unfold eqD at h
  split at h
  · exact .inl ⟨_, _, rfl, rfl, h⟩
  · exact .inr (.inl ⟨_, _, rfl, rfl, h⟩)
  · exact .inr (.inr (.inl ⟨rfl, rfl, h⟩))
  · exact .inr (.inr (.inr (.inl ⟨_, _, rfl, rfl, h⟩)))
  · exact .inr (.inr (.inr (.inr h)))
theorem flat_of {d : D} {v v' : V} (r : Rep K H M B d v) (e : flatD d = some v') : v = v' ∧ flatV v = true := by
  cases d <;> first | (cases e; done) | (cases e; have r : v = _ := r; subst r; exact ⟨rfl, rfl⟩)
theorem flats_of : ∀ {ds : List D} {vs vs' : List V}, Reps K H M B ds vs → flatDs ds = some vs' → vs = vs' ∧ vs.all flatV = true
  | [], _, _, h, e => by have h : _ = [] := h; subst h; cases e; exact ⟨rfl, rfl⟩
  | d :: ds, _, _, h, e => by
    obtain ⟨v, r, rfl, h1, h2⟩ := h
    unfold flatDs at e
    cases q : flatD d with
    | none => rw [q] at e; cases e
    | some p =>
      rw [q] at e
      cases q2 : flatDs ds with
      | none => rw [q2] at e; cases e
      | some ps =>
        rw [q2] at e; cases e
        obtain ⟨rfl, f1⟩ := flat_of h1 q
        obtain ⟨rfl, f2⟩ := flats_of h2 q2
        exact ⟨rfl, by simp [f1, f2]⟩
theorem non_rep {x : D} {v : V} (r : Rep K H M B x v) : decide (v = V.non) = isNon x := by
  cases x <;> first | (have r : v = _ := r; subst r; rfl) | (obtain ⟨a, _, e, _⟩ := r; subst e; rfl) | (obtain ⟨a, e, _⟩ := r; subst e; rfl)
theorem cmp_ok (hu : X.A.units + 65 < cLine) (op : CmpOp) : OpC X (compareOp op) (cmpD op) := by
  intro pins s σ H x y vx vy v u M B k Q I rx ry g hx hy h f
  cases op with
  | Eq =>
    rcases eqD_def h with ⟨i, j, rfl, rfl, q⟩ | ⟨i, j, rfl, rfl, q⟩ | ⟨rfl, rfl, q⟩ | ⟨i, j, rfl, rfl, q⟩ | ⟨b, e, q⟩
    · obtain rfl : vx = .int i := hx
      obtain rfl : vy = .int j := hy
      exact op_eq pins s σ H _ _ v u Q I rx ry ⟨rfl, by rw [dec_int, Bool.beq_eq_decide_eq]; exact f _ q⟩
    · obtain rfl : vx = .str i := hx
      obtain rfl : vy = .str j := hy
      exact op_eq pins s σ H _ _ v u Q I rx ry ⟨rfl, by rw [show decide (V.str i = V.str j) = decide (i = j) by simp]; exact f _ q⟩
    · obtain rfl : vx = .non := hx
      obtain rfl : vy = .non := hy
      exact eq_deep hu I rx ry (x := .non) (y := .non) (M := M) (B := B) (b := true) rfl rfl (.inl ⟨_, _, rfl, rfl, by decide, by decide, by decide⟩) (f _ q)
    · obtain rfl : vx = .bl i := hx
      obtain rfl : vy = .bl j := hy
      exact op_eq pins s σ H _ _ v u Q I rx ry ⟨rfl, by rw [show decide (V.bl i = V.bl j) = decide (i = j) by simp]; exact f _ q⟩
    · exact eq_deep hu I rx ry hx hy e (f _ q)
  | NotEq =>
    rcases eqD_def h with ⟨i, j, rfl, rfl, q⟩ | ⟨i, j, rfl, rfl, q⟩ | ⟨rfl, rfl, q⟩ | ⟨i, j, rfl, rfl, q⟩ | ⟨b, e, q⟩
    · obtain rfl : vx = .int i := hx
      obtain rfl : vy = .int j := hy
      exact op_ne pins s σ H _ _ v u Q I rx ry ⟨rfl, by rw [dec_int, Bool.beq_eq_decide_eq]; exact f _ q⟩
    · obtain rfl : vx = .str i := hx
      obtain rfl : vy = .str j := hy
      exact op_ne pins s σ H _ _ v u Q I rx ry ⟨rfl, by rw [show decide (V.str i = V.str j) = decide (i = j) by simp]; exact f _ q⟩
    · obtain rfl : vx = .non := hx
      obtain rfl : vy = .non := hy
      exact ne_deep hu I rx ry (x := .non) (y := .non) (M := M) (B := B) (b := true) rfl rfl (.inl ⟨_, _, rfl, rfl, by decide, by decide, by decide⟩) (f _ q)
    · obtain rfl : vx = .bl i := hx
      obtain rfl : vy = .bl j := hy
      exact op_ne pins s σ H _ _ v u Q I rx ry ⟨rfl, by rw [show decide (V.bl i = V.bl j) = decide (i = j) by simp]; exact f _ q⟩
    · exact ne_deep hu I rx ry hx hy e (f _ q)
  | Lt =>
    cases x <;> cases y <;> first | exact (show False from h).elim | skip
    case int.int i j =>
      obtain rfl : vx = .int i := hx
      obtain rfl : vy = .int j := hy
      exact op_lt pins s σ H _ _ v u Q I rx ry ⟨i, j, rfl, rfl, f _ h⟩
  | LtE =>
    cases x <;> cases y <;> first | exact (show False from h).elim | skip
    case int.int i j =>
      obtain rfl : vx = .int i := hx
      obtain rfl : vy = .int j := hy
      exact op_le pins s σ H _ _ v u Q I rx ry ⟨i, j, rfl, rfl, f _ h⟩
  | Gt =>
    cases x <;> cases y <;> first | exact (show False from h).elim | skip
    case int.int i j =>
      obtain rfl : vx = .int i := hx
      obtain rfl : vy = .int j := hy
      exact op_gt pins s σ H _ _ v u Q I rx ry ⟨i, j, rfl, rfl, f _ h⟩
  | GtE =>
    cases x <;> cases y <;> first | exact (show False from h).elim | skip
    case int.int i j =>
      obtain rfl : vx = .int i := hx
      obtain rfl : vy = .int j := hy
      exact op_ge pins s σ H _ _ v u Q I rx ry ⟨i, j, rfl, rfl, f _ h⟩
  | Is =>
    have h : isD x y k := h
    unfold isD at h
    split at h
    · obtain rfl : vy = .non := hy
      refine op_isN pins s σ H _ _ v u Q I rx ry ⟨rfl, ?_⟩
      rw [non_rep hx]
      exact f _ h
    · obtain rfl : vx = .bl _ := hx
      obtain rfl : vy = .bl _ := hy
      exact op_isBl pins s σ H _ _ v u Q I rx ry ⟨_, _, rfl, rfl, f _ h⟩
    · exact h.elim
  | IsNot =>
    have h : isD x y fun b => k (!b) := h
    unfold isD at h
    split at h
    · obtain rfl : vy = .non := hy
      refine op_notN pins s σ H _ _ v u Q I rx ry ⟨rfl, ?_⟩
      rw [non_rep hx]
      exact f _ h
    · obtain rfl : vx = .bl _ := hx
      obtain rfl : vy = .bl _ := hy
      exact op_notBl pins s σ H _ _ v u Q I rx ry ⟨_, _, rfl, rfl, f _ h⟩
    · exact h.elim
  | In =>
    have h : inD x y M k := h
    unfold inD at h
    split at h
    · obtain ⟨a, vs, rfl, h1, z1, r1⟩ := lstF hy
      unfold inSeq at h
      split at h
      · rename_i v1 v2 e1 e2
        obtain ⟨rfl, f1⟩ := flat_of hx e1
        obtain ⟨rfl, f2⟩ := flats_of r1 e2
        exact op_in_seq pins s σ H _ _ v u Q I rx ry ⟨a, _, rfl, .inl (SqL.of h1), f1, f2, f _ h⟩
      · obtain ⟨b, hb, h⟩ := h
        exact in_deep hu false I rx ry hx (.inl hy) hb (f _ h)
    · obtain ⟨a, vs, rfl, h1, z1, r1⟩ := tupF hy
      unfold inSeq at h
      split at h
      · rename_i v1 v2 e1 e2
        obtain ⟨rfl, f1⟩ := flat_of hx e1
        obtain ⟨rfl, f2⟩ := flats_of r1 e2
        exact op_in_seq pins s σ H _ _ v u Q I rx ry ⟨a, _, rfl, .inr h1, f1, f2, f _ h⟩
      · obtain ⟨b, hb, h⟩ := h
        exact in_deep hu false I rx ry hx (.inr hy) hb (f _ h)
    · obtain rfl := hy
      obtain ⟨xs, hc, h⟩ := cellL_some h
      obtain ⟨vs, h1, _, r1⟩ := g.cel _ _ hc
      unfold inFl at h
      split at h
      · rename_i v1 v2 e1 e2
        obtain ⟨rfl, f1⟩ := flat_of hx e1
        obtain ⟨rfl, f2⟩ := flats_of r1 e2
        exact op_in_seq pins s σ H _ _ v u Q I rx ry ⟨_, _, rfl, .inl (SqL.of h1), f1, f2, f _ h⟩
      · exact h.elim
    · obtain rfl : vx = .str _ := hx
      obtain rfl : vy = .str _ := hy
      exact op_in_str pins s σ H _ _ v u Q I rx ry ⟨_, _, rfl, rfl, f _ h⟩
    · exact h.elim
  | NotIn =>
    have h : inD x y M fun b => k (!b) := h
    unfold inD at h
    split at h
    · obtain ⟨a, vs, rfl, h1, z1, r1⟩ := lstF hy
      unfold inSeq at h
      split at h
      · rename_i v1 v2 e1 e2
        obtain ⟨rfl, f1⟩ := flat_of hx e1
        obtain ⟨rfl, f2⟩ := flats_of r1 e2
        exact op_notIn_seq pins s σ H _ _ v u Q I rx ry ⟨a, _, rfl, .inl (SqL.of h1), f1, f2, f _ h⟩
      · obtain ⟨b, hb, h⟩ := h
        exact in_deep hu true I rx ry hx (.inl hy) hb (f _ h)
    · obtain ⟨a, vs, rfl, h1, z1, r1⟩ := tupF hy
      unfold inSeq at h
      split at h
      · rename_i v1 v2 e1 e2
        obtain ⟨rfl, f1⟩ := flat_of hx e1
        obtain ⟨rfl, f2⟩ := flats_of r1 e2
        exact op_notIn_seq pins s σ H _ _ v u Q I rx ry ⟨a, _, rfl, .inr h1, f1, f2, f _ h⟩
      · obtain ⟨b, hb, h⟩ := h
        exact in_deep hu true I rx ry hx (.inr hy) hb (f _ h)
    · obtain rfl := hy
      obtain ⟨xs, hc, h⟩ := cellL_some h
      obtain ⟨vs, h1, _, r1⟩ := g.cel _ _ hc
      unfold inFl at h
      split at h
      · rename_i v1 v2 e1 e2
        obtain ⟨rfl, f1⟩ := flat_of hx e1
        obtain ⟨rfl, f2⟩ := flats_of r1 e2
        exact op_notIn_seq pins s σ H _ _ v u Q I rx ry ⟨_, _, rfl, .inl (SqL.of h1), f1, f2, f _ h⟩
      · exact h.elim
    · obtain rfl : vx = .str _ := hx
      obtain rfl : vy = .str _ := hy
      exact op_notin_str pins s σ H _ _ v u Q I rx ry ⟨_, _, rfl, rfl, f _ h⟩
    · exact h.elim
/-! ### truth, minus -/
theorem tru_D {x : D} {v : V} {k : Bool → Prop} (g : Good K H M B) (r : Rep K H M B x v) (h : truD x k) : ∃ b, TruV K v H b ∧ k b := by
  cases x with
  | non => obtain rfl := r; exact ⟨false, rfl, h⟩
  | bl b => obtain rfl := r; exact ⟨b, rfl, h⟩
  | int i => obtain rfl := r; exact ⟨_, rfl, h⟩
  | str y => obtain rfl := r; exact ⟨_, ⟨h.1, rfl⟩, h.2⟩
  | tup xs =>
    obtain ⟨a, vs, rfl, h1, _, r1⟩ := tupF r
    refine ⟨_, .inr (.inl ⟨vs, h1, ?_⟩), h⟩
    have := r1.length
    cases xs <;> cases vs <;> first | rfl | (simp at this)
  | lst xs =>
    obtain ⟨a, vs, rfl, h1, _, r1⟩ := lstF r
    refine ⟨_, .inl ⟨vs, SqL.of h1, ?_⟩, h⟩
    have := r1.length
    cases xs <;> cases vs <;> first | rfl | (simp at this)
  | scr xs =>
    obtain ⟨a, vs, rfl, h1, _, r1⟩ := scrF r
    refine ⟨_, .inl ⟨vs, h1, ?_⟩, h⟩
    have := r1.length
    cases xs <;> cases vs <;> first | rfl | (simp at this)
  | dct ks xs =>
    obtain ⟨a, vs, rfl, h1, l, _, r1⟩ := r
    refine ⟨_, .inr (.inr ⟨_, h1.1, ?_⟩), h⟩
    cases ks <;> cases vs <;> first | rfl | (simp at l)
  | cell _ => exact (show False from h).elim
  | fn _ => exact (show False from h).elim
  | rng _ _ => exact (show False from h).elim
theorem neg_ok : UnR X (unaryOp .USub) (fun v H Q => ∃ (x : D) (M : Mem) (B : Bad) (k : D → Prop), Good X.K H M B ∧ Rep X.K H M B x v ∧ negD x k ∧ ∀ d w, Rep X.K H M B d w → k d → Q w H) := by
  intro pins s σ H v u Q I r h
  obtain ⟨x, M, B, k, g, rx, hn, f⟩ := h
  cases x <;> first | exact (show False from hn).elim | skip
  case int i =>
    obtain rfl := rx
    exact un_neg pins s σ H _ u Q I r ⟨i, rfl, f (.int (-i)) _ rfl hn⟩
/-! ### subscripts -/
theorem atI_rep {xs : List D} {vs : List V} {i : Int} {d : D} (r : Reps K H M B xs vs) (h : atI xs i = some d) : ∃ v, atI vs i = some v ∧ Rep K H M B d v := by
  unfold atI at h ⊢
  rw [← r.length]
  cases e : ixN xs.length i with
  | none => rw [e] at h; cases h
  | some j =>
    rw [e] at h
    exact r.get (show xs[j]? = some d from h)
theorem ixL_some {xs : List D} {i : Int} {k : D → Prop} (h : ixL xs i k) : ∃ d, atI xs i = some d ∧ k d := by
  unfold ixL at h
  split at h
  · exact ⟨_, by assumption, h⟩
  · exact h.elim
def R2D (X : Cx) (r : D → D → Mem → QD → Prop) : R2 := fun vx vy H Q => ∃ (x y : D) (M : Mem) (B : Bad) (Qd : QD), Good X.K H M B ∧ Rep X.K H M B x vx ∧ Rep X.K H M B y vy ∧ r x y M Qd ∧ Fol X H M B Qd Q
theorem ix_ok : IxR X (R2D X ixD) := by
  intro value slice pins s σ H vx vy v u Q I rx ry h hs
  obtain ⟨x, y, M, B, Qd, g, hx, hy, hq, f⟩ := h
  cases x <;> cases y <;> first | exact (show False from hq).elim | skip
  case str.int z i =>
    obtain rfl : vx = .str z := hx
    obtain rfl : vy = .int i := hy
    have hq : z.length ≤ sizeLine ∧ (match atI z.cps.toList i with | some c => Qd (.str ⟨#[c]⟩) M | none => False) := hq
    obtain ⟨h1, h2⟩ := hq
    split at h2
    · exact ix_str value slice pins s σ H _ _ v u Q I rx ry ⟨z, i, _, rfl, rfl, h1, by assumption, f.here g (d := .str _) rfl h2⟩ hs
    · exact h2.elim
  case tup.int xs i =>
    obtain ⟨a, vs, rfl, h1, _, r1⟩ := tupF hx
    obtain rfl : vy = .int i := hy
    obtain ⟨d, hd, q⟩ := ixL_some hq
    obtain ⟨w, hw, rw'⟩ := atI_rep r1 hd
    exact ix_tup value slice pins s σ H _ _ v u Q I rx ry ⟨a, vs, i, w, rfl, rfl, h1, hw, f.here g rw' q⟩ hs
  case lst.int xs i =>
    obtain ⟨a, vs, rfl, h1, _, r1⟩ := lstF hx
    obtain rfl : vy = .int i := hy
    obtain ⟨d, hd, q⟩ := ixL_some hq
    obtain ⟨w, hw, rw'⟩ := atI_rep r1 hd
    exact ix_list value slice pins s σ H _ _ v u Q I rx ry ⟨a, vs, i, w, rfl, rfl, SqL.of h1, hw, f.here g rw' q⟩ hs
  case scr.int xs i =>
    obtain ⟨a, vs, rfl, h1, _, r1⟩ := scrF hx
    obtain rfl : vy = .int i := hy
    obtain ⟨d, hd, q⟩ := ixL_some hq
    obtain ⟨w, hw, rw'⟩ := atI_rep r1 hd
    exact ix_list value slice pins s σ H _ _ v u Q I rx ry ⟨a, vs, i, w, rfl, rfl, h1, hw, f.here g rw' q⟩ hs
  case cell.int a i =>
    obtain rfl : vx = .ref a := hx
    obtain rfl : vy = .int i := hy
    obtain ⟨xs, hc, q⟩ := cellL_some hq
    obtain ⟨vs, h1, _, r1⟩ := g.cel a _ hc
    obtain ⟨d, hd, q⟩ := ixL_some q
    obtain ⟨w, hw, rw'⟩ := atI_rep r1 hd
    exact ix_list value slice pins s σ H _ _ v u Q I rx ry ⟨a, vs, i, w, rfl, rfl, SqL.of h1, hw, f.here g rw' q⟩ hs
/-! ### slices -/
theorem cut_rep {xs : List D} {vs : List V} {lo hi : Option Int} (r : Reps K H M B xs vs) : Reps K H M B (cutD xs lo hi) (cutV vs lo hi) := by
  unfold cutD cutV
  rw [r.length]
  exact (r.drop _).take _
theorem cut_len {α : Type} (xs : List α) (lo hi : Option Int) : (cutD xs lo hi).length ≤ xs.length := by
  unfold cutD
  simp only [List.length_take, List.length_drop]
  omega
theorem cut_whole {α : Type} {xs : List α} {lo hi : Option Int} (h1 : HT.sIx xs.length 0 lo = 0) (h2 : HT.sIx xs.length xs.length hi = xs.length) : cutD xs lo hi = xs := by
  unfold cutD
  rw [h1, h2]; simp
def RSl (X : Cx) : V → Option Int → Option Int → Hp → VK → Prop := fun v lo hi H Q => ∃ (x : D) (M : Mem) (B : Bad) (Qd : QD), Good X.K H M B ∧ Rep X.K H M B x v ∧ Fol X H M B Qd Q ∧ match x with
  | .lst xs => Qd (.lst (cutD xs lo hi)) M
  | .scr xs => Qd (.lst (cutD xs lo hi)) M
  | .tup xs => Qd (.tup (cutD xs lo hi)) M
  | .cell a => cellL M a fun xs => Qd (.lst (cutD xs lo hi)) M
  | _ => False
theorem sl_ok : SlR X (RSl X) := by
  intro pins s σ H x v vl vu lo hi sl Q I rx hs pl pu h
  obtain ⟨d, M, B, Qd, g, rd, f, q⟩ := h
  cases d <;> first | exact q.elim | skip
  case lst xs =>
    obtain ⟨a, vs, rfl, h1, z, r1⟩ := lstF rd
    exact sl_list pins s σ H _ v vl vu lo hi sl Q I rx hs pl pu ⟨a, vs, rfl, SqL.of h1, fun p hp => f.lst g hp (cut_rep r1) (Nat.le_trans (cut_len _ _ _) z) q⟩
  case scr xs =>
    obtain ⟨a, vs, rfl, h1, z, r1⟩ := scrF rd
    exact sl_list pins s σ H _ v vl vu lo hi sl Q I rx hs pl pu ⟨a, vs, rfl, h1, fun p hp => f.lst g hp (cut_rep r1) (Nat.le_trans (cut_len _ _ _) z) q⟩
  case cell a =>
    obtain rfl := rd
    obtain ⟨xs, hc, q⟩ := cellL_some (show cellL M a _ from q)
    obtain ⟨us, hu, zu, ru⟩ := g.cel a _ hc
    exact sl_list pins s σ H _ v vl vu lo hi sl Q I rx hs pl pu ⟨a, us, rfl, SqL.of hu, fun p hp => f.lst g hp (cut_rep ru) (Nat.le_trans (cut_len _ _ _) zu) q⟩
  case tup xs =>
    have rd' := rd
    obtain ⟨a, vs, e, h1, z, r1⟩ := tupF rd
    have l := r1.length
    subst e
    refine sl_tupA pins s σ H _ v vl vu lo hi sl Q I rx hs pl pu ⟨a, vs, rfl, h1, fun hw => ?_, fun hw p hp => f.tup g hp (cut_rep r1) (Nat.le_trans (cut_len _ _ _) z) q⟩
    rw [← l] at hw
    have q : Qd (.tup (cutD xs lo hi)) M := q
    rw [cut_whole hw.1 hw.2] at q
    exact f.here g rd' q
end
end RF
namespace RF
open PySem PySem.Spec PyProof.Rows L2
/-! ### t[lo:hi:k] of a tuple, k neither 0 nor 1 -/
section
variable {prog : Program} {w : World} {A : Around} {E : Value → Shared → Prop} {s : Shared}
theorem applied_step {sl : Addr} {vl vu vs : Value} {lo hi : Option Int} {k n : Int} {Q : Int × Int × Nat → Shared → Prop} (hs : s.heap.IsSliceOf sl vl vu vs) (pl : IsPart vl lo) (pu : IsPart vu hi) (ps : IsPart vs (some k)) (h0 : k ≠ 0)
    (h : Q ((Builtin.Slice.sliceAdjust lo hi k n).1, k, Builtin.Slice.slicePlaces (Builtin.Slice.sliceAdjust lo hi k n).1 (Builtin.Slice.sliceAdjust lo hi k n).2 k) s) : wpAny (model prog w) A (Builtin.Slice.sliceApplied (.ref sl) (pure n)) Q E s := by
  obtain ⟨ob, g1, -, g3⟩ := id hs
  unfold Builtin.Slice.sliceApplied Builtin.Slice.sliceFields
  have tail : wpAny (model prog w) A (do
      let step := (← Builtin.Slice.slicePartIndex vs).getD 1
      if step == 0 then rule "slice.step-zero"; raiseError "ValueError" "slice step cannot be zero"
      let start ← Builtin.Slice.slicePartIndex vl
      let stop ← Builtin.Slice.slicePartIndex vu
      let (a, b) := Builtin.Slice.sliceAdjust start stop step (← (pure n : Sem Int))
      return (a, step, Builtin.Slice.slicePlaces a b step)) Q E s := by
    refine wpAny_bind (HT.slicePart_ ps ?_)
    show wpAny _ _ (if (k == 0) = true then _ else _) _ _ s
    rw [if_neg (by simpa using h0)]
    refine wpAny_bind (HT.slicePart_ pl ?_)
    refine wpAny_bind (HT.slicePart_ pu ?_)
    exact wpAny_bind (wpAny_pure (wpAny_pure h))
  refine wpAny_bind (wpAny_bind ?_)
  refine wpAny_field g1 g3 (x := vl) rfl ?_
  refine wpAny_bind (wpAny_field g1 g3 (x := vu) rfl ?_)
  exact wpAny_bind (wpAny_field g1 g3 (x := vs) rfl (wpAny_pure tail))
theorem item_step {t sl : Addr} {its : List Value} {vl vu vs : Value} {lo hi : Option Int} {k : Int} {Q : Value → Shared → Prop} (ht : IsTup s.heap t its.toArray) (hs : s.heap.IsSliceOf sl vl vu vs) (pl : IsPart vl lo) (pu : IsPart vu hi) (ps : IsPart vs (some k)) (h0 : k ≠ 0) (h1 : k ≠ 1)
    (hz : (stepV its lo hi k).length ≤ sizeLine) (h : Q (.ref s.heap.objs.size) { s with heap := s.heap.push { cls := .type "tuple", data := .seq (stepV its lo hi k).toArray } }) : wpAny (model prog w) A (getItem (.ref t) (.ref sl)) Q E s := by
  obtain ⟨ob, g1, g2, -⟩ := id hs
  have isS : s.TypeIs (.ref sl) "slice" := ⟨ob, g1, g2⟩
  have room : sizeOk (.seq (stepV its lo hi k).toArray) := by
    show (stepV its lo hi k).toArray.size ≤ sizeLine
    rw [List.size_toArray]; exact hz
  unfold getItem
  try with_reducible refine wpAny_holding ?_
  first | refine wpAny_bind (wpAny_pure ?_) | skip
  refine wpAny_bind (wpAny_sequenceKey ht.typeIs (by decide) ?_)
  refine wpAny_bind (wpAny_callSpecial?_slot (name := Str.ofString "__getitem__") ht.typeIs PyProof.Rows.slot_tuple_getitem
    (wpAny_call_entry PyProof.Rows.slot_tuple_getitem ht.typeIs entry_tuple_getitem ?_ (args_tuple_getitem _ _)))
  show wpAny _ _ (Builtin.Tuple.tupleItemsOf (.ref t) >>= _) _ _ s
  refine wpAny_bind (tupleItemsOf_ ht ?_)
  refine wpAny_bind (wpAny_typeOf isS ?_)
  rw [if_pos (by decide)]
  refine wpAny_bind (applied_step hs pl pu ps h0 ?_)
  have k1 : (k == 1) = false := by simpa using h1
  simp only [k1, Bool.and_false, Bool.false_and, Bool.false_eq_true, if_false]
  have e : ((List.range (Builtin.Slice.slicePlaces (Builtin.Slice.sliceAdjust lo hi k (its.toArray.size : Int)).1 (Builtin.Slice.sliceAdjust lo hi k (its.toArray.size : Int)).2 k)).filterMap fun (m : Nat) => its.toArray[((Builtin.Slice.sliceAdjust lo hi k (its.toArray.size : Int)).1 + (m : Int) * k).toNat]?).toArray = (stepV its lo hi k).toArray := by
    unfold stepV
    simp
  rw [e]
  first
    | exact wpAny_bind (m := Builtin.Tuple.tupleExact _) (wpAny_newObj_type (wpAny_pure ⟨_, rfl, wpAny_pure h⟩) room)
    | exact wpAny_bind (m := Builtin.Tuple.tupleExact _) (wpAny_newObj_type (wpAny_bind (wpAny_pure (wpAny_pure ⟨_, rfl, wpAny_pure h⟩))) room)
    | exact wpAny_bind (wpAny_bind (m := Builtin.Tuple.tupleExact _) (wpAny_newObj_type (wpAny_pure (wpAny_pure ⟨_, rfl, wpAny_pure h⟩)) room))
    | exact wpAny_bind (wpAny_bind (m := Builtin.Tuple.tupleExact _) (wpAny_newObj_type (wpAny_pure ⟨_, rfl, wpAny_pure h⟩) room))
end
/-- from the values to their likes -/
theorem stepV_vals {xs : List V} {its : List Value} (r : Vals xs its) (lo hi : Option Int) (k : Int) : Vals (stepV xs lo hi k) (stepV its lo hi k) := by
  unfold stepV
  rw [r.length]
  generalize Builtin.Slice.slicePlaces (Builtin.Slice.sliceAdjust lo hi k its.length).1 (Builtin.Slice.sliceAdjust lo hi k its.length).2 k = n
  generalize (Builtin.Slice.sliceAdjust lo hi k its.length).1 = a
  generalize List.range n = l
  induction l with
  | nil => exact .nil
  | cons m l ih =>
    rw [List.filterMap_cons, List.filterMap_cons]
    generalize (a + (m : Int) * k).toNat = j
    have at' : ∀ {xs : List V} {its : List Value} (_ : Vals xs its) (j : Nat), (xs[j]? = none ∧ its[j]? = none) ∨ ∃ v u, xs[j]? = some v ∧ its[j]? = some u ∧ RelV v u := by
      intro xs its r
      induction r with
      | nil => exact fun j => .inl ⟨rfl, rfl⟩
      | cons h _ ih =>
        intro j
        cases j with
        | zero => exact .inr ⟨_, _, rfl, rfl, h⟩
        | succ j => exact ih j
    rcases at' r j with ⟨e1, e2⟩ | ⟨v, u, e1, e2, h⟩
    · rw [e1, e2]; exact ih
    · rw [e1, e2]; exact .cons h ih
theorem stepV_reps {K : PySem.W.Frag} {H : Hp} {M : Mem} {B : Bad} {xs : List D} {vs : List V} (r : Reps K H M B xs vs) (lo hi : Option Int) (k : Int) : Reps K H M B (stepV xs lo hi k) (stepV vs lo hi k) := by
  unfold stepV
  rw [r.length]
  generalize Builtin.Slice.slicePlaces (Builtin.Slice.sliceAdjust lo hi k vs.length).1 (Builtin.Slice.sliceAdjust lo hi k vs.length).2 k = n
  generalize (Builtin.Slice.sliceAdjust lo hi k vs.length).1 = a
  generalize List.range n = l
  induction l with
  | nil => exact rfl
  | cons m l ih =>
    rw [List.filterMap_cons, List.filterMap_cons]
    generalize (a + (m : Int) * k).toNat = j
    cases e : xs[j]? with
    | none =>
      have : vs[j]? = none := by
        rw [List.getElem?_eq_none_iff] at e ⊢
        rw [← r.length]; exact e
      rw [this]; exact ih
    | some d =>
      obtain ⟨v, hv, rv⟩ := r.get e
      rw [hv]
      exact ⟨v, _, rfl, rv, ih⟩
section
variable {X : Cx}
/-- a[lo:hi:k]: a tuple, or the whole of a list backwards -/
def tStep (K : PySem.W.Frag) (te : TE) (tl th tk : TO) : TE := fun σ H Q => te σ H fun x H1 => tl σ H1 fun l H2 => th σ H2 fun u H3 => tk σ H3 fun o H4 =>
  (∃ k a xs, o = some k ∧ x = .ref a ∧ SqT K H4 a xs ∧ k ≠ 0 ∧ k ≠ 1 ∧ (stepV xs l u k).length ≤ sizeLine ∧ ∀ p, H4 p = none → Q (.ref p) (upd H4 p (.tup (stepV xs l u k)))) ∨
  ∃ a xs, o = some (-1) ∧ l = none ∧ u = none ∧ x = .ref a ∧ SqL K H4 a xs ∧ ∀ p, H4 p = none → Q (.ref p) (upd H4 p (.lst xs.reverse))
theorem pe_step {e stE : Expr} {te : TE} {lo hi : Option Expr} {tl th tk : TO} {p2 pos : Pos} (he : PE X e te) (hl : PO X lo tl) (hu : PO X hi th) (hst : PO X (some stE) tk) : PE X (.Subscript e (.Slice lo hi (some stE) p2) pos) (tStep X.K te tl th tk) := by
  refine ⟨fun pins s σ H Q I h => ?_⟩
  refine Subscript_ (thn (he.run pins s σ H _ I h) fun v s1 ⟨x, H1, I1, r1, q1⟩ => ?_)
  refine wpAny_Slice (thn (hl.run pins s1 σ H1 _ I1 q1) fun vl s2 ⟨l, H2, I2, pl, q2⟩ => ?_)
  refine thn (hu.run pins s2 σ H2 _ I2 q2) fun vu s3 ⟨u, H3, I3, pu, q3⟩ => ?_
  refine thn (hst.run pins s3 σ H3 _ I3 q3) fun vs s4 ⟨o, H4, I4, ps, q4⟩ => ?_
  have I5 : Inv X pins σ H4 { s4 with heap := s4.heap.push { cls := .type "slice", data := .fields #[vl, vu, vs] } } := I4.kept (t' := s4.toks) fun b ob q => Heap.get?_push_of_some _ q
  show wpAny (model X.prog X.w) X.A (subscriptTail e (.Slice lo hi (some stE) p2) v (.ref s4.heap.objs.size)) (EP X pins σ Q) X.xe { s4 with heap := s4.heap.push { cls := .type "slice", data := .fields #[vl, vu, vs] } }
  rcases q4 with ⟨k, a, xs, rfl, rfl, hx, h0, h1, hz, q⟩ | ⟨a, xs, rfl, rfl, rfl, rfl, hx, q⟩
  · cases r1
    obtain ⟨its, r, ht, z⟩ := I5.tuple hx
    have sv := stepV_vals r l u k
    refine tail_any (ops := [.ref a, .ref s4.heap.objs.size]) ht.typeIs (PyProof.Rows.slot_tuple_getitem.lookup) ?_ (by with_unfolding_all rfl)
    refine item_step ht (Heap.IsSliceOf.new _ vl vu vs) pl pu ps h0 h1 (by rw [← sv.length]; exact hz) ?_
    refine ⟨.ref _, _, I5.laid (t' := s4.toks) (o := .tup (stepV xs l u k)) (fun b ob q => Heap.get?_push_of_some _ q) (Nat.le_refl _) ?_, rfl, q _ (I5.hok.fresh (Nat.le_refl _))⟩
    exact ⟨hz, _, sv, ⟨_, Heap.get?_push_size _ rfl, rfl, _, rfl⟩⟩
  · cases r1
    obtain ⟨its, r, ht, hz⟩ := I5.list hx
    have hlen := r.length
    refine tail_any (ops := [.ref a, .ref s4.heap.objs.size]) ht.isList.typeIs (PySem.slot_list_getitem.lookup) ?_ (by with_unfolding_all rfl)
    refine wpAny_getItem_list_slice ht.isList (Heap.IsSliceOf.new _ vl vu vs) pl pu ps (by decide) ?_ (by rw [List.size_toArray]; omega)
    rw [PySem.W.krv_pick]
    refine ⟨.ref _, _, I5.laid (t' := s4.toks) (o := .lst xs.reverse) (fun b ob q => Heap.get?_push_of_some _ q) (Nat.le_refl _) ?_, rfl, q _ (I5.hok.fresh (Nat.le_refl _))⟩
    exact ⟨by rw [List.length_reverse]; exact hz, _, 0, r.reverse, Heap.get?_push_size _ rfl⟩
end
/-- backwards -/
theorem stepV_rev {α : Type} (xs : List α) : stepV xs none none (-1) = xs.reverse := by
  unfold stepV Builtin.Slice.sliceAdjust Builtin.Slice.slicePlaces
  simp only [show ((-1 : Int) < 0) = True from eq_true (by decide), show ((-1 : Int) > 0) = False from eq_false (by decide), if_true, if_false]
  have e : (if (xs.length : Int) - 1 > -1 then ((xs.length : Int) - 1 - -1 - 1) / (- -1) + 1 else 0).toNat = xs.length := by
    rw [show (- -1 : Int) = 1 from rfl, Int.ediv_one]
    split <;> omega
  rw [e]
  refine List.ext_getElem? fun i => ?_
  have key : ∀ n, n ≤ xs.length → (List.range n).filterMap (fun (m : Nat) => xs[((xs.length : Int) - 1 + (m : Int) * -1).toNat]?) = xs.reverse.take n := by
    intro n
    induction n with
    | zero => intro _; rfl
    | succ n ih =>
      intro h
      rw [List.range_succ, List.filterMap_append, ih (by omega), List.take_succ]
      congr 1
      rw [List.getElem?_reverse (by omega)]
      have : ((xs.length : Int) - 1 + (n : Int) * -1).toNat = xs.length - 1 - n := by omega
      rw [List.filterMap_cons, this]
      cases xs[xs.length - 1 - n]? <;> rfl
  rw [key _ (Nat.le_refl _), ← List.length_reverse, List.take_length]
end RF
/-! enumerate of a tuple -/
namespace PySem
open Sem (wp)
theorem meets_enum1T {v : Value} {o : Obj} {H : Heap → Prop} (B : Begins v o H) (hv : ∃ t items, v = .ref t ∧ ∀ h, H h → h.IsTuple t items) :
    Meets (Builtin.«enumerate.__new__» ⟨[.type "enumerate", v], []⟩) (fun _ R s => H s.heap ∧
      R (.ok (.ret (.ref (s.heap.push o).objs.size))) { s with heap := (s.heap.push o).push { cls := .type "enumerate", data := .fields #[.none, .bool false, .ref s.heap.objs.size, rawInt 0, .none, .none] } }) :=
  .of_wp fun prog w A R s h => by
    obtain ⟨hp, g, d, tk, os⟩ := s; obtain ⟨h1, h⟩ := h
    have hsub := sub_enumerate
    have q1 : ∀ {A' : Around} {E : Value → Shared → Prop} {Q : Value → Shared → Prop}, Q (.ref hp.objs.size) ⟨hp.push o, g, d, tk, os⟩ → wpAny (model prog w) A' (pyIter v) Q E ⟨hp, g, d, tk, os⟩ :=
      fun q => B.iter prog w _ _ ⟨hp, g, d, tk, os⟩ _ h1 q
    wp_walk using q1
    refine wpAny_stack_any fun st => wpAny_pure ?_
    split
    · rename_i c _ _ _ _ _
      cases (c == Value.type "enumerate")
      · wp_walk using q1
        exact ⟨_, rfl, h⟩
      · wp_walk using q1
        exact ⟨_, rfl, h⟩
    · wp_walk using q1
      exact ⟨_, rfl, h⟩
section
variable {prog : Program} {w : World} {A : Around} {E : Value → Shared → Prop} {s : Shared}
theorem enum1_begins {t : Addr} {items : Array Value} {Q : Value → Shared → Prop} (h1 : s.heap.IsTuple t items)
    (h : ∀ h', IsEnum h' (s.heap.objs.size + 1) s.heap.objs.size 0 .none → h'.IsTupleIter s.heap.objs.size t 0 → h'.objs.size = s.heap.objs.size + 2 →
      (∀ b o, s.heap.get? b = some o → h'.get? b = some o) → Q (.ref (s.heap.objs.size + 1)) { s with heap := h' }) :
    wpAny (model prog w) A (call (.type "enumerate") [.ref t]) Q E s := by
  refine callType_new F.called_enumerate (by decide) (F.typeCall_enumerate_1 _) (F.newCall_enumerate_1 _) (fun obj => F.args_object_init_2 obj _) F.entry_enumerate_new
    (meets_enum1T (begins_tuple t items) ⟨t, items, rfl, fun _ z => z⟩) ⟨h1, ?_⟩
  have hz : (s.heap.push { cls := .type "tuple_iterator", data := .fields #[.ref t, .int 0 0] }).objs.size = s.heap.objs.size + 1 := Heap.size_push ..
  show _ ∧ _
  rw [hz]
  have he : IsEnum ((s.heap.push { cls := .type "tuple_iterator", data := .fields #[.ref t, .int 0 0] }).push { cls := .type "enumerate", data := .fields #[.none, .bool false, .ref s.heap.objs.size, rawInt 0, .none, .none] }) (s.heap.objs.size + 1) s.heap.objs.size 0 .none := by
    have := Heap.get?_push_size (s.heap.push { cls := .type "tuple_iterator", data := .fields #[.ref t, .int 0 0] }) (o := { cls := .type "enumerate", data := .fields #[.none, .bool false, .ref s.heap.objs.size, rawInt 0, .none, .none] }) rfl
    rw [hz] at this; exact this
  refine ⟨⟨_, he, rfl⟩, h _ he ⟨_, Heap.get?_push_of_some _ (Heap.get?_push_size _ rfl), rfl, rfl⟩ (by rw [Heap.size_push, hz]) fun b o x => Heap.get?_push_of_some _ (Heap.get?_push_of_some _ x)⟩
end
end PySem
namespace RF
open PySem PySem.Spec PyProof.Rows L2
/-- the tuple at a, each item in a new pair -/
def IteT (K : PySem.W.Frag) (a : Addr) : It :=
  ⟨fun i H => ∃ (xs : List V) (x : V), SqT K H a xs ∧ xs[i]? = some x, fun i H v H' => ∃ T x, v = .ref T ∧ H T = none ∧ H' = upd H T (.tup [.int (i : Nat), x]) ∧ ∀ xs, SqT K H a xs → xs[i]? = some x, fun i H => ∃ xs : List V, SqT K H a xs ∧ xs.length ≤ i⟩
theorem turn_enumT {P : Program} {w : World} {K : PySem.W.Frag} {elts : List Expr} {kk : Nat} {tpos : Pos} (a e it : Addr) (hta : a ≠ it) :
    Turn P w K (.Tuple elts kk tpos) (IteT K a) [e, it] e (fun i h => (∃ old, IsEnum h e it ((i : Nat) : Int) old) ∧ h.IsTupleIter it a i ∧ e ≠ it ∧ a ≠ e) where
  mem := by simp
  obj := fun i h st b hb => by
    obtain ⟨⟨old, he⟩, ⟨o, ho, hc, hd⟩, _⟩ := st
    have e' : b = e ∨ b = it := by simpa using hb
    rcases e' with z | z
    · rw [z]; exact ⟨_, he, fun v q => nomatch q⟩
    · rw [z]; exact ⟨o, ho, fun v q => by rw [hd] at q; cases q⟩
  keep := fun i h h' st k => let ⟨⟨old, he⟩, hi, hne⟩ := st; ⟨⟨old, k e (by simp) _ he⟩, hi.at fun o q => k it (by simp) o q, hne⟩
  item := by
    intro X hP hw hK hc i pins s σ H E I hf st hg
    subst hP hw hK
    obtain ⟨⟨old, he⟩, hit, hne, hae⟩ := st
    obtain ⟨xs, x, hq, hx⟩ := hg
    obtain ⟨its, rv, p, hz⟩ := I.tuple hq
    obtain ⟨u, hu, ru⟩ := rv.get hx
    have hel : e < s.heap.objs.size := Heap.lt_size he
    have hil : it < s.heap.objs.size := by obtain ⟨_, q, _⟩ := hit; exact Heap.lt_size q
    have D := Draws.tuple (prog := X.prog) (w := X.w) (A := X.A.in1) (by show X.A.handled = none; exact I.ok.hd hc) it a hta its.toArray
    have hlt : i < its.toArray.size := by
      have h1 : i < its.length := by
        rcases Nat.lt_or_ge i its.length with z | z
        · exact z
        · rw [List.getElem?_eq_none z] at hu; cases hu
      simpa using h1
    refine wpAny_pyNext_enum_itemD D he ⟨hit, show s.heap.IsTuple a its.toArray from p⟩ hlt hne (by simp only [List.mem_cons, List.not_mem_nil, or_false, not_or]; exact ⟨hne, Ne.symm hae⟩) fun x' h' tk hP ho hit' hT hsz hk => ?_
    have hxu : x' = u := by
      have h2 : its[i]? = some x' := by simpa using hP
      rw [hu] at h2; exact (Option.some.inj h2).symm
    subst hxu
    refine ⟨_, rfl, wpAny_letOwnedTupleGo_enum (s := { s with heap := h', toks := tk + 1 }) ho fun h'' he' sb => ?_⟩
    have hT2 : h''.get? s.heap.objs.size = some { cls := .type "tuple", data := .seq #[.int i tk, x'] } := (sb.2 _ (Nat.ne_of_gt hel)).trans hT
    have new : ObjOk X.prog X.w (upd H s.heap.objs.size (.tup [.int (i : Nat), x])) h'' s.heap.objs.size (.tup [.int (i : Nat), x]) :=
      ⟨by show 2 ≤ sizeLine; decide, [.int i tk, x'], .cons ⟨_, rfl⟩ (.cons ru .nil), ⟨_, hT2, rfl, _, rfl⟩⟩
    have I1 : Inv X pins σ (upd H s.heap.objs.size (.tup [.int (i : Nat), x])) { s with heap := h'', toks := tk + 1 } :=
      I.turnedNew (ch := [e, it]) (fun b ob hb q => (sb.2 b (fun z => hb (by simp [z]))).trans (hk b ob (fun z => hb (by simp [z])) (fun z => hb (by simp [z])) q)) hf (Nat.le_refl _) new
    refine ⟨.ref s.heap.objs.size, _, I1, rfl, ⟨_, x, rfl, I.hok.fresh (Nat.le_refl _), rfl, fun ys hy => by rw [I.tuple_inj hy hq]; exact hx⟩, ⟨⟨x', ?_⟩, hit'.1.at fun o q => (sb.2 it (Ne.symm hne)).trans q, hne, hae⟩, fun b hb => ?_⟩
    · have e1 : ((i + 1 : Nat) : Int) = (i : Int) + 1 := by omega
      rw [e1]; exact he'
    · have hb' : b < s.heap.objs.size := by
        have e' : b = e ∨ b = it := by simpa using hb
        rcases e' with z | z
        · rw [z]; exact hel
        · rw [z]; exact hil
      rw [upd_ne (Nat.ne_of_lt hb')]
      exact (hf b hb).1
  done := by
    intro X hP hw hK hc i pins s σ H E I hf st hg
    subst hP hw hK
    obtain ⟨⟨old, he⟩, hit, hne, hae⟩ := st
    obtain ⟨xs, hq, hx⟩ := hg
    obtain ⟨its, rv, p, hz⟩ := I.tuple hq
    obtain ⟨f0, f1, f2, f3, f4, f5⟩ := hf it (by simp)
    have hl := rv.length
    have hh : X.A.handled = none := I.ok.hd hc
    have D : Draws X.prog X.w X.A.in1 it [it, a] i (fun i v => its.toArray[i]? = some v) (fun j h => j = i ∧ h.IsTupleIter it a i ∧ h.IsTuple a its.toArray) := {
      live := fun _ _ st => let ⟨o, ho, _⟩ := st.2.1; ⟨o, ho⟩
      frame := fun _ _ _ st hk => ⟨st.1, st.2.1.at fun o e => hk it (by simp) o e, st.2.2.at fun o e => hk a (by simp) o e⟩
      item := fun j s Q E hi st hQ => by
        have := st.1
        omega
      done := fun s Q E st hE => wpAny_nextOf_tuple_end hh st.2.1 st.2.2 (by simp; omega) hE }
    exact wpAny_pyNext_enum_endD D he ⟨rfl, hit, show s.heap.IsTuple a its.toArray from p⟩ fun h' eb => ⟨rfl, I.turned (t' := s.toks) (fun b o hb q => eb b o hb q) f0 f1 f3 f4 f5⟩
  self := fun A i s Q E st h => let ⟨⟨_, he⟩, _⟩ := st; wpAny_pyIter_enum he h
end RF
/-! zip of two lists or tuples, of either kind -/
namespace RF
open PySem PySem.Spec PyProof.Rows L2
def SqK (t : Bool) (K : PySem.W.Frag) (H : Hp) (a : Addr) (xs : List V) : Prop := match t with
  | true => SqT K H a xs
  | false => SqL K H a xs
def itK (t : Bool) (h : Heap) (it a : Addr) (i : Nat) : Prop := match t with
  | true => h.IsTupleIter it a i
  | false => h.IsListIter it a i
def ctK (t : Bool) (h : Heap) (a : Addr) (its : Array Value) : Prop := match t with
  | true => h.IsTuple a its
  | false => h.IsList a its
theorem itK.at {t : Bool} {h h' : Heap} {it a : Addr} {i : Nat} (x : itK t h it a i) (k : ∀ o, h.get? it = some o → h'.get? it = some o) : itK t h' it a i := by
  cases t with
  | true => exact (show h.IsTupleIter it a i from x).at k
  | false => exact (show h.IsListIter it a i from x).at k
theorem itK.obj {t : Bool} {h : Heap} {it a : Addr} {i : Nat} (x : itK t h it a i) : ∃ o, h.get? it = some o ∧ ∀ v, o.data ≠ .cell v := by
  cases t with
  | true =>
    obtain ⟨o, e, _, d⟩ := (show h.IsTupleIter it a i from x)
    exact ⟨o, e, fun v q => by rw [d] at q; cases q⟩
  | false =>
    obtain ⟨o, e, _, d⟩ := (show h.IsListIter it a i from x)
    exact ⟨o, e, fun v q => by rw [d] at q; cases q⟩
section
variable {X : Cx} {pins : List (Addr × Obj)} {σ : L2.St} {H : Hp} {s : Shared}
theorem inv_K (I : Inv X pins σ H s) {t : Bool} {a : Addr} {xs : List V} (h : SqK t X.K H a xs) : ∃ its : List Value, Vals xs its ∧ ctK t s.heap a its.toArray ∧ a < s.heap.objs.size := by
  cases t with
  | true =>
    obtain ⟨its, r, p, _⟩ := I.tuple (show SqT X.K H a xs from h)
    refine ⟨its, r, p, ?_⟩
    obtain ⟨o, e, _⟩ := p
    exact Heap.lt_size e
  | false =>
    obtain ⟨its, r, p, _⟩ := I.list (show SqL X.K H a xs from h)
    exact ⟨its, r, p.isList, p.lt⟩
theorem inj_K (I : Inv X pins σ H s) {t : Bool} {a : Addr} {xs ys : List V} (h : SqK t X.K H a xs) (h' : SqK t X.K H a ys) : xs = ys := by
  cases t with
  | true => exact I.tuple_inj h h'
  | false => exact I.list_inj h h'
end
theorem drawsK {prog : Program} {w : World} {A : Around} (t : Bool) (hh : A.handled = none) (it a : Addr) (hne : a ≠ it) (items : Array Value) :
    Draws prog w A it [it, a] items.size (fun i v => items[i]? = some v) (fun i h => itK t h it a i ∧ ctK t h a items) := by
  cases t with
  | true => exact Draws.tuple hh it a hne items
  | false => exact Draws.list hh it a hne items
def itO (t : Bool) (a : Addr) : Obj := match t with
  | true => { cls := .type "tuple_iterator", data := .fields #[.ref a, .int 0 0] }
  | false => { cls := .type "list_iterator", data := .fields #[.ref a, .int 0 0] }
theorem beginsK (t : Bool) (a : Addr) (items : Array Value) : Begins (.ref a) (itO t a) fun h => ctK t h a items := by
  cases t with
  | true => exact begins_tuple a items
  | false => exact begins_list a items
theorem itO_it {t : Bool} {h : Heap} {it a : Addr} (e : h.get? it = some (itO t a)) : itK t h it a 0 := by
  cases t with
  | true => exact ⟨_, e, rfl, rfl⟩
  | false => exact ⟨_, e, rfl, rfl⟩
def ItzM (K : PySem.W.Frag) (t u : Bool) (a b : Addr) : It :=
  ⟨fun i H => ∃ (xs ys : List V) (x y : V), SqK t K H a xs ∧ SqK u K H b ys ∧ xs[i]? = some x ∧ ys[i]? = some y,
    fun i H v H' => ∃ T x y, v = .ref T ∧ H T = none ∧ H' = upd H T (.tup [x, y]) ∧ (∀ xs, SqK t K H a xs → xs[i]? = some x) ∧ ∀ ys, SqK u K H b ys → ys[i]? = some y,
    fun i H => ∃ xs ys : List V, SqK t K H a xs ∧ SqK u K H b ys ∧ i = min xs.length ys.length⟩
theorem turn_zipM {P : Program} {w : World} {K : PySem.W.Frag} {elts : List Expr} {kk : Nat} {tpos : Pos} {t u : Bool} {a b z TI TO i1 i2 : Addr} (D : ZipSep2 z TI TO i1 i2 [i1, a] [i2, b]) (ha : a ≠ i1) (hb : b ≠ i2) :
    Turn P w K (.Tuple elts kk tpos) (ItzM K t u a b) [z, TI, TO, i1, i2] z (fun i h => IsZip h z TI TO .none ∧ IsTupOf2 h TI (.ref i1) (.ref i2) ∧ (∃ x y, IsTupOf2 h TO x y) ∧ itK t h i1 a i ∧ itK u h i2 b i) where
  mem := by simp
  obj := fun i h st c hc => by
    obtain ⟨hz, hTI, ⟨x, y, hTO⟩, h1, h2⟩ := st
    have e' : c = z ∨ c = TI ∨ c = TO ∨ c = i1 ∨ c = i2 := by simpa using hc
    rcases e' with q | q | q | q | q
    · rw [q]; exact ⟨_, hz, fun v q => nomatch q⟩
    · rw [q]; exact ⟨_, hTI, fun v q => nomatch q⟩
    · rw [q]; exact ⟨_, hTO, fun v q => nomatch q⟩
    · rw [q]; exact h1.obj
    · rw [q]; exact h2.obj
  keep := fun i h h' st k => by
    obtain ⟨hz, hTI, ⟨x, y, hTO⟩, h1, h2⟩ := st
    exact ⟨k z (by simp) _ hz, k TI (by simp) _ hTI, ⟨x, y, k TO (by simp) _ hTO⟩, h1.at fun o q => k i1 (by simp) o q, h2.at fun o q => k i2 (by simp) o q⟩
  item := by
    intro X hP hw hK hc i pins s σ H E I hf st hg
    subst hP hw hK
    obtain ⟨hz, hTI, ⟨x0, y0, hTO⟩, h1, h2⟩ := st
    obtain ⟨xs, ys, x, y, hqx, hqy, hx, hy⟩ := hg
    obtain ⟨its, rv, p, _⟩ := inv_K I hqx
    obtain ⟨its2, rv2, p2, _⟩ := inv_K I hqy
    obtain ⟨u1, hu, ru⟩ := rv.get hx
    obtain ⟨u2, hu2, ru2⟩ := rv2.get hy
    have hzl : z < s.heap.objs.size := Heap.lt_size hz
    have hh : X.A.in1.handled = none := by show X.A.handled = none; exact I.ok.hd hc
    have lt1 : i < its.toArray.size := by
      have : i < its.length := (List.getElem?_eq_some_iff.mp hu).1
      simpa using this
    have lt2 : i < its2.toArray.size := by
      have : i < its2.length := (List.getElem?_eq_some_iff.mp hu2).1
      simpa using this
    refine wpAny_pyNext_zipD2_item D (drawsK t hh i1 a ha its.toArray) (drawsK u hh i2 b hb its2.toArray) hz hTI hTO ⟨h1, p⟩ ⟨h2, p2⟩ lt1 lt2 fun x1 x2 h' tk hP1 hP2 z' TO' h1' h2' hT hsz hk => ?_
    have e1 : x1 = u1 := by
      have h3 : its[i]? = some x1 := by simpa using hP1
      rw [hu] at h3; exact (Option.some.inj h3).symm
    have e2 : x2 = u2 := by
      have h3 : its2[i]? = some x2 := by simpa using hP2
      rw [hu2] at h3; exact (Option.some.inj h3).symm
    subst e1 e2
    refine ⟨_, rfl, wpAny_letOwnedTupleGo_zip (s := { s with heap := h', toks := tk }) z' fun h'' z'' sb => ?_⟩
    have hT2 : h''.get? s.heap.objs.size = some { cls := .type "tuple", data := .seq #[x1, x2] } := (sb.2 _ (Nat.ne_of_gt hzl)).trans hT
    have new : ObjOk X.prog X.w (upd H s.heap.objs.size (.tup [x, y])) h'' s.heap.objs.size (.tup [x, y]) :=
      ⟨by show 2 ≤ sizeLine; decide, [x1, x2], .cons ru (.cons ru2 .nil), ⟨_, hT2, rfl, _, rfl⟩⟩
    have I1 : Inv X pins σ (upd H s.heap.objs.size (.tup [x, y])) { s with heap := h'', toks := tk } :=
      I.turnedNew (t' := tk) (ch := [z, TI, TO, i1, i2]) (fun c o hb q => (sb.2 c (fun q' => hb (by simp [q']))).trans (hk c o (fun q' => hb (by simp [q'])) (fun q' => hb (by simp [q'])) (fun q' => hb (by simp [q'])) (fun q' => hb (by simp [q'])) q)) hf (Nat.le_refl _) new
    refine ⟨.ref s.heap.objs.size, _, I1, rfl, ⟨_, x, y, rfl, I.hok.fresh (Nat.le_refl _), rfl, fun l hl => by rw [inj_K I hl hqx]; exact hx, fun l hl => by rw [inj_K I hl hqy]; exact hy⟩, ⟨z'', ?_, ⟨x1, x2, ?_⟩, ?_, ?_⟩, fun c hcm => ?_⟩
    · exact (sb.2 _ D.TIz).trans (hk _ _ D.TIz D.TITO D.TIi1 D.TIi2 hTI)
    · exact (sb.2 _ D.TOz).trans TO'
    · exact h1'.1.at fun o q => (sb.2 _ (Ne.symm D.zi1)).trans q
    · exact h2'.1.at fun o q => (sb.2 _ (Ne.symm D.zi2)).trans q
    · have hlt : c < s.heap.objs.size := by
        have e' : c = z ∨ c = TI ∨ c = TO ∨ c = i1 ∨ c = i2 := by simpa using hcm
        rcases e' with q | q | q | q | q
        · rw [q]; exact hzl
        · rw [q]; exact Heap.lt_size hTI
        · rw [q]; exact Heap.lt_size hTO
        · rw [q]; obtain ⟨_, e1, _⟩ := h1.obj; exact Heap.lt_size e1
        · rw [q]; obtain ⟨_, e2, _⟩ := h2.obj; exact Heap.lt_size e2
      rw [upd_ne (Nat.ne_of_lt hlt)]
      exact (hf c hcm).1
  done := by
    intro X hP hw hK hc i pins s σ H E I hf st hg
    subst hP hw hK
    obtain ⟨hz, hTI, ⟨x0, y0, hTO⟩, h1, h2⟩ := st
    obtain ⟨xs, ys, hqx, hqy, hend⟩ := hg
    obtain ⟨its, rv, p, _⟩ := inv_K I hqx
    obtain ⟨its2, rv2, p2, _⟩ := inv_K I hqy
    have l1 := rv.length
    have l2 := rv2.length
    have hh : X.A.in1.handled = none := by show X.A.handled = none; exact I.ok.hd hc
    have s1 : its.toArray.size = its.length := by simp
    have s2 : its2.toArray.size = its2.length := by simp
    exact wpAny_pyNext_zipD2_end D (drawsK t hh i1 a ha its.toArray) (drawsK u hh i2 b hb its2.toArray) hz hTI hTO ⟨h1, p⟩ ⟨h2, p2⟩ (by omega) (by omega) (by omega) fun h' tk hk => ⟨rfl, I.turnedL (t' := tk) (ch := [z, TI, TO, i1, i2]) (fun c o hb q =>
      hk c o (fun q' => hb (by simp [q'])) (fun q' => hb (by simp [q'])) (fun q' => hb (by simp [q'])) (fun q' => hb (by simp [q'])) q) hf⟩
  self := fun A i s Q E st h => wpAny_pyIter_zip st.1 h
def iZipM (K : PySem.W.Frag) (ta : TA) : TI := fun σ H R => ta σ H fun vs H1 => ∃ t u a b xs ys, vs = [.ref a, .ref b] ∧ SqK t K H1 a xs ∧ SqK u K H1 b ys ∧ R (ItzM K t u a b) H1
theorem pi_zipM {X : Cx} {e e2 : Expr} {ta : TA} {p pos tpos : Pos} {elts : List Expr} {kk : Nat} (hg : Gl X "zip") (hm : X.mg "zip" = none) (ha : PA X [e, e2] ta)
    (hs : starEach [e, e2] X.env = (false, eval e X.env) :: starEach [e2] X.env) (hpl : (backTo pos (starEach [e2] X.env)).any (·.1) = false) :
    PI X (.Tuple elts kk tpos) (.Call (.Name "zip" p) [e, e2] [] pos) (iZipM X.K ta) := by
  refine ⟨fun pins s σ H R I h => ?_⟩
  refine Call_ (ld_blt I hg hm PyProof.Rows.boot_zip (PyProof.Rows.callWith_type1 (thn (ha.run pos pins s σ H _ I h) fun us s1 ⟨vs, H1, I1, r1, q1⟩ => ?_) hs hpl))
  obtain ⟨t, u, a, b, xs, ys, ex, hqx, hqy, q⟩ := q1
  subst ex
  cases r1 with
  | cons r rr =>
    cases rr with
    | cons r' rr =>
      cases rr
      cases r
      cases r'
      have fresh5 : ∀ c, c ∈ [s1.heap.objs.size + 4, s1.heap.objs.size + 2, s1.heap.objs.size + 3, s1.heap.objs.size, s1.heap.objs.size + 1] → FpOk X pins H1 c := fun c hcm => by
        have e' : c = s1.heap.objs.size + 4 ∨ c = s1.heap.objs.size + 2 ∨ c = s1.heap.objs.size + 3 ∨ c = s1.heap.objs.size ∨ c = s1.heap.objs.size + 1 := by simpa using hcm
        have hle : s1.heap.objs.size ≤ c := by
          rcases e' with z | z | z | z | z
          · rw [z]; exact Nat.le_add_right _ _
          · rw [z]; exact Nat.le_add_right _ _
          · rw [z]; exact Nat.le_add_right _ _
          · rw [z]; exact Nat.le_refl _
          · rw [z]; exact Nat.le_add_right _ _
        exact I1.fpOk hle (I1.hok.fresh hle)
      obtain ⟨its, rv, p1, la⟩ := inv_K I1 hqx
      obtain ⟨its2, rv2, p2, lb⟩ := inv_K I1 hqy
      refine zip_begins2 (beginsK t a its.toArray) (beginsK u b its2.toArray) p1 p2 fun h' hz hTI hTO h1 h2 hsz hk => wpAny_pyIter_zip hz ?_
      have I2 : Inv X pins σ H1 { s1 with heap := h' } := I1.kept (t' := s1.toks) hk
      have ha1 : ∀ c ∈ [a], c < s1.heap.objs.size := fun c hc => by
        obtain rfl : c = a := by simpa using hc
        exact la
      have hb1 : ∀ c ∈ [b], c < s1.heap.objs.size := fun c hc => by
        obtain rfl : c = b := by simpa using hc
        exact lb
      have sep := zip_sep2 ha1 hb1
      exact ⟨s1.heap.objs.size + 4, [s1.heap.objs.size + 4, s1.heap.objs.size + 2, s1.heap.objs.size + 3, s1.heap.objs.size, s1.heap.objs.size + 1], _, _, H1, rfl, I2, turn_zipM (t := t) (u := u) sep (Nat.ne_of_lt la) (Nat.ne_of_lt (Nat.lt_succ_of_lt lb)), ⟨hz, hTI, ⟨_, _, hTO⟩, itO_it h1, itO_it h2⟩, fresh5, q⟩
end RF
namespace RF
open PySem PySem.Spec PyProof.Rows L2
section
variable {Γ : Cfg} {X : Cx} {W : WX} {B : Bad} {σ : SV} {H H1 : Hp} {ρ : DEnv} {M M1 : Mem} {Xd : XQ} {K : PySem.W.Frag}
/-! ### built-in functions -/
theorem asInts_eq : ∀ {ds : List D} {ns : List Int}, asInts ds = some ns → ds = ns.map D.int
  | [], _, h => by cases h; rfl
  | .int i :: r, ns, h => by
    unfold asInts at h
    cases q : asInts r with
    | none => rw [q] at h; cases h
    | some ms => rw [q] at h; cases h; rw [asInts_eq q]; rfl
  | .non :: _, _, h => nomatch h
  | .bl _ :: _, _, h => nomatch h
  | .str _ :: _, _, h => nomatch h
  | .tup _ :: _, _, h => nomatch h
  | .lst _ :: _, _, h => nomatch h
  | .dct _ _ :: _, _, h => nomatch h
  | .scr _ :: _, _, h => nomatch h
  | .cell _ :: _, _, h => nomatch h
  | .fn _ :: _, _, h => nomatch h
  | .rng _ _ :: _, _, h => nomatch h
theorem ints_reps {H : Hp} {M : Mem} {B : Bad} : ∀ ns : List Int, Reps K H M B (ns.map D.int) (ns.map V.int)
  | [] => rfl
  | n :: ns => ⟨.int n, ns.map V.int, rfl, rfl, ints_reps ns⟩
theorem asBls_eq : ∀ {ds : List D} {ns : List Bool}, asBls ds = some ns → ds = ns.map D.bl
  | [], _, h => by cases h; rfl
  | .bl i :: r, ns, h => by
    unfold asBls at h
    cases q : asBls r with
    | none => rw [q] at h; cases h
    | some ms => rw [q] at h; cases h; rw [asBls_eq q]; rfl
  | .non :: _, _, h => nomatch h
  | .int _ :: _, _, h => nomatch h
  | .str _ :: _, _, h => nomatch h
  | .tup _ :: _, _, h => nomatch h
  | .lst _ :: _, _, h => nomatch h
  | .dct _ _ :: _, _, h => nomatch h
  | .scr _ :: _, _, h => nomatch h
  | .cell _ :: _, _, h => nomatch h
  | .fn _ :: _, _, h => nomatch h
  | .rng _ _ :: _, _, h => nomatch h
def Bi.val : Bi → Value
  | .len => .builtin "len" | .int1 => .type "int" | .abs => .builtin "abs" | .max2 => .builtin "max" | .min2 => .builtin "min" | .max1 => .builtin "max" | .min1 => .builtin "min"
  | .divmod => .builtin "divmod" | .tupleOf => .type "tuple" | .listOf => .type "list" | .sum => .builtin "sum" | .all => .builtin "all" | .any => .builtin "any" | .sorted => .builtin "sorted" | .repr => .builtin "repr" | .rangeV => .type "range"
  | _ => .none
def RBi (X : Cx) (b : Bi) : List V → Hp → VK → Prop := fun vs H Q => ∃ (ds : List D) (M : Mem) (B : Bad) (Qd : QD), Good X.K H M B ∧ Reps X.K H M B ds vs ∧ biD b ds M Qd ∧ Fol X H M B Qd Q
theorem reps1 {d : D} {vs : List V} (h : Reps K H M B [d] vs) : ∃ v, vs = [v] ∧ Rep K H M B d v := by
  obtain ⟨v, r, rfl, h1, h2⟩ := h
  have h2 : r = [] := h2
  subst h2
  exact ⟨v, rfl, h1⟩
theorem reps2 {d e : D} {vs : List V} (h : Reps K H M B [d, e] vs) : ∃ v w, vs = [v, w] ∧ Rep K H M B d v ∧ Rep K H M B e w := by
  obtain ⟨v, r, rfl, h1, h2⟩ := h
  obtain ⟨w, rfl, h3⟩ := reps1 h2
  exact ⟨v, w, rfl, h1, h3⟩
theorem bi_len : CallR X (.builtin "len") (RBi X .len) := by
  intro pins s σ H xs us Q I r h
  obtain ⟨ds, M, B, Qd, g, rd, hb, f⟩ := h
  unfold biD at hb
  split at hb <;> first | (rename_i hh; cases hh; done) | skip
  all_goals first | exact hb.elim | skip
  · obtain ⟨v, rfl, rv⟩ := reps1 rd
    obtain ⟨a, vs, rfl, h1, _, r1⟩ := lstF rv
    exact call_len pins s σ H _ us Q I r ⟨_, _, rfl, .inl ⟨vs, SqL.of h1, r1.length⟩, f.here g (d := .int _) rfl hb⟩
  · obtain ⟨v, rfl, rv⟩ := reps1 rd
    obtain ⟨a, vs, rfl, h1, _, r1⟩ := tupF rv
    exact call_len pins s σ H _ us Q I r ⟨_, _, rfl, .inr ⟨vs, h1, r1.length⟩, f.here g (d := .int _) rfl hb⟩
  · obtain ⟨v, rfl, rv⟩ := reps1 rd
    obtain ⟨a, vs, rfl, h1, _, r1⟩ := scrF rv
    exact call_len pins s σ H _ us Q I r ⟨_, _, rfl, .inl ⟨vs, h1, r1.length⟩, f.here g (d := .int _) rfl hb⟩
  · obtain ⟨v, rfl, rv⟩ := reps1 rd
    obtain rfl := rv
    obtain ⟨xs, hc, q⟩ := cellL_some hb
    obtain ⟨vs, h1, _, r1⟩ := g.cel _ _ hc
    exact call_len pins s σ H _ us Q I r ⟨_, _, rfl, .inl ⟨vs, SqL.of h1, r1.length⟩, f.here g (d := .int _) rfl q⟩
  · obtain ⟨v, rfl, rv⟩ := reps1 rd
    obtain rfl := rv
    exact call_len pins s σ H _ us Q I r ⟨_, _, rfl, ⟨hb.1, rfl⟩, f.here g (d := .int _) rfl hb.2⟩
theorem bi_int1 : CallR X (.type "int") (RBi X .int1) := by
  intro pins s σ H xs us Q I r h
  obtain ⟨ds, M, B, Qd, g, rd, hb, f⟩ := h
  unfold biD at hb
  split at hb <;> first | (rename_i hh; cases hh; done) | skip
  all_goals first | exact hb.elim | skip
  · obtain ⟨v, rfl, rv⟩ := reps1 rd
    obtain rfl := rv
    exact call_int1 pins s σ H _ us Q I r (.inl ⟨_, rfl, f.here g (d := .int _) rfl hb⟩)
  · obtain ⟨v, rfl, rv⟩ := reps1 rd
    obtain rfl := rv
    exact call_int1 pins s σ H _ us Q I r (.inr ⟨_, rfl, f.here g (d := .int _) rfl hb⟩)
theorem bi_abs : CallR X (.builtin "abs") (RBi X .abs) := by
  intro pins s σ H xs us Q I r h
  obtain ⟨ds, M, B, Qd, g, rd, hb, f⟩ := h
  unfold biD at hb
  split at hb <;> first | (rename_i hh; cases hh; done) | skip
  all_goals first | exact hb.elim | skip
  · obtain ⟨v, rfl, rv⟩ := reps1 rd
    obtain rfl := rv
    exact call_abs pins s σ H _ us Q I r ⟨_, rfl, f.here g (d := .int _) rfl hb⟩
theorem bi_max2 (hc : X.calm = true) : CallR X (.builtin "max") (RBi X .max2) := by
  intro pins s σ H xs us Q I r h
  obtain ⟨ds, M, B, Qd, g, rd, hb, f⟩ := h
  unfold biD at hb
  split at hb <;> first | (rename_i hh; cases hh; done) | skip
  all_goals first | exact hb.elim | skip
  · obtain ⟨v, w, rfl, rv, rw'⟩ := reps2 rd
    obtain rfl := rv
    obtain rfl := rw'
    exact call_max2 hc pins s σ H _ us Q I r ⟨_, _, rfl, f.here g (d := .int _) rfl hb⟩
theorem bi_min2 (hc : X.calm = true) : CallR X (.builtin "min") (RBi X .min2) := by
  intro pins s σ H xs us Q I r h
  obtain ⟨ds, M, B, Qd, g, rd, hb, f⟩ := h
  unfold biD at hb
  split at hb <;> first | (rename_i hh; cases hh; done) | skip
  all_goals first | exact hb.elim | skip
  · obtain ⟨v, w, rfl, rv, rw'⟩ := reps2 rd
    obtain rfl := rv
    obtain rfl := rw'
    exact call_min2 hc pins s σ H _ us Q I r ⟨_, _, rfl, f.here g (d := .int _) rfl hb⟩
theorem divP {i j : Int} (h : divOk i j) : CDivP i j := by
  rcases h with ⟨h1, h2⟩ | ⟨h1, h2⟩
  · refine ⟨h1, PyProof.noPylong_of_log2 ?_⟩
    have := (Nat.log2_lt (show j.natAbs ≠ 0 by omega)).mpr (show j.natAbs < 2 ^ 30 by
      have : (2 : Nat) ^ 30 = 1073741824 := by decide
      omega)
    omega
  · exact ⟨h1, PyProof.noPylong_of_log2 h2⟩
theorem bi_divmod : CallR X (.builtin "divmod") (RBi X .divmod) := by
  intro pins s σ H xs us Q I r h
  obtain ⟨ds, M, B, Qd, g, rd, hb, f⟩ := h
  unfold biD at hb
  split at hb <;> first | (rename_i hh; cases hh; done) | skip
  all_goals first | exact hb.elim | skip
  · obtain ⟨v, w, rfl, rv, rw'⟩ := reps2 rd
    obtain rfl := rv
    obtain rfl := rw'
    exact call_divmodW pins s σ H _ us Q I r ⟨_, _, rfl, divP hb.1, fun p hp => f.tup (ds := [.int _, .int _]) g hp ⟨_, _, rfl, rfl, _, _, rfl, rfl, rfl⟩ (by show 2 ≤ sizeLine; decide) hb.2⟩
theorem bi_tupleOf : CallR X (.type "tuple") (RBi X .tupleOf) := by
  intro pins s σ H xs us Q I r h
  obtain ⟨ds, M, B, Qd, g, rd, hb, f⟩ := h
  unfold biD at hb
  split at hb <;> first | (rename_i hh; cases hh; done) | skip
  all_goals first | exact hb.elim | skip
  · obtain ⟨v, rfl, rv⟩ := reps1 rd
    obtain ⟨a, vs, rfl, h1, z, r1⟩ := lstF rv
    exact call_tuple_of pins s σ H _ us Q I r ⟨a, vs, rfl, .inl ⟨SqL.of h1, fun p hp => f.tup g hp r1 z hb⟩⟩
  · obtain ⟨v, rfl, rv⟩ := reps1 rd
    have rv' := rv
    obtain ⟨a, vs, e, h1, z, r1⟩ := tupF rv
    subst e
    exact call_tuple_of pins s σ H _ us Q I r ⟨a, vs, rfl, .inr ⟨h1, f.here g rv' hb⟩⟩
  · obtain ⟨v, rfl, rv⟩ := reps1 rd
    obtain rfl := rv
    obtain ⟨xs, hc, q⟩ := cellL_some hb
    obtain ⟨vs, h1, z, r1⟩ := g.cel _ _ hc
    exact call_tuple_of pins s σ H _ us Q I r ⟨_, vs, rfl, .inl ⟨SqL.of h1, fun p hp => f.tup g hp r1 z q⟩⟩
theorem bi_listOf : CallR X (.type "list") (RBi X .listOf) := by
  intro pins s σ H xs us Q I r h
  obtain ⟨ds, M, B, Qd, g, rd, hb, f⟩ := h
  unfold biD at hb
  split at hb <;> first | (rename_i hh; cases hh; done) | skip
  all_goals first | exact hb.elim | skip
  · obtain ⟨v, rfl, rv⟩ := reps1 rd
    obtain ⟨a, vs, rfl, h1, z, r1⟩ := lstF rv
    exact call_list_of pins s σ H _ us Q I r ⟨a, vs, rfl, .inl (SqL.of h1), fun p hp => f.lst g hp r1 z hb⟩
  · obtain ⟨v, rfl, rv⟩ := reps1 rd
    obtain ⟨a, vs, rfl, h1, z, r1⟩ := tupF rv
    exact call_list_of pins s σ H _ us Q I r ⟨a, vs, rfl, .inr h1, fun p hp => f.lst g hp r1 z hb⟩
theorem bi_sum (hc : X.calm = true) : CallR X (.builtin "sum") (RBi X .sum) := by
  intro pins s σ H xs us Q I r h
  obtain ⟨ds, M, B, Qd, g, rd, hb, f⟩ := h
  unfold biD at hb
  split at hb <;> first | (rename_i hh; cases hh; done) | skip
  all_goals first | exact hb.elim | skip
  · obtain ⟨v, rfl, rv⟩ := reps1 rd
    obtain ⟨a, vs, rfl, h1, z, r1⟩ := lstF rv
    unfold sumD at hb
    split at hb
    · rename_i ns e
      rw [asInts_eq e] at r1
      have e1 := r1.ints
      subst e1
      exact cr_sum hc pins s σ H _ us Q I r ⟨a, ns, rfl, SqL.of h1, f.here g (d := .int _) rfl hb⟩
    · exact hb.elim
theorem bi_rangeV : CallR X (.type "range") (RBi X .rangeV) := by
  intro pins s σ H xs us Q I r h
  obtain ⟨ds, M, B, Qd, g, rd, hb, f⟩ := h
  unfold biD at hb
  split at hb <;> first | (rename_i hh; cases hh; done) | skip
  all_goals first | exact hb.elim | skip
  · obtain ⟨v, rfl, rv⟩ := reps1 rd
    obtain rfl := rv
    obtain ⟨u, rfl, ru⟩ := vals1 r
    obtain ⟨t, rfl⟩ := ru
    rename_i bb hh
    refine call_range_1 ⟨.ref s.heap.objs.size, upd H s.heap.objs.size (.rng 0 bb), I.laid (t' := s.toks + 2) (fun b o e => Heap.get?_push_of_some _ e) (Nat.le_refl _) ?_, rfl, ?_⟩
    · exact ⟨_, _, _, Heap.get?_push_size _ rfl⟩
    · have hp := I.hok.fresh (Nat.le_refl _)
      exact f (.rng 0 _) _ _ _ (Ext.new g hp) (g.new hp) ⟨_, rfl, upd_same, g.none_of hp⟩ hb
mutual
theorem py_noDict : ∀ {d : D} {p : PyData}, py d = some p → p.hasDict = false
  | .non, _, e => by cases e; simp [PyData.hasDict]
  | .bl b, _, e => by cases e; simp [PyData.hasDict]
  | .int i, _, e => by cases e; simp [PyData.hasDict]
  | .str x, _, e => by cases e; simp [PyData.hasDict]
  | .tup xs, _, e => by
    unfold py at e
    cases q : pys xs with
    | none => rw [q] at e; cases e
    | some ps => rw [q] at e; cases e; simpa [PyData.hasDict] using pys_noDict q
  | .lst xs, _, e => by
    unfold py at e
    cases q : pys xs with
    | none => rw [q] at e; cases e
    | some ps => rw [q] at e; cases e; simpa [PyData.hasDict] using pys_noDict q
  | .dct _ _, _, e => nomatch e
  | .scr _, _, e => nomatch e
  | .cell _, _, e => nomatch e
  | .fn _, _, e => nomatch e
  | .rng _ _, _, e => nomatch e
theorem pys_noDict : ∀ {ds : List D} {ps : List PyData}, pys ds = some ps → PyData.hasDictAll ps = false
  | [], _, e => by cases e; simp [PyData.hasDictAll]
  | d :: ds, _, e => by
    unfold pys at e
    cases q : py d with
    | none => rw [q] at e; cases e
    | some p =>
      rw [q] at e
      cases q2 : pys ds with
      | none => rw [q2] at e; cases e
      | some ps => rw [q2] at e; cases e; simp [PyData.hasDictAll, py_noDict q, pys_noDict q2]
end
theorem bi_repr (hu : X.A.units + 65 < cLine) (hg : X.A.guards = some []) : CallR X (.builtin "repr") (RBi X .repr) := by
  intro pins s σ H xs us Q I r h
  obtain ⟨ds, M, B, Qd, g, rd, hb, f⟩ := h
  unfold biD at hb
  split at hb <;> first | (rename_i hh; cases hh; done) | skip
  all_goals first | exact hb.elim | skip
  · obtain ⟨v, rfl, rv⟩ := reps1 rd
    obtain ⟨p, e, s1, s2, s3, q⟩ := hb
    obtain ⟨u, rfl, ru⟩ := vals1 r
    obtain ⟨as, rr⟩ := Dp.reads I p v u (dp_of rv e) ru
    have fin : ∀ (h' : Heap) (t : Tok) (tk : Nat), (∀ (b : Addr) (o : Obj), s.heap.get? b = some o → h'.get? b = some o) → EP X pins σ Q (.str p.shown t) { s with heap := h', toks := tk } := fun h' t tk k =>
      ⟨.str p.shown, H, I.kept k, ⟨_, rfl⟩, f (.str _) (.str _) H _ (Ext.refl _ _) g rfl q⟩
    cases p with
    | none => cases rr; rw [PyData.shown.eq_1] at fin; exact P.repr_of_none (fin s.heap _ _ fun _ _ e => e)
    | bool b => cases rr; rw [PyData.shown.eq_2] at fin; exact P.repr_of_bool (fin s.heap _ _ fun _ _ e => e)
    | int i =>
      cases rr
      rw [PyData.shown.eq_3] at fin
      rw [PyData.showable.eq_4] at s1
      exact P.repr_of_int (of_decide_eq_true s1) (fin s.heap _ _ fun _ _ e => e)
    | str x =>
      cases rr
      rw [PyData.shown.eq_4] at fin s3
      exact P.repr_of_str (fin s.heap _ _ fun _ _ e => e) s3
    | list xs =>
      have nd := py_noDict e
      cases rr
      rename_i h1 h2 h3 h4
      exact repr_of_reads' (.list h1 h2 h3 h4) s1 (fun z => by rw [nd] at z; cases z) hg (by omega) (fun _ _ e => e) fin s3
    | tuple xs =>
      have nd := py_noDict e
      cases rr
      rename_i h1 h2 h3 h4
      exact repr_of_reads' (.tuple h1 h2 h3 h4) s1 (fun z => by rw [nd] at z; cases z) hg (by omega) (fun _ _ e => e) fin s3
    | dict kvs => have nd := py_noDict e; simp [PyData.hasDict] at nd
theorem bi_sorted : CallR X (.builtin "sorted") (RBi X .sorted) := by
  intro pins s σ H xs us Q I r h
  obtain ⟨ds, M, B, Qd, g, rd, hb, f⟩ := h
  unfold biD at hb
  split at hb <;> first | (rename_i hh; cases hh; done) | skip
  all_goals first | exact hb.elim | skip
  · obtain ⟨v, rfl, rv⟩ := reps1 rd
    obtain ⟨a, vs, rfl, h1, z, r1⟩ := lstF rv
    unfold sortD at hb
    split at hb
    · rename_i ns e
      have zl := r1.length
      rw [asInts_eq e] at r1
      have e1 := r1.ints
      subst e1
      refine cr_sortedI pins s σ H _ us Q I r ⟨a, ns, rfl, SqL.of h1, fun ns' p h1 h2 hp => ?_⟩
      refine f.lst g hp (ints_reps ns') ?_ (hb ns' h1 h2)
      rw [List.length_map, h1.length_eq]
      rw [List.length_map] at zl
      omega
    · exact hb.elim
theorem bi_max1 (hc : X.calm = true) : CallR X (.builtin "max") (RBi X .max1) := by
  intro pins s σ H xs us Q I r h
  obtain ⟨ds, M, B, Qd, g, rd, hb, f⟩ := h
  unfold biD at hb
  split at hb <;> first | (rename_i hh; cases hh; done) | skip
  all_goals first | exact hb.elim | skip
  · obtain ⟨v, rfl, rv⟩ := reps1 rd
    obtain ⟨a, vs, rfl, h1, z, r1⟩ := lstF rv
    unfold maxD at hb
    split at hb
    · rename_i ns e
      rw [asInts_eq e] at r1
      have e1 := r1.ints
      subst e1
      exact cr_max hc pins s σ H _ us Q I r ⟨a, ns, rfl, SqL.of h1, hb.1, fun m hm hle => f.here g (d := .int _) rfl (hb.2 m hm hle)⟩
    · exact hb.elim
theorem bi_min1 (hc : X.calm = true) : CallR X (.builtin "min") (RBi X .min1) := by
  intro pins s σ H xs us Q I r h
  obtain ⟨ds, M, B, Qd, g, rd, hb, f⟩ := h
  unfold biD at hb
  split at hb <;> first | (rename_i hh; cases hh; done) | skip
  all_goals first | exact hb.elim | skip
  · obtain ⟨v, rfl, rv⟩ := reps1 rd
    obtain ⟨a, vs, rfl, h1, z, r1⟩ := lstF rv
    unfold minD at hb
    split at hb
    · rename_i ns e
      rw [asInts_eq e] at r1
      have e1 := r1.ints
      subst e1
      exact cr_min hc pins s σ H _ us Q I r ⟨a, ns, rfl, SqL.of h1, hb.1, fun m hm hle => f.here g (d := .int _) rfl (hb.2 m hm hle)⟩
    · exact hb.elim
theorem bi_all (hc : X.calm = true) : CallR X (.builtin "all") (RBi X .all) := by
  intro pins s σ H xs us Q I r h
  obtain ⟨ds, M, B, Qd, g, rd, hb, f⟩ := h
  unfold biD at hb
  split at hb <;> first | (rename_i hh; cases hh; done) | skip
  all_goals first | exact hb.elim | skip
  · obtain ⟨v, rfl, rv⟩ := reps1 rd
    obtain ⟨a, vs, rfl, h1, z, r1⟩ := lstF rv
    unfold allD at hb
    split at hb
    · rename_i ns e
      rw [asBls_eq e] at r1
      have e1 := r1.bls
      subst e1
      exact cr_all hc pins s σ H _ us Q I r ⟨a, ns, rfl, SqL.of h1, f.here g (d := .bl _) rfl hb⟩
    · exact hb.elim
theorem bi_any (hc : X.calm = true) : CallR X (.builtin "any") (RBi X .any) := by
  intro pins s σ H xs us Q I r h
  obtain ⟨ds, M, B, Qd, g, rd, hb, f⟩ := h
  unfold biD at hb
  split at hb <;> first | (rename_i hh; cases hh; done) | skip
  all_goals first | exact hb.elim | skip
  · obtain ⟨v, rfl, rv⟩ := reps1 rd
    obtain ⟨a, vs, rfl, h1, z, r1⟩ := lstF rv
    unfold anyD at hb
    split at hb
    · rename_i ns e
      rw [asBls_eq e] at r1
      have e1 := r1.bls
      subst e1
      exact cr_any hc pins s σ H _ us Q I r ⟨a, ns, rfl, SqL.of h1, f.here g (d := .bl _) rfl hb⟩
    · exact hb.elim
theorem k_NoneType (t : BT) : kitB "NoneType" t.nm = some (match t with  | _ => false) := by cases t <;> decide +kernel
theorem k_bool (t : BT) : kitB "bool" t.nm = some (match t with | .int => true | .bool => true | _ => false) := by cases t <;> decide +kernel
theorem k_int (t : BT) : kitB "int" t.nm = some (match t with | .int => true | _ => false) := by cases t <;> decide +kernel
theorem k_str (t : BT) : kitB "str" t.nm = some (match t with | .str => true | _ => false) := by cases t <;> decide +kernel
theorem k_tuple (t : BT) : kitB "tuple" t.nm = some (match t with | .tuple => true | _ => false) := by cases t <;> decide +kernel
theorem k_list (t : BT) : kitB "list" t.nm = some (match t with | .list => true | _ => false) := by cases t <;> decide +kernel
theorem k_dict (t : BT) : kitB "dict" t.nm = some (match t with | .dict => true | _ => false) := by cases t <;> decide +kernel
/-- isinstance with a built-in class -/
theorem isB_ok {d : D} {v : V} (g : Good K H M B) (r : Rep K H M B d v) (nc : ∀ a, d ≠ .cell a) (nf : ∀ a, d ≠ .fn a) (nr : ∀ a b, d ≠ .rng a b) : ∃ ty, TyX K H v (.type ty) ∧ ∀ t : BT, PySem.W.kitOne K (.type ty) (.type t.nm) = some (isB d t) := by
  have tl : ∀ {v}, TyX K H v (.type "list") → (∀ t : BT, isB d t = (match t with | .list => true | _ => false)) → ∃ ty, TyX K H v (.type ty) ∧ ∀ t : BT, PySem.W.kitOne K (.type ty) (.type t.nm) = some (isB d t) := fun h e => ⟨"list", h, fun t => kit_ty ((k_list t).trans (by rw [e]))⟩
  cases d with
  | non => obtain rfl := r; exact ⟨"NoneType", .base .non, fun t => kit_ty ((k_NoneType t).trans (by cases t <;> rfl))⟩
  | bl b => obtain rfl := r; exact ⟨"bool", .base (.bl b), fun t => kit_ty ((k_bool t).trans (by cases t <;> rfl))⟩
  | int i => obtain rfl := r; exact ⟨"int", .base (.int i), fun t => kit_ty ((k_int t).trans (by cases t <;> rfl))⟩
  | str x => obtain rfl := r; exact ⟨"str", .base (.str x), fun t => kit_ty ((k_str t).trans (by cases t <;> rfl))⟩
  | tup xs =>
    obtain ⟨a, vs, rfl, h, _, _⟩ := r
    refine ⟨"tuple", ?_, fun t => kit_ty ((k_tuple t).trans (by cases t <;> rfl))⟩
    rcases h with h | h
    · exact .base (.tup h.1)
    · rcases h with h | ⟨o, its, n, h1, h2, _⟩
      · rcases h with h | ⟨_, h⟩ <;> cases h
      · exact .kTuple h1 h2
  | lst xs =>
    obtain ⟨a, vs, rfl, h, _, _⟩ := lstF r
    exact tl (.base (.lst h)) (fun t => by cases t <;> rfl)
  | scr xs =>
    obtain ⟨a, vs, rfl, h, _, _⟩ := r
    refine tl ?_ (fun t => by cases t <;> rfl)
    rcases h with ⟨⟨o, h⟩, _⟩ | h
    · exact .base (.frz h)
    · rcases h with h | ⟨o, its, n, h1, h2, _⟩
      · rcases h with h | ⟨_, h⟩ <;> cases h
      · exact .kList h1 h2
  | dct ks xs =>
    obtain ⟨a, vs, rfl, h, _, _, _⟩ := r
    exact ⟨"dict", .base (.dK h.1), fun t => kit_ty ((k_dict t).trans (by cases t <;> rfl))⟩
  | cell a => exact (nc a rfl).elim
  | fn a => exact (nf a rfl).elim
  | rng a b => exact (nr a b rfl).elim
/-! ### what is walked -/
theorem Wk.lst {a : Addr} {ds : List D} {vs : List V} {H₀ : Hp} {M₀ : Mem} {B₀ : Bad} (g : Good K H₀ M₀ B₀) (h : RdF H₀ M₀ B₀ a (.lst vs)) (r : Reps K H₀ M₀ B₀ ds vs) : Wk K (Itl K a) ds H₀ M₀ B₀ := by
  intro H M B m gd
  have hq : H a = some (.lst vs) := (m _ _ h.1 h.2.1 h.2.2).1
  have w := walk_list (K := K) (a := a) (xs := vs)
  rw [r.length]
  refine ⟨fun i hi => w.goes i H hi (SqL.of hq), w.stops H (SqL.of hq), fun i d x H' hd y => ?_⟩
  have hi : i < vs.length := by
    rw [← r.length]
    rcases Nat.lt_or_ge i ds.length with z | z
    · exact z
    · rw [List.getElem?_eq_none z] at hd; cases hd
  obtain ⟨rfl, hx⟩ := w.yields i H x H' hi (SqL.of hq) y
  obtain ⟨v, hv, rv⟩ := r.get hd
  rw [hx] at hv; cases hv
  exact ⟨Ext.refl _ _, gd, rv.mv g.frok m, fun _ _ e => e⟩
theorem Wk.scr {a : Addr} {ds : List D} {vs : List V} {H₀ : Hp} {M₀ : Mem} {B₀ : Bad} (g : Good K H₀ M₀ B₀) (h : FrF H₀ M₀ a (.lst vs) ∨ SqL K (fun _ => none) a vs) (r : Reps K H₀ M₀ B₀ ds vs) : Wk K (Itl K a) ds H₀ M₀ B₀ := by
  intro H M B m gd
  have hq : SqL K H a vs := by
    rcases h with ⟨⟨o, h⟩, n⟩ | h
    · exact .inl (.inr ⟨o, (m _ _ h n (g.frok _ _ _ h)).1⟩)
    · exact SqL.none_seq h
  have w := walk_list (K := K) (a := a) (xs := vs)
  rw [r.length]
  refine ⟨fun i hi => w.goes i H hi hq, w.stops H hq, fun i d x H' hd y => ?_⟩
  have hi : i < vs.length := by
    rw [← r.length]
    rcases Nat.lt_or_ge i ds.length with z | z
    · exact z
    · rw [List.getElem?_eq_none z] at hd; cases hd
  obtain ⟨rfl, hx⟩ := w.yields i H x H' hi hq y
  obtain ⟨v, hv, rv⟩ := r.get hd
  rw [hx] at hv; cases hv
  exact ⟨Ext.refl _ _, gd, rv.mv g.frok m, fun _ _ e => e⟩
theorem tup_at {a : Addr} {vs : List V} {H₀ : Hp} {M₀ : Mem} {B₀ : Bad} (h : RdF H₀ M₀ B₀ a (.tup vs) ∨ SqT K (fun _ => none) a vs) {H : Hp} {M : Mem} {B : Bad} (m : Mv H₀ M₀ B₀ H M B) : SqT K H a vs := by
  rcases h with h | h
  · exact SqT.of (m _ _ h.1 h.2.1 h.2.2).1
  · exact SqT.none_seq h
theorem Wk.tup {a : Addr} {ds : List D} {vs : List V} {H₀ : Hp} {M₀ : Mem} {B₀ : Bad} (g : Good K H₀ M₀ B₀) (h : RdF H₀ M₀ B₀ a (.tup vs) ∨ SqT K (fun _ => none) a vs) (r : Reps K H₀ M₀ B₀ ds vs) : Wk K (Itt K a) ds H₀ M₀ B₀ := by
  intro H M B m gd
  have hq : SqT K H a vs := tup_at h m
  have w := walk_tup (K := K) (a := a) (xs := vs)
  rw [r.length]
  refine ⟨fun i hi => w.goes i H hi hq, w.stops H hq, fun i d x H' hd y => ?_⟩
  have hi : i < vs.length := by
    rw [← r.length]
    rcases Nat.lt_or_ge i ds.length with z | z
    · exact z
    · rw [List.getElem?_eq_none z] at hd; cases hd
  obtain ⟨rfl, hx⟩ := w.yields i H x H' hi hq y
  obtain ⟨v, hv, rv⟩ := r.get hd
  rw [hx] at hv; cases hv
  exact ⟨Ext.refl _ _, gd, rv.mv g.frok m, fun _ _ e => e⟩
theorem rngD_get {a b : Int} {i : Nat} {d : D} (h : (rngD a b)[i]? = some d) : d = .int (a + (i : Int)) ∧ i < (b - a).toNat := by
  unfold rngD at h
  have hl : i < (b - a).toNat := by
    rcases Nat.lt_or_ge i (b - a).toNat with z | z
    · exact z
    · rw [List.getElem?_eq_none (by rw [List.length_map, List.length_range]; exact z)] at h; cases h
  rw [List.getElem?_map, List.getElem?_range hl] at h
  exact ⟨(Option.some.inj h).symm, hl⟩
theorem rngD_len (a b : Int) : (rngD a b).length = (b - a).toNat := by unfold rngD; rw [List.length_map, List.length_range]
theorem Wk.rng {a b : Int} {H₀ : Hp} {M₀ : Mem} {B₀ : Bad} : Wk K (Itr a (b - a).toNat) (rngD a b) H₀ M₀ B₀ := by
  intro H M B m gd
  rw [rngD_len]
  refine ⟨fun i hi => hi, Nat.le_refl _, fun i d x H' hd y => ?_⟩
  obtain ⟨rfl, hi⟩ := rngD_get hd
  obtain ⟨rfl, rfl⟩ := y
  exact ⟨Ext.refl _ _, gd, rfl, fun _ _ e => e⟩
theorem strItems_get {x : Str} {i : Nat} {d : D} (h : (strItems x)[i]? = some d) : ∃ c, x.cps[i]? = some c ∧ d = .str ⟨#[c]⟩ := by
  unfold strItems at h
  rw [List.getElem?_map] at h
  cases e : x.cps.toList[i]? with
  | none => rw [e] at h; cases h
  | some c => rw [e] at h; cases h; exact ⟨c, by simpa using e, rfl⟩
theorem Wk.str {x : Str} {H₀ : Hp} {M₀ : Mem} {B₀ : Bad} : Wk K (Its x) (strItems x) H₀ M₀ B₀ := by
  intro H M B m gd
  have l : (strItems x).length = x.cps.size := by unfold strItems; simp
  rw [l]
  refine ⟨fun i hi => hi, Nat.le_refl _, fun i d y H' hd yl => ?_⟩
  obtain ⟨c, hc, rfl⟩ := strItems_get hd
  obtain ⟨rfl, c', hc', rfl⟩ := yl
  rw [hc] at hc'; cases hc'
  exact ⟨Ext.refl _ _, gd, rfl, fun _ _ e => e⟩
theorem enumFrom_get : ∀ {ds : List D} {n i : Nat} {d : D}, (enumFrom n ds)[i]? = some d → ∃ e, ds[i]? = some e ∧ d = .tup [.int ((n + i : Nat) : Int), e]
  | [], _, _, _, h => by simp [enumFrom] at h
  | x :: r, n, 0, d, h => by simp [enumFrom] at h; exact ⟨x, rfl, h.symm⟩
  | x :: r, n, i + 1, d, h => by
    obtain ⟨e, h1, h2⟩ := enumFrom_get (ds := r) (n := n + 1) (i := i) (by simpa [enumFrom] using h)
    exact ⟨e, by simpa using h1, by rw [h2]; congr 3; omega⟩
theorem enumFrom_len : ∀ (ds : List D) (n : Nat), (enumFrom n ds).length = ds.length
  | [], _ => rfl
  | _ :: r, n => by simp [enumFrom, enumFrom_len r]
/-- a new pair -/
theorem pair_new {T : Addr} {d e : D} {x y : V} (gd : Good K H M B) (hT : H T = none) (r1 : Rep K H M B d x) (r2 : Rep K H M B e y) :
    Ext H M (upd H T (.tup [x, y])) M ∧ Good K (upd H T (.tup [x, y])) M B ∧ Rep K (upd H T (.tup [x, y])) M B (.tup [d, e]) (.ref T) ∧ ∀ b o, H b = some o → upd H T (.tup [x, y]) b = some o :=
  ⟨Ext.new gd hT, gd.new hT, ⟨T, [x, y], rfl, .inl ⟨upd_same, gd.none_of hT⟩, by show 2 ≤ sizeLine; decide, ⟨x, [y], rfl, r1.ext gd (Ext.new gd hT), y, [], rfl, r2.ext gd (Ext.new gd hT), rfl⟩⟩, fun b o e => by rw [upd_ne (ne_of_none e hT)]; exact e⟩
theorem Wk.enumL {a : Addr} {ds : List D} {vs : List V} {H₀ : Hp} {M₀ : Mem} {B₀ : Bad} (g : Good K H₀ M₀ B₀) (h : RdF H₀ M₀ B₀ a (.lst vs)) (r : Reps K H₀ M₀ B₀ ds vs) : Wk K (Ite K a) (enumFrom 0 ds) H₀ M₀ B₀ := by
  intro H M B m gd
  have hq : SqL K H a vs := SqL.of (m _ _ h.1 h.2.1 h.2.2).1
  rw [enumFrom_len, r.length]
  refine ⟨fun i hi => ⟨vs, vs[i], hq, by simp [hi]⟩, ⟨vs, hq, Nat.le_refl _⟩, fun i d x H' hd y => ?_⟩
  obtain ⟨e, he, rfl⟩ := enumFrom_get hd
  obtain ⟨T, z, rfl, hT, rfl, hz⟩ := y
  obtain ⟨v, hv, rv⟩ := r.get he
  rw [hz vs hq] at hv; cases hv
  have := pair_new (d := .int ((0 + i : Nat) : Int)) (x := .int (i : Nat)) gd hT (by rw [Nat.zero_add]; rfl) (rv.mv g.frok m)
  exact this
theorem Wk.enumT {a : Addr} {ds : List D} {vs : List V} {H₀ : Hp} {M₀ : Mem} {B₀ : Bad} (g : Good K H₀ M₀ B₀) (h : RdF H₀ M₀ B₀ a (.tup vs) ∨ SqT K (fun _ => none) a vs) (r : Reps K H₀ M₀ B₀ ds vs) : Wk K (IteT K a) (enumFrom 0 ds) H₀ M₀ B₀ := by
  intro H M B m gd
  have hq : SqT K H a vs := tup_at h m
  rw [enumFrom_len, r.length]
  refine ⟨fun i hi => ⟨vs, vs[i], hq, by simp [hi]⟩, ⟨vs, hq, Nat.le_refl _⟩, fun i d x H' hd y => ?_⟩
  obtain ⟨e, he, rfl⟩ := enumFrom_get hd
  obtain ⟨T, z, rfl, hT, rfl, hz⟩ := y
  obtain ⟨v, hv, rv⟩ := r.get he
  rw [hz vs hq] at hv; cases hv
  exact pair_new (d := .int ((0 + i : Nat) : Int)) (x := .int (i : Nat)) gd hT (by rw [Nat.zero_add]; rfl) (rv.mv g.frok m)
theorem zipD_get : ∀ {ds es : List D} {i : Nat} {d : D}, (zipD ds es)[i]? = some d → ∃ e f, ds[i]? = some e ∧ es[i]? = some f ∧ d = .tup [e, f]
  | [], _, _, _, h => by simp [zipD] at h
  | _ :: _, [], _, _, h => by simp [zipD] at h
  | x :: r, y :: q, 0, d, h => by simp [zipD] at h; exact ⟨x, y, rfl, rfl, h.symm⟩
  | x :: r, y :: q, i + 1, d, h => by
    obtain ⟨e, f, h1, h2, h3⟩ := zipD_get (ds := r) (es := q) (i := i) (by simpa [zipD] using h)
    exact ⟨e, f, by simpa using h1, by simpa using h2, h3⟩
theorem zipD_len : ∀ (ds es : List D), (zipD ds es).length = min ds.length es.length
  | [], es => by simp [zipD]
  | _ :: _, [] => by simp [zipD]
  | _ :: r, _ :: q => by simp [zipD, zipD_len r q]
end
end RF
namespace RF
open PySem PySem.Spec PyProof.Rows L2
section
variable {Γ : Cfg} {X : Cx} {W : WX} {B : Bad} {σ : SV} {H H1 : Hp} {ρ : DEnv} {M M1 : Mem} {Xd : XQ} {Qd : QD} {Q : VK}
theorem Fol.step (f : Fol X H M B Qd Q) (e : Ext H M H1 M1) : Fol X H1 M1 B Qd Q := fun d v H' M' e' => f d v H' M' (e.trans e')
theorem mkD {wa : DEnv → Mem → XQ → QD → Prop} {R : VK} {Qa : QD} (s : S0 Γ X W B σ H ρ M Xd) (hw : wa ρ M Xd Qa) (k : ∀ x v H1 M1, Ext H M H1 M1 → S0 Γ X W B σ H1 ρ M1 Xd → Rep X.K H1 M1 B x v → Qa x M1 → R v H1) : tD Γ X W wa σ H R :=
  ⟨B, ρ, M, Xd, Qa, s, hw, fun d v H' M' e g r q => k d v H' M' e (s.step e g) r q⟩
theorem mkT {wa : DEnv → Mem → XQ → (Bool → Mem → Prop) → Prop} {R : Bool → Hp → Prop} {Qa : Bool → Mem → Prop} (s : S0 Γ X W B σ H ρ M Xd) (hw : wa ρ M Xd Qa) (k : ∀ x H1 M1, Ext H M H1 M1 → S0 Γ X W B σ H1 ρ M1 Xd → Qa x M1 → R x H1) : tT Γ X W wa σ H R :=
  ⟨B, ρ, M, Xd, Qa, s, hw, fun d H' M' e g q => k d H' M' e (s.step e g) q⟩
theorem mkL {n : Nat} {wa : DEnv → Mem → XQ → QL → Prop} {R : List V → Hp → Prop} {Qa : QL} (s : S0 Γ X W B σ H ρ M Xd) (hw : wa ρ M Xd Qa) (k : ∀ x v H1 M1, Ext H M H1 M1 → S0 Γ X W B σ H1 ρ M1 Xd → Reps X.K H1 M1 B x v → x.length = n → Qa x M1 → R v H1) : tL Γ X W n wa σ H R :=
  ⟨B, ρ, M, Xd, Qa, s, hw, fun d v H' M' e g r l q => k d v H' M' e (s.step e g) r l q⟩
/-! ### heads -/
theorem mE_bad : ∀ (c : CE) (m : Md) (sc : Scope) (e : Expr), okHead e = false → mE Γ m sc c e = false
  | .nev, m, sc, e, h => h
  | .bits a, m, sc, e, h => by
    have : meth0 e = none := by cases e <;> first | rfl | cases h
    show (m.isV && (match meth0 e with
      | some (a', f) => decide (f = ("bit_length" : Str)) && (noSup a' && mE Γ .v sc a a')
      | none => false)) = false
    rw [this]; simp
  | .live c, m, sc, e, h => by
    show (m.isV && (isNewL c && mE Γ .v sc c e)) = false
    rw [mE_bad c .v sc e h]; simp
  | .frz c, m, sc, e, h => by
    show (m.isV && mE Γ .v sc c e) = false
    rw [mE_bad c .v sc e h]; simp
  | .var _, _, _, e, h => by cases e <;> first | rfl | cases h
  | .lit _, _, _, e, h => by cases e <;> first | rfl | cases h
  | .gl _ _, _, _, e, h => by cases e <;> first | rfl | cases h
  | .tup _, _, _, e, h => by cases e <;> first | rfl | cases h
  | .lst _ _, _, _, e, h => by cases e <;> first | rfl | cases h
  | .bop _ _ _, _, _, e, h => by cases e <;> first | rfl | cases h
  | .neg _, _, _, e, h => by cases e <;> first | rfl | cases h
  | .not _, _, _, e, h => by cases e <;> first | rfl | cases h
  | .cmp _ _ _, _, _, e, h => by cases e <;> first | rfl | cases h
  | .chn _ _ _ _ _, _, _, e, h => by cases e <;> first | rfl | cases h
  | .and _, _, _, e, h => by cases e <;> first | rfl | cases h
  | .or _, _, _, e, h => by cases e <;> first | rfl | cases h
  | .ifx _ _ _, _, _, e, h => by cases e <;> first | rfl | cases h
  | .call _ _, _, _, e, h => by cases e <;> first | rfl | cases h
  | .callK _ _ _ _ _, _, _, e, h => by cases e <;> first | rfl | cases h
  | .bi _ _, _, _, e, h => by cases e <;> first | rfl | cases h
  | .ix _ _, _, _, e, h => by cases e <;> first | rfl | cases h
  | .sl _ _ _, _, _, e, h => by cases e <;> first | rfl | cases h
  | .slr _, _, _, e, h => by cases e <;> first | rfl | cases h
  | .lc _ _ _ _ _, _, _, e, h => by cases e <;> first | rfl | cases h
  | .lc2 _ _ _ _ _ _ _ _ _, _, _, e, h => by cases e <;> first | rfl | cases h
  | .dc _ _ _ _ _ _, _, _, e, h => by cases e <;> first | rfl | cases h
  | .mt b o es, m, sc, e, h => by
    have : meth1 e = none := by cases e <;> first | rfl | cases h
    show (m.isV && (match meth1 e with
      | some (a', f, es') => decide (f = b.nm) && (decide (es.length = b.ar) && (noSup a' && (mE Γ .v sc o a' && mEs Γ .v sc es es')))
      | none => false)) = false
    rw [this]; simp
  | .dctE, _, _, e, h => by cases e <;> first | rfl | cases h
  | .mth _ _ _, _, _, e, h => by cases e <;> first | rfl | cases h
  | .gfn _, _, _, e, h => by cases e <;> first | rfl | cases h
  | .callL _ _ _, _, _, e, h => by cases e <;> first | rfl | cases h
  | .sls _ _ _, _, _, e, h => by cases e <;> first | rfl | cases h
  | .fdn _ _, _, _, e, h => by cases e <;> first | rfl | cases h
  | .excIs _ _ _, _, _, e, h => by cases e <;> first | rfl | cases h
  | .excAt _ _, _, _, e, h => by cases e <;> first | rfl | cases h
theorem mE_head {c : CE} {m : Md} {sc : Scope} {e : Expr} (h : mE Γ m sc c e = true) : okHead e = true := by
  cases q : okHead e with
  | true => rfl
  | false => rw [mE_bad c m sc e q] at h; cases h
theorem star_of {e : Expr} {es : List Expr} {env : Env} (h : okHead e = true) : starEach (e :: es) env = (false, eval e env) :: starEach es env := by
  cases e <;> first | rfl | cases h
theorem plain_star {m : Md} {sc : Scope} {env : Env} {pos : Pos} : ∀ {cs : List CE} {es : List Expr}, mEs Γ m sc cs es = true → (backTo pos (starEach es env)).any (·.1) = false
  | [], [], _ => rfl
  | c :: cs, e :: es, h => by
    have h : (mE Γ m sc c e && mEs Γ m sc cs es) = true := h
    obtain ⟨h1, h2⟩ := Bool.and_eq_true_iff.mp h
    rw [star_of (mE_head h1)]
    show (false || (backTo pos (starEach es env)).any (·.1)) = false
    rw [plain_star h2]; rfl
  | [], _ :: _, h => absurd h Bool.false_ne_true
  | _ :: _, [], h => absurd h Bool.false_ne_true
theorem plainIx_of {e : Expr} (h : okHead e = true) : PlainIx e := by
  intro o i
  cases e <;> first | rfl | cases h
theorem notSet_of {e : Expr} {env : Env} (h : okHead e = true) : ∀ x, foldedSetIterable e env x = pure x := by
  intro x
  cases e <;> first | rfl | cases h
theorem mEs_len {m : Md} {sc : Scope} : ∀ {cs : List CE} {es : List Expr}, mEs Γ m sc cs es = true → cs.length = es.length
  | [], [], _ => rfl
  | c :: cs, e :: es, h => by
    have h : (mE Γ m sc c e && mEs Γ m sc cs es) = true := h
    obtain ⟨h1, h2⟩ := Bool.and_eq_true_iff.mp h
    simp [mEs_len h2]
  | [], _ :: _, h => absurd h Bool.false_ne_true
  | _ :: _, [], h => absurd h Bool.false_ne_true
theorem and2 {a b : Bool} (h : (a && b) = true) : a = true ∧ b = true := Bool.and_eq_true_iff.mp h
/-! ### walked things -/
theorem pi_val {tg e : Expr} {w : DEnv → Mem → XQ → QD → Prop} (he : PE X e (tD Γ X W w)) : PI X tg e (tI Γ X W fun ρ M Xd Ql => w ρ M Xd fun d M1 => itD d Ql M1) := by
  refine ⟨fun pins s σ H R I h => ?_⟩
  obtain ⟨B, ρ, M, Xd, Ql, s0, hw, k⟩ := h
  refine thn (he.run pins s σ H (fun x H1 => ∃ d M1, Ext H M H1 M1 ∧ Good X.K H1 M1 B ∧ Rep X.K H1 M1 B d x ∧ itD d Ql M1) I ⟨B, ρ, M, Xd, _, s0, hw, fun d v H' M' e g r q => ⟨d, M', e, g, r, q⟩⟩) fun v s1 ⟨x, H1, I1, r1, d, M1, e1, g1, rd, q⟩ => ?_
  cases d <;> first | exact (show False from q).elim | skip
  case str z =>
    obtain rfl := rd
    obtain ⟨t, rfl⟩ := r1
    have len : (strItems z).length ≤ sizeLine := by
      have : (strItems z).length = z.length := by unfold strItems; simp; rfl
      rw [this]; exact q.1
    cases ha : z.cps.all (· < 128)
    · exact wpAny_pyIter_wide ha (pi_one (tk := s1.toks) I1 _ (turn_str _ z t "str_iterator" (.inr rfl)) ⟨_, Heap.get?_push_size _ rfl, rfl, rfl⟩ (k _ _ _ _ e1 g1 Wk.str len q.2))
    · exact wpAny_pyIter_ascii ha (pi_one (tk := s1.toks) I1 _ (turn_str _ z t "str_ascii_iterator" (.inl rfl)) ⟨_, Heap.get?_push_size _ rfl, rfl, rfl⟩ (k _ _ _ _ e1 g1 Wk.str len q.2))
  case rng lo hi =>
    obtain ⟨p, rfl, h1⟩ := rd
    cases r1
    obtain ⟨t1, t2, t3, ho⟩ := I1.hok p _ h1.1
    refine wpAny_pyIter_range (show IsRange s1.heap p lo hi 1 t1 t2 t3 from ho) (small_one q.1.1 q.1.2.1 q.1.2.2.1 q.1.2.2.2.1) ?_
    refine ⟨s1.heap.objs.size, [s1.heap.objs.size], _, _, H1, rfl, I1.kept (t' := s1.toks) fun b o e => Heap.get?_push_of_some _ e, turn_range _ lo (hi - lo).toNat, ?_, fun b hb => ?_, k _ _ _ _ e1 g1 Wk.rng (by rw [rngD_len]; exact q.1.2.2.2.2) q.2⟩
    · have e1 : lo + ((0 : Nat) : Int) * 1 = lo := by simp
      have e2 : (((hi - lo).toNat : Nat) : Int) - ((0 : Nat) : Int) = Builtin.Range.rangeSize lo hi 1 := by rw [rangeSize_one]; split <;> omega
      show IsRangeIter _ _ (lo + ((0 : Nat) : Int) * 1) ((((hi - lo).toNat : Nat) : Int) - ((0 : Nat) : Int)) 1
      rw [e1, e2]
      exact Heap.get?_push_size _ rfl
    · have e : b = s1.heap.objs.size := by simpa using hb
      subst e
      exact I1.fpOk (Nat.le_refl _) (I1.hok.fresh (Nat.le_refl _))
  case tup xs =>
    obtain ⟨a, vs, rfl, h1, z1, rr⟩ := rd
    cases r1
    have hq : SqT X.K H1 a vs := tup_at h1 (fun b o h n bb => ⟨h, n, bb⟩)
    obtain ⟨its, rv, p, hz⟩ := I1.tuple hq
    refine wpAny_pyIter_tuple (show s1.heap.IsTuple a its.toArray from p) ?_
    refine ⟨s1.heap.objs.size, [s1.heap.objs.size], _, _, H1, rfl, I1.kept (t' := s1.toks) fun b o e => Heap.get?_push_of_some _ e, turn_tuple a _, ⟨_, Heap.get?_push_size _ rfl, rfl, rfl⟩, fun b hb => ?_, k _ _ _ _ e1 g1 (Wk.tup g1 h1 rr) z1 q⟩
    have e : b = s1.heap.objs.size := by simpa using hb
    subst e
    exact I1.fpOk (Nat.le_refl _) (I1.hok.fresh (Nat.le_refl _))
  case lst xs =>
    obtain ⟨a, vs, rfl, h1, z1, rr⟩ := rd
    cases r1
    obtain ⟨its, rv, p, hz⟩ := I1.list (SqL.of h1.1)
    refine wpAny_pyIter_list p.isList ?_
    refine ⟨s1.heap.objs.size, [s1.heap.objs.size], _, _, H1, rfl, I1.kept (t' := s1.toks) fun b o e => Heap.get?_push_of_some _ e, turn_list a _, ⟨_, Heap.get?_push_size _ rfl, rfl, rfl⟩, fun b hb => ?_, k _ _ _ _ e1 g1 (Wk.lst g1 h1 rr) z1 q⟩
    have e : b = s1.heap.objs.size := by simpa using hb
    subst e
    exact I1.fpOk (Nat.le_refl _) (I1.hok.fresh (Nat.le_refl _))
  case scr xs =>
    have rd' := rd
    obtain ⟨a, vs, rfl, h1, z1, rr⟩ := rd
    obtain ⟨a', vs', e', h1', _, _⟩ := scrF rd'
    cases e'
    cases r1
    obtain ⟨its, rv, p, hz⟩ := I1.list h1'
    refine wpAny_pyIter_list p.isList ?_
    refine ⟨s1.heap.objs.size, [s1.heap.objs.size], _, _, H1, rfl, I1.kept (t' := s1.toks) fun b o e => Heap.get?_push_of_some _ e, turn_list a _, ⟨_, Heap.get?_push_size _ rfl, rfl, rfl⟩, fun b hb => ?_, k _ _ _ _ e1 g1 (Wk.scr g1 h1 rr) z1 q⟩
    have e : b = s1.heap.objs.size := by simpa using hb
    subst e
    exact I1.fpOk (Nat.le_refl _) (I1.hok.fresh (Nat.le_refl _))
theorem pi_rng {tg : Expr} {es : List Expr} {w : DEnv → Mem → XQ → QL → Prop} {p pos : Pos} (hg : Gl X "range") (hm : X.mg "range" = none) (ha : PA X es (tL Γ X W es.length w)) (hl : es.length = 1 ∨ es.length = 2) (hok : ∀ e ∈ es, okHead e = true) :
    PI X tg (.Call (.Name "range" p) es [] pos) (tI Γ X W fun ρ M Xd Ql => w ρ M Xd fun ds M1 => itB .range ds Ql M1) := by
  match es, hl, ha, hok with
  | [a], _, ha, hok =>
    refine PI.mono (pi_range1 hg hm ha (by rw [star_of (hok a (by simp))]; rfl)) fun σ H R h => ?_
    obtain ⟨B, ρ, M, Xd, Ql, s0, hw, k⟩ := h
    refine mkL s0 hw fun ds vs H1 M1 e1 s1 r1 l1 q => ?_
    match ds, l1, q with
    | [d], _, q =>
      obtain ⟨v, rfl, rv⟩ := reps1 r1
      cases d <;> first | exact (show False from q).elim | skip
      case int b =>
        obtain rfl := rv
        obtain ⟨⟨c1, c2, c3, c4, c5⟩, q⟩ := q
        refine ⟨_, rfl, c3, c4, ?_⟩
        have z := k _ _ _ _ e1 s1.good Wk.rng (by rw [rngD_len]; exact c5) q
        rw [Int.sub_zero] at z
        exact z
  | [a, b], _, ha, hok =>
    refine PI.mono (pi_range2 hg hm ha (by rw [star_of (hok a (by simp)), star_of (hok b (by simp))]; rfl) (by rw [star_of (hok b (by simp))]; rfl)) fun σ H R h => ?_
    obtain ⟨B, ρ, M, Xd, Ql, s0, hw, k⟩ := h
    refine mkL s0 hw fun ds vs H1 M1 e1 s1 r1 l1 q => ?_
    match ds, l1, q with
    | [d, d'], _, q =>
      obtain ⟨v, v', rfl, rv, rv'⟩ := reps2 r1
      cases d <;> cases d' <;> first | exact (show False from q).elim | skip
      case int.int i j =>
        obtain rfl := rv
        obtain rfl := rv'
        obtain ⟨⟨c1, c2, c3, c4, c5⟩, q⟩ := q
        exact ⟨_, _, rfl, ⟨c1, c2, c3, c4⟩, k _ _ _ _ e1 s1.good Wk.rng (by rw [rngD_len]; exact c5) q⟩
  | [], hl, _, _ => simp at hl
  | _ :: _ :: _ :: _, hl, _, _ => simp at hl
theorem pi_enumD {tg e : Expr} {w : DEnv → Mem → XQ → QL → Prop} {p pos : Pos} (ht : isTupE tg = true) (hg : Gl X "enumerate") (hm : X.mg "enumerate" = none) (ha : PA X [e] (tL Γ X W 1 w)) (hok : okHead e = true) :
    PI X tg (.Call (.Name "enumerate" p) [e] [] pos) (tI Γ X W fun ρ M Xd Ql => w ρ M Xd fun ds M1 => itB .enum ds Ql M1) := by
  cases tg <;> first | (cases ht; done) | skip
  case Tuple elts kk tpos =>
  refine ⟨fun pins s σ H R I h => ?_⟩
  obtain ⟨B, ρ, M, Xd, Ql, s0, hw, k⟩ := h
  have hs : starEach [e] X.env = [(false, eval e X.env)] := by rw [star_of hok]; rfl
  refine Call_ (ld_blt I hg hm boot_enumerate (PyProof.Rows.callWith_type1 (thn (ha.run pos pins s σ H (fun vs H1 => ∃ ds M1, Ext H M H1 M1 ∧ Good X.K H1 M1 B ∧ Reps X.K H1 M1 B ds vs ∧ ds.length = 1 ∧ itB .enum ds Ql M1) I ⟨B, ρ, M, Xd, _, s0, hw, fun ds vs H' M' e g r l q => ⟨ds, M', e, g, r, l, q⟩⟩) fun us s1 ⟨vs, H1, I1, r1, ds, M1, e1, g1, rd, l1, q⟩ => ?_) hs rfl))
  match ds, l1, q with
  | [d], _, q =>
    obtain ⟨v, rfl, rv⟩ := reps1 rd
    cases r1 with
    | cons r rr =>
      cases rr
      cases d <;> first | exact (show False from q).elim | skip
      case lst xs =>
        obtain ⟨a, vs, rfl, h1, z1, rr⟩ := rv
        cases r
        obtain ⟨its, rv, p', hz⟩ := I1.list (SqL.of h1.1)
        refine call_enumerate_list p'.isList fun h' he hit hsz hk => wpAny_pyIter_enum he ?_
        have I2 : Inv X pins σ H1 { s1 with heap := h' } := I1.kept (t' := s1.toks) hk
        refine ⟨s1.heap.objs.size + 1, [s1.heap.objs.size + 1, s1.heap.objs.size], _, _, H1, rfl, I2, turn_enum a (s1.heap.objs.size + 1) s1.heap.objs.size, ⟨⟨.none, he⟩, hit, Nat.succ_ne_self _⟩, fun b hb => ?_, k _ _ _ _ e1 g1 (Wk.enumL g1 h1 rr) (by rw [enumFrom_len]; exact z1) q⟩
        have e' : b = s1.heap.objs.size + 1 ∨ b = s1.heap.objs.size := by simpa using hb
        have hle : s1.heap.objs.size ≤ b := by
          rcases e' with z | z
          · rw [z]; exact Nat.le_add_right _ _
          · rw [z]; exact Nat.le_refl _
        exact I1.fpOk hle (I1.hok.fresh hle)
      case tup xs =>
        obtain ⟨a, vs, rfl, h1, z1, rr⟩ := rv
        cases r
        have hq : SqT X.K H1 a vs := tup_at h1 (fun b o h n bb => ⟨h, n, bb⟩)
        obtain ⟨its, rv, p', hz⟩ := I1.tuple hq
        have hal : a < s1.heap.objs.size := by obtain ⟨o, ho, _⟩ := p'; exact Heap.lt_size ho
        refine enum1_begins (show s1.heap.IsTuple a its.toArray from p') fun h' he hit hsz hk => wpAny_pyIter_enum he ?_
        have I2 : Inv X pins σ H1 { s1 with heap := h' } := I1.kept (t' := s1.toks) hk
        refine ⟨s1.heap.objs.size + 1, [s1.heap.objs.size + 1, s1.heap.objs.size], _, _, H1, rfl, I2, turn_enumT a (s1.heap.objs.size + 1) s1.heap.objs.size (Nat.ne_of_lt hal), ⟨⟨.none, he⟩, hit, Nat.succ_ne_self _, Nat.ne_of_lt (Nat.lt_succ_of_lt hal)⟩, fun b hb => ?_, k _ _ _ _ e1 g1 (Wk.enumT g1 h1 rr) (by rw [enumFrom_len]; exact z1) q⟩
        have e' : b = s1.heap.objs.size + 1 ∨ b = s1.heap.objs.size := by simpa using hb
        have hle : s1.heap.objs.size ≤ b := by
          rcases e' with z | z
          · rw [z]; exact Nat.le_add_right _ _
          · rw [z]; exact Nat.le_refl _
        exact I1.fpOk hle (I1.hok.fresh hle)
end
end RF
namespace RF
open PySem PySem.Spec PyProof.Rows L2
section
variable {Γ : Cfg} {X : Cx} {W : WX} {B : Bad} {σ : SV} {H H1 : Hp} {ρ : DEnv} {M M1 : Mem} {Xd : XQ} {Qd : QD} {Q : VK} {K : PySem.W.Frag}
/-- the thing's list or tuple -/
def rdK (t : Bool) (H : Hp) (M : Mem) (B : Bad) (a : Addr) (vs : List V) (K : PySem.W.Frag) : Prop := match t with
  | true => RdF H M B a (.tup vs) ∨ SqT K (fun _ => none) a vs
  | false => RdF H M B a (.lst vs)
theorem rdK_at {t : Bool} {H H' : Hp} {M M' : Mem} {B B' : Bad} {a : Addr} {vs : List V} (h : rdK t H M B a vs K) (m : Mv H M B H' M' B') : SqK t K H' a vs := by
  cases t with
  | true => exact tup_at h m
  | false =>
    have h : RdF H M B a (.lst vs) := h
    exact SqL.of (m _ _ h.1 h.2.1 h.2.2).1
theorem Wk.zipM {t u : Bool} {a b : Addr} {ds es : List D} {vs ws : List V} {H₀ : Hp} {M₀ : Mem} {B₀ : Bad} (g : Good K H₀ M₀ B₀) (h : rdK t H₀ M₀ B₀ a vs K) (r : Reps K H₀ M₀ B₀ ds vs) (h' : rdK u H₀ M₀ B₀ b ws K) (r' : Reps K H₀ M₀ B₀ es ws) : Wk K (ItzM K t u a b) (zipD ds es) H₀ M₀ B₀ := by
  intro H M B m gd
  have hq : SqK t K H a vs := rdK_at h m
  have hq' : SqK u K H b ws := rdK_at h' m
  rw [zipD_len, r.length, r'.length]
  refine ⟨fun i hi => ⟨vs, ws, vs[i]'(by omega), ws[i]'(by omega), hq, hq', by simp, by simp⟩, ⟨vs, ws, hq, hq', rfl⟩, fun i d x H' hd y => ?_⟩
  obtain ⟨e, f, he, hf, rfl⟩ := zipD_get hd
  obtain ⟨T, z, z', rfl, hT, rfl, hz, hz'⟩ := y
  obtain ⟨v, hv, rv⟩ := r.get he
  obtain ⟨v', hv', rv'⟩ := r'.get hf
  rw [hz vs hq] at hv; cases hv
  rw [hz' ws hq'] at hv'; cases hv'
  exact pair_new gd hT (rv.mv g.frok m) (rv'.mv g.frok m)
theorem pi_zipD {tg e e2 : Expr} {w : DEnv → Mem → XQ → QL → Prop} {p pos : Pos} (ht : isTupE tg = true) (hg : Gl X "zip") (hm : X.mg "zip" = none) (ha : PA X [e, e2] (tL Γ X W 2 w)) (hok : okHead e = true) (hok2 : okHead e2 = true) :
    PI X tg (.Call (.Name "zip" p) [e, e2] [] pos) (tI Γ X W fun ρ M Xd Ql => w ρ M Xd fun ds M1 => itB .zip ds Ql M1) := by
  cases tg <;> first | (cases ht; done) | skip
  case Tuple elts kk tpos =>
  refine PI.mono (pi_zipM hg hm ha (star_of hok) (by rw [star_of hok2]; rfl)) fun σ H R h => ?_
  obtain ⟨B, ρ, M, Xd, Ql, s0, hw, k⟩ := h
  refine mkL s0 hw fun ds vs H1 M1 e1 s1 r1 l1 q => ?_
  match ds, l1, q with
  | [d, d'], _, q =>
    obtain ⟨v, v', rfl, rv, rv'⟩ := reps2 r1
    have m0 : Mv H1 M1 B H1 M1 B := fun b o h n bb => ⟨h, n, bb⟩
    have go : ∀ (t u : Bool) (a b : Addr) (xs ys : List D) (vs ws : List V), v = .ref a → v' = .ref b → rdK t H1 M1 B a vs X.K → rdK u H1 M1 B b ws X.K → Reps X.K H1 M1 B xs vs → Reps X.K H1 M1 B ys ws → xs.length ≤ sizeLine → ys.length ≤ sizeLine → Ql (zipD xs ys) M1 →
        ∃ t u a b xs ys, [v, v'] = [V.ref a, V.ref b] ∧ SqK t X.K H1 a xs ∧ SqK u X.K H1 b ys ∧ R (ItzM X.K t u a b) H1 := by
      rintro t u a b xs ys vs ws rfl rfl h1 h2 rr rr2 z1 z2 q
      exact ⟨t, u, a, b, vs, ws, rfl, rdK_at h1 m0, rdK_at h2 m0, k _ _ _ _ e1 s1.good (Wk.zipM s1.good h1 rr h2 rr2) (by rw [zipD_len]; omega) q⟩
    cases d <;> cases d' <;> first | exact (show False from q).elim | skip
    case lst.lst xs ys _ =>
      obtain ⟨a, vs, ev, h1, z1, rr⟩ := rv
      obtain ⟨b, ws, ew, h2, z2, rr2⟩ := rv'
      exact go false false a b xs ys vs ws ev ew h1 h2 rr rr2 z1 z2 q
    case tup.tup xs ys _ =>
      obtain ⟨a, vs, ev, h1, z1, rr⟩ := rv
      obtain ⟨b, ws, ew, h2, z2, rr2⟩ := rv'
      exact go true true a b xs ys vs ws ev ew h1 h2 rr rr2 z1 z2 q
    case tup.lst xs ys _ =>
      obtain ⟨a, vs, ev, h1, z1, rr⟩ := rv
      obtain ⟨b, ws, ew, h2, z2, rr2⟩ := rv'
      exact go true false a b xs ys vs ws ev ew h1 h2 rr rr2 z1 z2 q
    case lst.tup xs ys _ =>
      obtain ⟨a, vs, ev, h1, z1, rr⟩ := rv
      obtain ⟨b, ws, ew, h2, z2, rr2⟩ := rv'
      exact go false true a b xs ys vs ws ev ew h1 h2 rr rr2 z1 z2 q
/-! ### targets -/
/-- the target's reading -/
def gD (X : Cx) (t : Tg) : TG := fun v σ H Q => ∃ B ρ M d Qe, Good X.K H M B ∧ EnvR X.K H M B ρ σ ∧ Rep X.K H M B d v ∧ tgD t d ρ Qe ∧ ∀ σ' ρ', EnvR X.K H M B ρ' σ' → SameOut (tgIx t) σ σ' → Qe ρ' → Q σ' H
def gDs (X : Cx) (ts : List Tg) : TGs := fun vs σ H Q => ∃ B ρ M ds Qe, Good X.K H M B ∧ EnvR X.K H M B ρ σ ∧ Reps X.K H M B ds vs ∧ ds.length = ts.length ∧ tgDs ts ds ρ Qe ∧ ∀ σ' ρ', EnvR X.K H M B ρ' σ' → SameOut (tgIxs ts) σ σ' → Qe ρ' → Q σ' H
theorem PG.mono {e : Expr} {t t' : TG} (h : PG X e t) (i : ∀ v σ H Q, t' v σ H Q → t v σ H Q) : PG X e t' := ⟨fun pins s σ H v u Q I r hw => h.run pins s σ H v u Q I r (i v σ H Q hw)⟩
theorem PGs.mono {e : List Expr} {t t' : TGs} (h : PGs X e t) (i : ∀ v σ H Q, t' v σ H Q → t v σ H Q) : PGs X e t' := ⟨fun pins s σ H v u Q I r hw => h.run pins s σ H v u Q I r (i v σ H Q hw)⟩
/-- what a store asks of the context -/
structure StOk (X : Cx) (N₀ : List Str) (so : Scope) : Prop where
  N : X.N = N₀
  nd : N₀.Nodup
  st : ∀ x, locB so x = true → Loc X.env.scope x ∧ (X.fn x = true ∨ X.env.scope.names.lookup x = some .local)
theorem SameOut.mono {ix ix' : List Nat} {σ σ' : SV} (h : SameOut ix σ σ') (s : ∀ i ∈ ix, i ∈ ix') : SameOut ix' σ σ' := ⟨h.1, fun j hj => h.2 j fun z => hj (s j z)⟩
theorem assign_ok {e : Expr} {es : List Expr} {env : Env} {so : Scope} {t : Tg} (h : mTg Γ so t e = true) : (assignEach (e :: es) env).map (·.2) = assign e env :: (assignEach es env).map (·.2) := by
  cases t <;> cases e <;> first | rfl | (exact absurd h Bool.false_ne_true)
theorem assign_ns {so : Scope} {env : Env} : ∀ {ts : List Tg} {es : List Expr}, mTgs Γ so ts es = true → (assignEach es env).length = ts.length ∧ (assignEach es env).findIdx? (·.1) = none
  | [], [], _ => ⟨rfl, rfl⟩
  | t :: ts, e :: es, h => by
    obtain ⟨h1, h2⟩ := and2 (show (mTg Γ so t e && mTgs Γ so ts es) = true from h)
    obtain ⟨i1, i2⟩ := assign_ns (env := env) h2
    have : assignEach (e :: es) env = (false, assign e env) :: assignEach es env := by
      cases t <;> cases e <;> first | rfl | (exact absurd h1 Bool.false_ne_true)
    rw [this]
    exact ⟨by simp [i1], by simp [List.findIdx?_cons, i2]⟩
  | [], _ :: _, h => absurd h Bool.false_ne_true
  | _ :: _, [], h => absurd h Bool.false_ne_true
mutual
theorem pg_ok {so : Scope} (ok : StOk X Γ.N so) (hc : Γ.calm = true → X.calm = true) : ∀ (t : Tg) (e : Expr), mTg Γ so t e = true → PG X e (gD X t)
  | .nm i, e, h => by
    cases e <;> first | (exact absurd h Bool.false_ne_true) | skip
    case Name x pos =>
      obtain ⟨h1, h2⟩ := and2 (show (decide (Γ.N[i]? = some x) && locB so x) = true from h)
      obtain ⟨l, f⟩ := ok.st x h2
      refine PG.mono (pg_name (i := i) (by rw [ok.N]; exact ok.nd) (by rw [ok.N]; exact of_decide_eq_true h1) l f) fun v σ H Q q => ?_
      obtain ⟨B, ρ, M, d, Qe, g, er, r, q, k⟩ := q
      refine k _ _ (er.set r) ⟨by rw [List.length_set], fun j hj => ?_⟩ q
      rw [List.getElem?_set_ne (fun z => hj (by simp [tgIx, z]))]
  | .tup ts, e, h => by
    cases e <;> first | (exact absurd h Bool.false_ne_true) | skip
    case Tuple es k pos =>
      obtain ⟨h1, h2⟩ := and2 (show (Γ.calm && mTgs Γ so ts es) = true from h)
      obtain ⟨i1, i2⟩ := assign_ns (env := X.env) h2
      have hs := pgs_ok ok hc ts es h2
      refine ⟨fun pins s σ H v u Q I rv q => ?_⟩
      obtain ⟨B, ρ, M, d, Qe, g, er, r, q, k⟩ := q
      cases d <;> first | exact (show False from q).elim | skip
      case tup ds =>
        obtain ⟨a, vs, rfl, h1', _, rr⟩ := tupF r
        obtain ⟨q1, q2⟩ : ds.length = ts.length ∧ tgDs ts ds ρ Qe := q
        exact (pg_tup (hc h1) hs i1 i2).run pins s σ H _ u Q I rv ⟨a, vs, rfl, h1', by rw [← rr.length]; exact q1, B, ρ, M, ds, Qe, g, er, rr, q1, q2, k⟩
      case lst ds =>
        obtain ⟨a, vs, rfl, h1', _, rr⟩ := lstF r
        obtain ⟨q1, q2⟩ : ds.length = ts.length ∧ tgDs ts ds ρ Qe := q
        exact (pg_unl (hc h1) hs i1 i2).run pins s σ H _ u Q I rv ⟨a, vs, rfl, SqL.of h1', by rw [← rr.length]; exact q1, B, ρ, M, ds, Qe, g, er, rr, q1, q2, k⟩
theorem pgs_ok {so : Scope} (ok : StOk X Γ.N so) (hc : Γ.calm = true → X.calm = true) : ∀ (ts : List Tg) (es : List Expr), mTgs Γ so ts es = true → PGs X es (gDs X ts)
  | [], es, h => by
    cases es <;> first | (exact absurd h Bool.false_ne_true) | skip
    refine PGs.mono pgs_nil fun vs σ H Q q => ?_
    obtain ⟨B, ρ, M, ds, Qe, g, er, r, l, q, k⟩ := q
    have e : ds = [] := List.eq_nil_of_length_eq_zero l
    subst e
    exact ⟨r, k σ ρ er (SameOut.refl _ _) q⟩
  | t :: ts, es, h => by
    cases es <;> first | (exact absurd h Bool.false_ne_true) | skip
    case cons e es =>
      obtain ⟨h1, h2⟩ := and2 (show (mTg Γ so t e && mTgs Γ so ts es) = true from h)
      refine PGs.mono (pgs_cons (pg_ok ok hc t e h1) (pgs_ok ok hc ts es h2) (assign_ok h1)) fun vs σ H Q q => ?_
      obtain ⟨B, ρ, M, ds, Qe, g, er, r, l, q, k⟩ := q
      match ds, l, q, r with
      | d :: ds, l, q, r =>
        obtain ⟨v, vr, rfl, r1, r2⟩ := r
        refine ⟨v, vr, rfl, B, ρ, M, d, _, g, er, r1, q, fun σ' ρ' er' so' q' => ?_⟩
        refine ⟨B, ρ', M, ds, Qe, g, er', r2, by simpa using l, q', fun σ2 ρ2 er2 so2 q2 => k σ2 ρ2 er2 ?_ q2⟩
        exact (so'.mono (fun i hi => List.mem_append_left _ hi)).trans (so2.mono fun i hi => List.mem_append_right _ hi)
end
end
end RF
namespace RF
open PySem PySem.Spec PyProof.Rows L2
section
variable {Γ : Cfg} {X : Cx} {W : WX} {B B' : Bad} {σ : SV} {H H1 : Hp} {ρ : DEnv} {M M1 : Mem} {Xd : XQ} {Qd : QD} {Q : VK} {K : PySem.W.Frag}
mutual
theorem Rep.weak (s : ∀ a, B a → B' a) : ∀ {d : D} {v : V}, Rep K H M B' d v → Rep K H M B d v
  | .non, _, h => h
  | .bl _, _, h => h
  | .int _, _, h => h
  | .str _, _, h => h
  | .cell _, _, h => h
  | .fn _, _, h => h
  | .rng _ _, _, h => by
    obtain ⟨p, e, h⟩ := h
    exact ⟨p, e, h.1, h.2.1, fun b => h.2.2 (s _ b)⟩
  | .tup xs, _, h => by
    obtain ⟨a, vs, e, h, z, r⟩ := h
    refine ⟨a, vs, e, ?_, z, Reps.weak s r⟩
    rcases h with h | h
    · exact .inl ⟨h.1, h.2.1, fun b => h.2.2 (s a b)⟩
    · exact .inr h
  | .lst xs, _, h => by
    obtain ⟨a, vs, e, h, z, r⟩ := h
    exact ⟨a, vs, e, ⟨h.1, h.2.1, fun b => h.2.2 (s a b)⟩, z, Reps.weak s r⟩
  | .dct ks xs, _, h => by
    obtain ⟨a, vs, e, h, l, z, r⟩ := h
    exact ⟨a, vs, e, ⟨h.1, h.2.1, fun b => h.2.2 (s a b)⟩, l, z, Reps.weak s r⟩
  | .scr xs, _, h => by
    obtain ⟨a, vs, e, h, z, r⟩ := h
    exact ⟨a, vs, e, h, z, Reps.weak s r⟩
theorem Reps.weak (s : ∀ a, B a → B' a) : ∀ {ds : List D} {vs : List V}, Reps K H M B' ds vs → Reps K H M B ds vs
  | [], _, h => h
  | d :: ds, _, h => by
    obtain ⟨v, r, e, h1, h2⟩ := h
    exact ⟨v, r, e, Rep.weak s h1, Reps.weak s h2⟩
end
theorem Good.weak (s : ∀ a, B a → B' a) (g : Good K H M B') : Good K H M B := ⟨fun a b => g.bad a (s a b), fun a c e => by
  have z := g.cel a c e
  cases c with
  | lst xs =>
    obtain ⟨vs, h1, h2, h3⟩ := z
    exact ⟨vs, h1, h2, h3.weak s⟩⟩
/-- .. and D, a list that is being made -/
def Bad.and (B : Bad) (D : Addr) : Bad := fun a => B a ∨ a = D
theorem mv_new {D : Addr} {H' : Hp} {M' : Mem} (hD : H D = none) (e : Ext H M H' M') : Mv H M B H' M' (B.and D) := fun a o h n b => by
  obtain ⟨h1, n1⟩ := e a o h n
  exact ⟨h1, n1, fun z => z.elim b (ne_of_none h hD)⟩
theorem mv_upd {D : Addr} {o : HO} : Mv H M (B.and D) (upd H D o) M (B.and D) := fun a u h n b => by
  have ne : a ≠ D := fun z => b (.inr z)
  exact ⟨by rw [upd_ne ne]; exact h, n, b⟩
theorem good_and {D : Addr} {vs : List V} (g : Good K H M B) (hD : H D = none) : Good K (upd H D (.lst vs)) M (B.and D) where
  bad := fun a b => by
    rcases b with b | rfl
    · obtain ⟨h1, o', e, n⟩ := g.bad a b
      exact ⟨h1, o', by rw [upd_ne (ne_of_none e hD)]; exact e, n⟩
    · exact ⟨(g.none_of hD).1, _, upd_same, fun _ _ z => nomatch z⟩
  cel := fun a c e => by
    have z := g.cel a c e
    cases c with
    | lst xs =>
      obtain ⟨ws, e2, z2, r⟩ := z
      exact ⟨ws, by rw [upd_ne (ne_of_none e2 hD)]; exact e2, z2, r.mv g.frok (mv_new hD (Ext.new g hD))⟩
theorem good_upd {D : Addr} {vs : List V} (g : Good K H M (B.and D)) : Good K (upd H D (.lst vs)) M (B.and D) where
  bad := fun a b => by
    obtain ⟨h1, o', e, n⟩ := g.bad a b
    by_cases ha : a = D
    · subst ha; exact ⟨h1, _, upd_same, fun _ _ z => nomatch z⟩
    · exact ⟨h1, o', by rw [upd_ne ha]; exact e, n⟩
  cel := fun a c e => by
    have z := g.cel a c e
    have ne : a ≠ D := fun q => by
      subst q
      have := (g.bad a (.inr rfl)).1
      rw [this] at e; cases e
    cases c with
    | lst xs =>
      obtain ⟨ws, e2, z2, r⟩ := z
      exact ⟨ws, by rw [upd_ne ne]; exact e2, z2, r.mv g.frok mv_upd⟩
theorem ext_upd {D : Addr} {o : HO} {H' : Hp} {M' : Mem} (hD : H D = none) (e : Ext H M H' M') : Ext H M (upd H' D o) M' := fun a u h n => by
  obtain ⟨h1, n1⟩ := e a u h n
  exact ⟨by rw [upd_ne (ne_of_none h hD)]; exact h1, n1⟩
def noW : WX := fun _ _ _ _ => False
def noX : XQ := fun _ _ => False
/-! ### dict comprehensions -/
theorem good_andO {D : Addr} {o : HO} (ho : ∀ a u, o ≠ .frz a u) (g : Good K H M B) (hD : H D = none) : Good K (upd H D o) M (B.and D) where
  bad := fun a b => by
    rcases b with b | rfl
    · obtain ⟨h1, o', e, n⟩ := g.bad a b
      exact ⟨h1, o', by rw [upd_ne (ne_of_none e hD)]; exact e, n⟩
    · exact ⟨(g.none_of hD).1, _, upd_same, ho⟩
  cel := fun a c e => by
    have z := g.cel a c e
    cases c with
    | lst xs =>
      obtain ⟨ws, e2, z2, r⟩ := z
      exact ⟨ws, by rw [upd_ne (ne_of_none e2 hD)]; exact e2, z2, r.mv g.frok (mv_new hD (Ext.new g hD))⟩
theorem good_updO {D : Addr} {o : HO} (ho : ∀ a u, o ≠ .frz a u) (g : Good K H M (B.and D)) : Good K (upd H D o) M (B.and D) where
  bad := fun a b => by
    obtain ⟨h1, o', e, n⟩ := g.bad a b
    by_cases ha : a = D
    · subst ha; exact ⟨h1, _, upd_same, ho⟩
    · exact ⟨h1, o', by rw [upd_ne ha]; exact e, n⟩
  cel := fun a c e => by
    have z := g.cel a c e
    have ne : a ≠ D := fun q => by
      subst q
      have := (g.bad a (.inr rfl)).1
      rw [this] at e; cases e
    cases c with
    | lst xs =>
      obtain ⟨ws, e2, z2, r⟩ := z
      exact ⟨ws, by rw [upd_ne ne]; exact e2, z2, r.mv g.frok mv_upd⟩
theorem zip_any {α : Type} {k : Key} : ∀ {ks : List Key} {vs : List α}, ks.length = vs.length → ((ks.zip vs).any fun kv => decide (kv.1 = k)) = ks.any fun j => decide (j = k)
  | [], [], _ => rfl
  | a :: ks, b :: vs, h => by
    show (decide (a = k) || (ks.zip vs).any fun kv => decide (kv.1 = k)) = (decide (a = k) || ks.any fun j => decide (j = k))
    rw [zip_any (by simpa using h)]
  | [], _ :: _, h => by cases h
  | _ :: _, [], h => by cases h
theorem zip_put {α : Type} {k : Key} {z : α} : ∀ {ks : List Key} {vs : List α}, ks.length = vs.length → (ks.zip vs).map (fun kv => if kv.1 = k then (kv.1, z) else kv) = ks.zip ((ks.zip vs).map fun p => if p.1 = k then z else p.2)
  | [], [], _ => rfl
  | a :: ks, b :: vs, h => by
    have ih := zip_put (k := k) (z := z) (ks := ks) (vs := vs) (by simpa using h)
    simp only [List.zip_cons_cons, List.map_cons]
    rw [ih]
    split <;> rfl
  | [], _ :: _, h => by cases h
  | _ :: _, [], h => by cases h
theorem putL_zip {ks : List Key} {vs : List V} {k : Key} {z : V} (h : ks.length = vs.length) : putK (ks.zip vs) k z = (putL ks vs k z).1.zip (putL ks vs k z).2 := by
  unfold putK putL
  rw [zip_any h]
  split
  · exact zip_put h
  · rw [List.zip_append h]; rfl
theorem putL_len {α : Type} {ks : List Key} {xs : List α} {k : Key} {x : α} (h : ks.length = xs.length) : (putL ks xs k x).1.length = (putL ks xs k x).2.length ∧ (putL ks xs k x).2.length ≤ xs.length + 1 := by
  unfold putL
  split
  · refine ⟨?_, ?_⟩ <;> simp [h]
  · simp [h]
theorem putL_fst {α β : Type} {ks : List Key} {xs : List α} {ys : List β} {k : Key} {x : α} {y : β} : (putL ks xs k x).1 = (putL ks ys k y).1 := by
  unfold putL
  split <;> rfl
theorem put_reps {d : D} {z : V} {k : Key} (rz : Rep K H M B d z) : ∀ {ks : List Key} {ds : List D} {vs : List V}, ks.length = vs.length → Reps K H M B ds vs → Reps K H M B ((ks.zip ds).map fun p => if p.1 = k then d else p.2) ((ks.zip vs).map fun p => if p.1 = k then z else p.2)
  | [], ds, vs, h, r => by rw [List.zip_nil_left, List.zip_nil_left]; rfl
  | a :: ks, [], vs, h, r => by have e : vs = [] := r; subst e; cases h
  | a :: ks, d0 :: ds, vs, h, r => by
    obtain ⟨v, ws, rfl, h1, h2⟩ := r
    refine ⟨_, _, rfl, ?_, put_reps rz (by simpa using h) h2⟩
    show Rep K H M B (if a = k then d else d0) (if a = k then z else v)
    split
    · exact rz
    · exact h1
theorem putL_reps {d : D} {z : V} {k : Key} {ks : List Key} {ds : List D} {vs : List V} (rz : Rep K H M B d z) (h : ks.length = vs.length) (r : Reps K H M B ds vs) : Reps K H M B (putL ks ds k d).2 (putL ks vs k z).2 := by
  unfold putL
  split
  · exact put_reps rz h r
  · exact r.append ⟨z, [], rfl, rz, rfl⟩
theorem keyD_v {kd : D} {v : V} {k : Key → Prop} (r : Rep K H M B kd v) (h : keyD kd k) : ∃ key, v = kV key ∧ k key := by
  cases kd <;> first | exact (show False from h).elim | skip
  case int i => obtain rfl : v = .int i := r; exact ⟨.inl i, rfl, h⟩
  case str x => obtain rfl : v = .str x := r; exact ⟨.inr x, rfl, h⟩
theorem valL_rep {k : Key} : ∀ {ks : List Key} {ds : List D} {vs : List V}, ks.length = vs.length → Reps K H M B ds vs → (valL ks ds k = none ∧ valV (ks.zip vs) k = none) ∨ ∃ d v, valL ks ds k = some d ∧ valV (ks.zip vs) k = some v ∧ Rep K H M B d v
  | [], ds, vs, h, r => .inl ⟨by unfold valL; rw [List.zip_nil_left]; rfl, by rw [List.zip_nil_left]; rfl⟩
  | a :: ks, [], vs, h, r => by have e : vs = [] := r; subst e; cases h
  | a :: ks, d0 :: ds, vs, h, r => by
    obtain ⟨v, ws, rfl, h1, h2⟩ := r
    by_cases e : a = k
    · exact .inr ⟨d0, v, by unfold valL; simp [List.find?_cons, e], by simp [valV, List.find?_cons, e], h1⟩
    · have ih := valL_rep (k := k) (ks := ks) (ds := ds) (vs := ws) (by simpa using h) h2
      have e1 : valL (a :: ks) (d0 :: ds) k = valL ks ds k := by unfold valL; simp [List.find?_cons, e]
      have e2 : valV ((a :: ks).zip (v :: ws)) k = valV (ks.zip ws) k := by simp [valV, List.find?_cons, e]
      rw [e1, e2]; exact ih
theorem dc_read {t : Tg} {vs : List Nat} {wi : DEnv → Mem → XQ → QL → Prop} {wt : DEnv → Mem → XQ → (Bool → Mem → Prop) → Prop} {wk we : DEnv → Mem → XQ → QD → Prop} (hs : ∀ i ∈ tgIx t, i ∈ vs)
    (h : tD Γ X W (fun ρ M Xd Qd => wi ρ M Xd fun xs M1 => dcGo (fun d k => tgD t d (wipeD ρ vs) k) (fun ρ' M2 k => wt ρ' M2 noX k) (fun ρ' M2 k => wk ρ' M2 noX k) (fun ρ' M2 k => we ρ' M2 noX k) xs [] [] M1 fun ks ys M2 => Qd (.dct ks ys) M2) σ H Q) :
    tDc (tI Γ X W wi) (gD X t) (tT Γ X noW wt) (tD Γ X noW wk) (tD Γ X noW we) vs σ H Q := by
  obtain ⟨B, ρ, M, Xd, Qd, s0, hw, f⟩ := h
  refine ⟨B, ρ, M, Xd, _, s0, hw, fun xs J H1 M1 e1 g1 wk' len q D hD => ?_⟩
  have nb : ¬ B D := (g1.none_of hD).2
  have mD : M1 D = none := (g1.none_of hD).1
  have nf : ∀ kvs : List (Key × V), ∀ a u, HO.dK kvs ≠ .frz a u := fun _ _ _ z => nomatch z
  refine ⟨fun i m H2 => ∃ M2 ks acc vacc, m = xs.length - i ∧ i ≤ xs.length ∧ H2 D = some (.dK (ks.zip vacc)) ∧ ks.length = vacc.length ∧ M2 D = none ∧ Good X.K H2 M2 (B.and D) ∧ Reps X.K H2 M2 (B.and D) acc vacc ∧ acc.length ≤ i ∧ Ext H1 M1 H2 M2 ∧
      dcGo (fun d k => tgD t d (wipeD ρ vs) k) (fun ρ' M2 k => wt ρ' M2 noX k) (fun ρ' M2 k => wk ρ' M2 noX k) (fun ρ' M2 k => we ρ' M2 noX k) (xs.drop i) ks acc M2 (fun ks ys M2 => Qd (.dct ks ys) M2),
    ⟨xs.length, M1, [], [], [], by omega, Nat.zero_le _, upd_same, rfl, mD, good_andO (nf _) g1 hD, rfl, Nat.le_refl _, ext_upd hD (Ext.refl _ _), q⟩, ?_⟩
  rintro i m H2 ⟨M2, ks, acc, vacc, rfl, hi, hD2, lk, mD2, g2, ra, la, e2, q2⟩
  have mv2 : Mv H1 M1 B H2 M2 (B.and D) := mv_new hD e2
  obtain ⟨w1, w2, w3⟩ := wk' H2 M2 _ mv2 g2
  by_cases hlt : i < xs.length
  · refine .inr ⟨w1 i hlt, fun H3 => ∃ M3 ks acc vacc, i + 1 ≤ xs.length ∧ H3 D = some (.dK (ks.zip vacc)) ∧ ks.length = vacc.length ∧ M3 D = none ∧ Good X.K H3 M3 (B.and D) ∧ Reps X.K H3 M3 (B.and D) acc vacc ∧ acc.length ≤ i + 1 ∧ Ext H1 M1 H3 M3 ∧
      dcGo (fun d k => tgD t d (wipeD ρ vs) k) (fun ρ' M2 k => wt ρ' M2 noX k) (fun ρ' M2 k => wk ρ' M2 noX k) (fun ρ' M2 k => we ρ' M2 noX k) (xs.drop (i + 1)) ks acc M3 (fun ks ys M2 => Qd (.dct ks ys) M2), ?_, ?_⟩
    · rintro H3 ⟨M3, ks', acc', vacc', p1, p2, p3, p4, p5, p6, p7, p8, p9⟩
      exact ⟨xs.length - (i + 1), by omega, M3, ks', acc', vacc', rfl, p1, p2, p3, p4, p5, p6, p7, p8, p9⟩
    · intro x H' yl
      obtain ⟨ex, gx, rx, kx⟩ := w3 i xs[i] x H' (by simp [hlt]) yl
      have hd : xs.drop i = xs[i] :: xs.drop (i + 1) := List.drop_eq_getElem_cons hlt
      rw [hd] at q2
      have env' : EnvR X.K H' M2 (B.and D) (wipeD ρ vs) (wipe σ vs) := by
        refine EnvR.wipe (s0.env.mv s0.good.frok fun a o h n b => ?_) vs
        obtain ⟨h1, n1⟩ := e1 a o h n
        obtain ⟨h2, n2, b2⟩ := mv2 a o h1 n1 b
        exact ⟨kx _ _ h2, n2, b2⟩
      refine ⟨B.and D, wipeD ρ vs, M2, xs[i], _, gx, env', rx, q2, fun σ2 ρ2 er so q3 => ⟨wipe_same so hs, ?_⟩⟩
      have s2 : S0 Γ X noW (B.and D) σ2 H' ρ2 M2 noX := ⟨gx, er, xl_no fun _ _ z => z⟩
      refine mkT s2 q3 fun b H3 M3 e3 s3 q4 => ?_
      have hD3 : H3 D = some (.dK (ks.zip vacc)) ∧ M3 D = none := e3 D _ (kx _ _ hD2) mD2
      have ra3 : Reps X.K H3 M3 (B.and D) acc vacc := (ra.ext g2 ex).ext gx e3
      have ext3 : Ext H1 M1 H3 M3 := (e2.trans ex).trans e3
      cases b with
      | true =>
        simp only [if_true] at q4 ⊢
        refine mkD s3 q4 fun yk vk H4 M4 e4 s4 r4 q5 => mkD s4 q5 fun y v H5 M5 e5 s5 r5 q6 => ?_
        have hD4 : H4 D = some (.dK (ks.zip vacc)) ∧ M4 D = none := e4 D _ hD3.1 hD3.2
        have hD5 : H5 D = some (.dK (ks.zip vacc)) ∧ M5 D = none := e5 D _ hD4.1 hD4.2
        have ra5 : Reps X.K H5 M5 (B.and D) acc vacc := (ra3.ext s3.good e4).ext s4.good e5
        obtain ⟨key, ek, hl, q7⟩ := keyD_v r4 q6
        have lz : (ks.zip vacc).length = ks.length := by rw [List.length_zip, ← lk, Nat.min_self]
        have pl := putL_len (k := key) (x := v) lk
        refine ⟨ks.zip vacc, key, ek, hD5.1, by rw [lz]; exact hl, M5, (putL ks acc key y).1, (putL ks acc key y).2, (putL ks vacc key v).2, hlt, ?_, ?_, hD5.2, good_updO (nf _) s5.good, ?_, ?_, ext_upd hD ((ext3.trans e4).trans e5), q7⟩
        · rw [upd_same, putL_zip lk, putL_fst (ys := acc) (y := y)]
        · rw [putL_fst (ys := vacc) (y := v)]; exact pl.1
        · exact putL_reps (r5.mv s5.good.frok mv_upd) lk (ra5.mv s5.good.frok mv_upd)
        · have := (putL_len (k := key) (x := y) (show ks.length = acc.length by rw [ra.length]; exact lk)).2
          omega
      | false =>
        simp only [Bool.false_eq_true, if_false] at q4 ⊢
        exact ⟨M3, ks, acc, vacc, hlt, hD3.1, lk, hD3.2, s3.good, ra3, by omega, ext3, q4⟩
  · have hi2 : i = xs.length := by omega
    subst hi2
    rw [List.drop_length] at q2
    refine .inl ⟨w2, ?_⟩
    have gw : Good X.K H2 M2 B := g2.weak fun a b => .inl b
    exact f (.dct ks acc) (.ref D) H2 M2 (e1.trans e2) gw ⟨D, vacc, rfl, ⟨hD2, mD2, nb⟩, lk, Nat.le_trans la len, ra.weak fun a b => .inl b⟩ q2
/-- a comprehension's reading -/
theorem lc_read {t : Tg} {vs : List Nat} {wi : DEnv → Mem → XQ → QL → Prop} {wt : DEnv → Mem → XQ → (Bool → Mem → Prop) → Prop} {we : DEnv → Mem → XQ → QD → Prop} (hs : ∀ i ∈ tgIx t, i ∈ vs)
    (h : tD Γ X W (fun ρ M Xd Qd => wi ρ M Xd fun xs M1 => lcGo (fun d k => tgD t d (wipeD ρ vs) k) (fun ρ' M2 k => wt ρ' M2 noX k) (fun ρ' M2 k => we ρ' M2 noX k) xs [] M1 fun ys M2 => Qd (.lst ys) M2) σ H Q) :
    tLc (tI Γ X W wi) (gD X t) (tT Γ X noW wt) (tD Γ X noW we) vs σ H Q := by
  obtain ⟨B, ρ, M, Xd, Qd, s0, hw, f⟩ := h
  refine ⟨B, ρ, M, Xd, _, s0, hw, fun xs J H1 M1 e1 g1 wk len q D hD => ?_⟩
  have nb : ¬ B D := (g1.none_of hD).2
  have mD : M1 D = none := (g1.none_of hD).1
  refine ⟨fun i m H2 => ∃ M2 acc vacc, m = xs.length - i ∧ i ≤ xs.length ∧ H2 D = some (.lst vacc) ∧ M2 D = none ∧ Good X.K H2 M2 (B.and D) ∧ Reps X.K H2 M2 (B.and D) acc vacc ∧ acc.length ≤ i ∧ Ext H1 M1 H2 M2 ∧
      lcGo (fun d k => tgD t d (wipeD ρ vs) k) (fun ρ' M2 k => wt ρ' M2 noX k) (fun ρ' M2 k => we ρ' M2 noX k) (xs.drop i) acc M2 (fun ys M2 => Qd (.lst ys) M2),
    ⟨xs.length, M1, [], [], by omega, Nat.zero_le _, upd_same, mD, good_and g1 hD, rfl, Nat.le_refl _, ext_upd hD (Ext.refl _ _), q⟩, ?_⟩
  rintro i m H2 ⟨M2, acc, vacc, rfl, hi, hD2, mD2, g2, ra, la, e2, q2⟩
  have mv2 : Mv H1 M1 B H2 M2 (B.and D) := mv_new hD e2
  obtain ⟨w1, w2, w3⟩ := wk H2 M2 _ mv2 g2
  by_cases hlt : i < xs.length
  · refine .inr ⟨w1 i hlt, fun H3 => ∃ M3 acc vacc, i + 1 ≤ xs.length ∧ H3 D = some (.lst vacc) ∧ M3 D = none ∧ Good X.K H3 M3 (B.and D) ∧ Reps X.K H3 M3 (B.and D) acc vacc ∧ acc.length ≤ i + 1 ∧ Ext H1 M1 H3 M3 ∧
      lcGo (fun d k => tgD t d (wipeD ρ vs) k) (fun ρ' M2 k => wt ρ' M2 noX k) (fun ρ' M2 k => we ρ' M2 noX k) (xs.drop (i + 1)) acc M3 (fun ys M2 => Qd (.lst ys) M2), ?_, ?_⟩
    · rintro H3 ⟨M3, acc', vacc', p1, p2, p3, p4, p5, p6, p7, p8⟩
      exact ⟨xs.length - (i + 1), by omega, M3, acc', vacc', rfl, p1, p2, p3, p4, p5, p6, p7, p8⟩
    · intro x H' yl
      obtain ⟨ex, gx, rx, kx⟩ := w3 i xs[i] x H' (by simp [hlt]) yl
      have hd : xs.drop i = xs[i] :: xs.drop (i + 1) := List.drop_eq_getElem_cons hlt
      rw [hd] at q2
      have env' : EnvR X.K H' M2 (B.and D) (wipeD ρ vs) (wipe σ vs) := by
        refine EnvR.wipe (s0.env.mv s0.good.frok fun a o h n b => ?_) vs
        obtain ⟨h1, n1⟩ := e1 a o h n
        obtain ⟨h2, n2, b2⟩ := mv2 a o h1 n1 b
        exact ⟨kx _ _ h2, n2, b2⟩
      refine ⟨B.and D, wipeD ρ vs, M2, xs[i], _, gx, env', rx, q2, fun σ2 ρ2 er so q3 => ⟨wipe_same so hs, ?_⟩⟩
      have s2 : S0 Γ X noW (B.and D) σ2 H' ρ2 M2 noX := ⟨gx, er, xl_no fun _ _ z => z⟩
      refine mkT s2 q3 fun b H3 M3 e3 s3 q4 => ?_
      have hD3 : H3 D = some (.lst vacc) ∧ M3 D = none := e3 D _ (kx _ _ hD2) mD2
      have ra3 : Reps X.K H3 M3 (B.and D) acc vacc := (ra.ext g2 ex).ext gx e3
      have ext3 : Ext H1 M1 H3 M3 := (e2.trans ex).trans e3
      cases b with
      | true =>
        simp only [if_true] at q4 ⊢
        refine mkD s3 q4 fun y v H4 M4 e4 s4 r4 q5 => ?_
        have hD4 : H4 D = some (.lst vacc) ∧ M4 D = none := e4 D _ hD3.1 hD3.2
        have ra4 : Reps X.K H4 M4 (B.and D) acc vacc := ra3.ext s3.good e4
        refine ⟨vacc, hD4.1, ?_, M4, acc ++ [y], vacc ++ [v], hlt, upd_same, hD4.2, good_upd s4.good, ?_, ?_, ext_upd hD (ext3.trans e4), q5⟩
        · rw [← ra.length]; omega
        · exact (ra4.mv s4.good.frok mv_upd).append ⟨v, [], rfl, r4.mv s4.good.frok mv_upd, rfl⟩
        · rw [List.length_append, List.length_singleton]; omega
      | false =>
        simp only [Bool.false_eq_true, if_false] at q4 ⊢
        exact ⟨M3, acc, vacc, hlt, hD3.1, hD3.2, s3.good, ra3, by omega, ext3, q4⟩
  · have hi2 : i = xs.length := by omega
    subst hi2
    rw [List.drop_length] at q2
    refine .inl ⟨w2, ?_⟩
    have gw : Good X.K H2 M2 B := g2.weak fun a b => .inl b
    exact f (.lst acc) (.ref D) H2 M2 (e1.trans e2) gw ⟨D, vacc, rfl, ⟨hD2, mD2, nb⟩, Nat.le_trans la len, ra.weak fun a b => .inl b⟩ q2
/-- two clauses -/
theorem lc2_read {t t1 : Tg} {vs vs1 : List Nat} {wi wi1 : DEnv → Mem → XQ → QL → Prop} {wt wt1 : DEnv → Mem → XQ → (Bool → Mem → Prop) → Prop} {we : DEnv → Mem → XQ → QD → Prop} (hs : ∀ i ∈ tgIx t, i ∈ vs) (hs1 : ∀ i ∈ tgIx t1, i ∈ vs1)
    (h : tD Γ X W (fun ρ M Xd Qd => wi ρ M Xd fun xs M1 => lc2Go (fun d k => tgD t d (wipeD ρ vs) k) (fun ρ' M2 k => wt ρ' M2 noX k)
      (fun ρ' acc M2 QL => wi1 ρ' M2 noX fun xs1 M3 => acc.length + xs1.length ≤ sizeLine ∧ lcGo (fun d k => tgD t1 d (wipeD ρ' vs1) k) (fun ρ' M2 k => wt1 ρ' M2 noX k) (fun ρ' M2 k => we ρ' M2 noX k) xs1 acc M3 QL) xs [] M1 fun ys M2 => Qd (.lst ys) M2) σ H Q) :
    tLc2 (tI Γ X W wi) (gD X t) (tT Γ X noW wt) (tI Γ X noW wi1) (gD X t1) (tT Γ X noW wt1) (tD Γ X noW we) vs vs1 σ H Q := by
  obtain ⟨B, ρ, M, Xd, Qd, s0, hw, f⟩ := h
  refine ⟨B, ρ, M, Xd, _, s0, hw, fun xs J H1 M1 e1 g1 wk len q D hD => ?_⟩
  have nb : ¬ B D := (g1.none_of hD).2
  have mD : M1 D = none := (g1.none_of hD).1
  refine ⟨fun i m H2 => ∃ M2 acc vacc, m = xs.length - i ∧ i ≤ xs.length ∧ H2 D = some (.lst vacc) ∧ M2 D = none ∧ Good X.K H2 M2 (B.and D) ∧ Reps X.K H2 M2 (B.and D) acc vacc ∧ acc.length ≤ sizeLine ∧ Ext H1 M1 H2 M2 ∧
      lc2Go (fun d k => tgD t d (wipeD ρ vs) k) (fun ρ' M2 k => wt ρ' M2 noX k)
      (fun ρ' acc M2 QL => wi1 ρ' M2 noX fun xs1 M3 => acc.length + xs1.length ≤ sizeLine ∧ lcGo (fun d k => tgD t1 d (wipeD ρ' vs1) k) (fun ρ' M2 k => wt1 ρ' M2 noX k) (fun ρ' M2 k => we ρ' M2 noX k) xs1 acc M3 QL) (xs.drop i) acc M2 (fun ys M2 => Qd (.lst ys) M2),
    ⟨xs.length, M1, [], [], by omega, Nat.zero_le _, upd_same, mD, good_and g1 hD, rfl, Nat.zero_le _, ext_upd hD (Ext.refl _ _), q⟩, ?_⟩
  rintro i m H2 ⟨M2, acc, vacc, rfl, hi, hD2, mD2, g2, ra, la, e2, q2⟩
  have mv2 : Mv H1 M1 B H2 M2 (B.and D) := mv_new hD e2
  obtain ⟨w1, w2, w3⟩ := wk H2 M2 _ mv2 g2
  by_cases hlt : i < xs.length
  · refine .inr ⟨w1 i hlt, fun H3 => ∃ M3 acc vacc, i + 1 ≤ xs.length ∧ H3 D = some (.lst vacc) ∧ M3 D = none ∧ Good X.K H3 M3 (B.and D) ∧ Reps X.K H3 M3 (B.and D) acc vacc ∧ acc.length ≤ sizeLine ∧ Ext H1 M1 H3 M3 ∧
      lc2Go (fun d k => tgD t d (wipeD ρ vs) k) (fun ρ' M2 k => wt ρ' M2 noX k)
      (fun ρ' acc M2 QL => wi1 ρ' M2 noX fun xs1 M3 => acc.length + xs1.length ≤ sizeLine ∧ lcGo (fun d k => tgD t1 d (wipeD ρ' vs1) k) (fun ρ' M2 k => wt1 ρ' M2 noX k) (fun ρ' M2 k => we ρ' M2 noX k) xs1 acc M3 QL) (xs.drop (i + 1)) acc M3 (fun ys M2 => Qd (.lst ys) M2), ?_, ?_⟩
    · rintro H3 ⟨M3, acc', vacc', p1, p2, p3, p4, p5, p6, p7, p8⟩
      exact ⟨xs.length - (i + 1), by omega, M3, acc', vacc', rfl, p1, p2, p3, p4, p5, p6, p7, p8⟩
    · intro x H' yl
      obtain ⟨ex, gx, rx, kx⟩ := w3 i xs[i] x H' (by simp [hlt]) yl
      have hd : xs.drop i = xs[i] :: xs.drop (i + 1) := List.drop_eq_getElem_cons hlt
      rw [hd] at q2
      have env' : EnvR X.K H' M2 (B.and D) (wipeD ρ vs) (wipe σ vs) := by
        refine EnvR.wipe (s0.env.mv s0.good.frok fun a o h n b => ?_) vs
        obtain ⟨h1, n1⟩ := e1 a o h n
        obtain ⟨h2, n2, b2⟩ := mv2 a o h1 n1 b
        exact ⟨kx _ _ h2, n2, b2⟩
      refine ⟨B.and D, wipeD ρ vs, M2, xs[i], _, gx, env', rx, q2, fun σ2 ρ2 er so q3 => ⟨wipe_same so hs, ?_⟩⟩
      have s2 : S0 Γ X noW (B.and D) σ2 H' ρ2 M2 noX := ⟨gx, er, xl_no fun _ _ z => z⟩
      refine mkT s2 q3 fun b H3 M3 e3 s3 q4 => ?_
      have hD3 : H3 D = some (.lst vacc) ∧ M3 D = none := e3 D _ (kx _ _ hD2) mD2
      have ra3 : Reps X.K H3 M3 (B.and D) acc vacc := (ra.ext g2 ex).ext gx e3
      have ext3 : Ext H1 M1 H3 M3 := (e2.trans ex).trans e3
      cases b with
      | false =>
        simp only [Bool.false_eq_true, if_false] at q4 ⊢
        exact ⟨M3, acc, vacc, hlt, hD3.1, hD3.2, s3.good, ra3, la, ext3, q4⟩
      | true =>
        simp only [if_true] at q4 ⊢
        refine ⟨B.and D, ρ2, M3, noX, _, s3, q4, fun xs1 J1 H4 M4 e4 g4 wk1 len1 q5 => ?_⟩
        obtain ⟨bd, q5⟩ := q5
        have hD4 : H4 D = some (.lst vacc) ∧ M4 D = none := e4 D _ hD3.1 hD3.2
        refine ⟨fun j k H5 => ∃ M5 acc vacc, k = xs1.length - j ∧ j ≤ xs1.length ∧ H5 D = some (.lst vacc) ∧ M5 D = none ∧ Good X.K H5 M5 (B.and D) ∧ Reps X.K H5 M5 (B.and D) acc vacc ∧ acc.length + (xs1.length - j) ≤ sizeLine ∧ Ext H1 M1 H5 M5 ∧ Mv H4 M4 (B.and D) H5 M5 (B.and D) ∧
          lcGo (fun d k => tgD t1 d (wipeD ρ2 vs1) k) (fun ρ' M2 k => wt1 ρ' M2 noX k) (fun ρ' M2 k => we ρ' M2 noX k) (xs1.drop j) acc M5 (fun acc' M' => lc2Go (fun d k => tgD t d (wipeD ρ vs) k) (fun ρ' M2 k => wt ρ' M2 noX k)
      (fun ρ' acc M2 QL => wi1 ρ' M2 noX fun xs1 M3 => acc.length + xs1.length ≤ sizeLine ∧ lcGo (fun d k => tgD t1 d (wipeD ρ' vs1) k) (fun ρ' M2 k => wt1 ρ' M2 noX k) (fun ρ' M2 k => we ρ' M2 noX k) xs1 acc M3 QL) (xs.drop (i + 1)) acc' M' (fun ys M2 => Qd (.lst ys) M2)),
          ⟨xs1.length, M4, acc, vacc, by omega, Nat.zero_le _, hD4.1, hD4.2, g4, ra3.ext s3.good e4, by omega, ext3.trans e4, fun a o h n b => ⟨h, n, b⟩, q5⟩, ?_⟩
        rintro j k H5 ⟨M5, acc1, vacc1, rfl, hj, hD5, mD5, g5, ra5, la5, e5, mv5, q6⟩
        obtain ⟨u1, u2, u3⟩ := wk1 H5 M5 _ mv5 g5
        by_cases hjt : j < xs1.length
        · refine .inr ⟨u1 j hjt, fun H6 => ∃ M6 acc vacc, j + 1 ≤ xs1.length ∧ H6 D = some (.lst vacc) ∧ M6 D = none ∧ Good X.K H6 M6 (B.and D) ∧ Reps X.K H6 M6 (B.and D) acc vacc ∧ acc.length + (xs1.length - (j + 1)) ≤ sizeLine ∧ Ext H1 M1 H6 M6 ∧ Mv H4 M4 (B.and D) H6 M6 (B.and D) ∧
            lcGo (fun d k => tgD t1 d (wipeD ρ2 vs1) k) (fun ρ' M2 k => wt1 ρ' M2 noX k) (fun ρ' M2 k => we ρ' M2 noX k) (xs1.drop (j + 1)) acc M6 (fun acc' M' => lc2Go (fun d k => tgD t d (wipeD ρ vs) k) (fun ρ' M2 k => wt ρ' M2 noX k)
      (fun ρ' acc M2 QL => wi1 ρ' M2 noX fun xs1 M3 => acc.length + xs1.length ≤ sizeLine ∧ lcGo (fun d k => tgD t1 d (wipeD ρ' vs1) k) (fun ρ' M2 k => wt1 ρ' M2 noX k) (fun ρ' M2 k => we ρ' M2 noX k) xs1 acc M3 QL) (xs.drop (i + 1)) acc' M' (fun ys M2 => Qd (.lst ys) M2)), ?_, ?_⟩
          · rintro H6 ⟨M6, acc', vacc', p1, p2, p3, p4, p5, p6, p7, p8, p9⟩
            exact ⟨xs1.length - (j + 1), by omega, M6, acc', vacc', rfl, p1, p2, p3, p4, p5, p6, p7, p8, p9⟩
          · intro y H' yl
            obtain ⟨ey, gy, ry, ky⟩ := u3 j xs1[j] y H' (by simp [hjt]) yl
            have hd : xs1.drop j = xs1[j] :: xs1.drop (j + 1) := List.drop_eq_getElem_cons hjt
            rw [hd] at q6
            have env' : EnvR X.K H' M5 (B.and D) (wipeD ρ2 vs1) (wipe σ2 vs1) := by
              refine EnvR.wipe (s3.env.mv s3.good.frok fun a o h n b => ?_) vs1
              obtain ⟨h1, n1⟩ := e4 a o h n
              obtain ⟨h2, n2, b2⟩ := mv5 a o h1 n1 b
              exact ⟨ky _ _ h2, n2, b2⟩
            refine ⟨B.and D, wipeD ρ2 vs1, M5, xs1[j], _, gy, env', ry, q6, fun σ3 ρ3 er3 so3 q7 => ⟨wipe_same so3 hs1, ?_⟩⟩
            have s5 : S0 Γ X noW (B.and D) σ3 H' ρ3 M5 noX := ⟨gy, er3, xl_no fun _ _ z => z⟩
            have mvy : Mv H4 M4 (B.and D) H' M5 (B.and D) := fun a o h n b => by
              obtain ⟨h2, n2, b2⟩ := mv5 a o h n b
              exact ⟨ky _ _ h2, n2, b2⟩
            refine mkT s5 q7 fun b H6 M6 e6 s6 q8 => ?_
            have hD6 : H6 D = some (.lst vacc1) ∧ M6 D = none := e6 D _ (ky _ _ hD5) mD5
            have ra6 : Reps X.K H6 M6 (B.and D) acc1 vacc1 := (ra5.ext g5 ey).ext gy e6
            have ext6 : Ext H1 M1 H6 M6 := (e5.trans ey).trans e6
            have mv6 : Mv H4 M4 (B.and D) H6 M6 (B.and D) := fun a o h n b => by
              obtain ⟨h2, n2, b2⟩ := mvy a o h n b
              obtain ⟨h3, n3⟩ := e6 a o h2 n2
              exact ⟨h3, n3, b2⟩
            cases b with
            | true =>
              simp only [if_true] at q8 ⊢
              refine mkD s6 q8 fun z v H7 M7 e7 s7 r7 q9 => ?_
              have hD7 : H7 D = some (.lst vacc1) ∧ M7 D = none := e7 D _ hD6.1 hD6.2
              have ra7 : Reps X.K H7 M7 (B.and D) acc1 vacc1 := ra6.ext s6.good e7
              refine ⟨vacc1, hD7.1, ?_, M7, acc1 ++ [z], vacc1 ++ [v], hjt, upd_same, hD7.2, good_upd s7.good, ?_, ?_, ext_upd hD (ext6.trans e7), fun a o h n b => ?_, q9⟩
              · rw [← ra5.length]; omega
              · exact (ra7.mv s7.good.frok mv_upd).append ⟨v, [], rfl, r7.mv s7.good.frok mv_upd, rfl⟩
              · rw [List.length_append, List.length_singleton]; omega
              · obtain ⟨h2, n2, b2⟩ := mv6 a o h n b
                obtain ⟨h3, n3⟩ := e7 a o h2 n2
                exact mv_upd a o h3 n3 b2
            | false =>
              simp only [Bool.false_eq_true, if_false] at q8 ⊢
              exact ⟨M6, acc1, vacc1, hjt, hD6.1, hD6.2, s6.good, ra6, by omega, ext6, mv6, q8⟩
        · have hj2 : j = xs1.length := by omega
          subst hj2
          rw [List.drop_length] at q6
          exact .inl ⟨u2, M5, acc1, vacc1, hlt, hD5, mD5, g5, ra5, by omega, e5, q6⟩
  · have hi2 : i = xs.length := by omega
    subst hi2
    rw [List.drop_length] at q2
    refine .inl ⟨w2, ?_⟩
    have gw : Good X.K H2 M2 B := g2.weak fun a b => .inl b
    exact f (.lst acc) (.ref D) H2 M2 (e1.trans e2) gw ⟨D, vacc, rfl, ⟨hD2, mD2, nb⟩, la, ra.weak fun a b => .inl b⟩ q2
/-- the same, of a list that is changed in place later -/
theorem lc_readL {t : Tg} {vs : List Nat} {wi : DEnv → Mem → XQ → QL → Prop} {wt : DEnv → Mem → XQ → (Bool → Mem → Prop) → Prop} {we : DEnv → Mem → XQ → QD → Prop} (hs : ∀ i ∈ tgIx t, i ∈ vs)
    (h : tD Γ X W (fun ρ M Xd Qd => wi ρ M Xd fun xs M1 => lcGo (fun d k => tgD t d (wipeD ρ vs) k) (fun ρ' M2 k => wt ρ' M2 noX k) (fun ρ' M2 k => we ρ' M2 noX k) xs [] M1 fun ys M2 => liveD (.lst ys) M2 Qd) σ H Q) :
    tLc (tI Γ X W wi) (gD X t) (tT Γ X noW wt) (tD Γ X noW we) vs σ H Q := by
  obtain ⟨B, ρ, M, Xd, Qd, s0, hw, f⟩ := h
  refine ⟨B, ρ, M, Xd, _, s0, hw, fun xs J H1 M1 e1 g1 wk len q D hD => ?_⟩
  have nb : ¬ B D := (g1.none_of hD).2
  have mD : M1 D = none := (g1.none_of hD).1
  refine ⟨fun i m H2 => ∃ M2 acc vacc, m = xs.length - i ∧ i ≤ xs.length ∧ H2 D = some (.lst vacc) ∧ M2 D = none ∧ Good X.K H2 M2 (B.and D) ∧ Reps X.K H2 M2 (B.and D) acc vacc ∧ acc.length ≤ i ∧ Ext H1 M1 H2 M2 ∧
      lcGo (fun d k => tgD t d (wipeD ρ vs) k) (fun ρ' M2 k => wt ρ' M2 noX k) (fun ρ' M2 k => we ρ' M2 noX k) (xs.drop i) acc M2 (fun ys M2 => liveD (.lst ys) M2 Qd),
    ⟨xs.length, M1, [], [], by omega, Nat.zero_le _, upd_same, mD, good_and g1 hD, rfl, Nat.le_refl _, ext_upd hD (Ext.refl _ _), q⟩, ?_⟩
  rintro i m H2 ⟨M2, acc, vacc, rfl, hi, hD2, mD2, g2, ra, la, e2, q2⟩
  have mv2 : Mv H1 M1 B H2 M2 (B.and D) := mv_new hD e2
  obtain ⟨w1, w2, w3⟩ := wk H2 M2 _ mv2 g2
  by_cases hlt : i < xs.length
  · refine .inr ⟨w1 i hlt, fun H3 => ∃ M3 acc vacc, i + 1 ≤ xs.length ∧ H3 D = some (.lst vacc) ∧ M3 D = none ∧ Good X.K H3 M3 (B.and D) ∧ Reps X.K H3 M3 (B.and D) acc vacc ∧ acc.length ≤ i + 1 ∧ Ext H1 M1 H3 M3 ∧
      lcGo (fun d k => tgD t d (wipeD ρ vs) k) (fun ρ' M2 k => wt ρ' M2 noX k) (fun ρ' M2 k => we ρ' M2 noX k) (xs.drop (i + 1)) acc M3 (fun ys M2 => liveD (.lst ys) M2 Qd), ?_, ?_⟩
    · rintro H3 ⟨M3, acc', vacc', p1, p2, p3, p4, p5, p6, p7, p8⟩
      exact ⟨xs.length - (i + 1), by omega, M3, acc', vacc', rfl, p1, p2, p3, p4, p5, p6, p7, p8⟩
    · intro x H' yl
      obtain ⟨ex, gx, rx, kx⟩ := w3 i xs[i] x H' (by simp [hlt]) yl
      have hd : xs.drop i = xs[i] :: xs.drop (i + 1) := List.drop_eq_getElem_cons hlt
      rw [hd] at q2
      have env' : EnvR X.K H' M2 (B.and D) (wipeD ρ vs) (wipe σ vs) := by
        refine EnvR.wipe (s0.env.mv s0.good.frok fun a o h n b => ?_) vs
        obtain ⟨h1, n1⟩ := e1 a o h n
        obtain ⟨h2, n2, b2⟩ := mv2 a o h1 n1 b
        exact ⟨kx _ _ h2, n2, b2⟩
      refine ⟨B.and D, wipeD ρ vs, M2, xs[i], _, gx, env', rx, q2, fun σ2 ρ2 er so q3 => ⟨wipe_same so hs, ?_⟩⟩
      have s2 : S0 Γ X noW (B.and D) σ2 H' ρ2 M2 noX := ⟨gx, er, xl_no fun _ _ z => z⟩
      refine mkT s2 q3 fun b H3 M3 e3 s3 q4 => ?_
      have hD3 : H3 D = some (.lst vacc) ∧ M3 D = none := e3 D _ (kx _ _ hD2) mD2
      have ra3 : Reps X.K H3 M3 (B.and D) acc vacc := (ra.ext g2 ex).ext gx e3
      have ext3 : Ext H1 M1 H3 M3 := (e2.trans ex).trans e3
      cases b with
      | true =>
        simp only [if_true] at q4 ⊢
        refine mkD s3 q4 fun y v H4 M4 e4 s4 r4 q5 => ?_
        have hD4 : H4 D = some (.lst vacc) ∧ M4 D = none := e4 D _ hD3.1 hD3.2
        have ra4 : Reps X.K H4 M4 (B.and D) acc vacc := ra3.ext s3.good e4
        refine ⟨vacc, hD4.1, ?_, M4, acc ++ [y], vacc ++ [v], hlt, upd_same, hD4.2, good_upd s4.good, ?_, ?_, ext_upd hD (ext3.trans e4), q5⟩
        · rw [← ra.length]; omega
        · exact (ra4.mv s4.good.frok mv_upd).append ⟨v, [], rfl, r4.mv s4.good.frok mv_upd, rfl⟩
        · rw [List.length_append, List.length_singleton]; omega
      | false =>
        simp only [Bool.false_eq_true, if_false] at q4 ⊢
        exact ⟨M3, acc, vacc, hlt, hD3.1, hD3.2, s3.good, ra3, by omega, ext3, q4⟩
  · have hi2 : i = xs.length := by omega
    subst hi2
    rw [List.drop_length] at q2
    refine .inl ⟨w2, ?_⟩
    have q2 : ∀ p, M2 p = none → Qd (.cell p) (M2.set p (.lst acc)) := q2
    have mvD : Mv H2 M2 (B.and D) H2 (M2.set D (.lst acc)) B := fun a o h n b => ⟨h, by rw [Mem.set_ne (fun z => b (.inr z))]; exact n, fun z => b (.inl z)⟩
    refine f (.cell D) (.ref D) H2 (M2.set D (.lst acc)) (fun a o h n => ?_) ⟨fun a b => ?_, fun a c e => ?_⟩ rfl (q2 D mD2)
    · obtain ⟨h1, n1⟩ := e1 a o h n
      obtain ⟨h2, n2⟩ := e2 a o h1 n1
      exact ⟨h2, by rw [Mem.set_ne (ne_of_none h1 hD)]; exact n2⟩
    · have ne : a ≠ D := fun z => nb (z ▸ b)
      exact ⟨by rw [Mem.set_ne ne]; exact (g2.bad a (.inl b)).1, (g2.bad a (.inl b)).2⟩
    · by_cases ha : a = D
      · subst ha
        rw [Mem.set_same] at e
        cases e
        exact ⟨vacc, hD2, Nat.le_trans la len, ra.mv g2.frok mvD⟩
      · rw [Mem.set_ne ha] at e
        have z := g2.cel a c e
        cases c with
        | lst xs =>
          obtain ⟨ws, e3, z3, r3⟩ := z
          exact ⟨ws, e3, z3, r3.mv g2.frok mvD⟩
end
end RF
namespace RF
open PySem PySem.Spec PyProof.Rows L2
theorem loc_relS {scope sc : Scope} {x : Str} {k : NameKind} (hk : k ≠ .free) (h : scope.names.lookup x = some k) : (relS scope sc).names.lookup x = some k := lookup_relS_keep hk h
section
variable {Γ : Cfg} {Φ : Nat → Spec} {X : Cx} {W : WX} {sc so : Scope} {Q : VK}
theorem locB_cases {x : Str} (h : locB so x = true) : so.names.lookup x = some .local ∨ so.names.lookup x = some .cell := by
  unfold locB at h
  split at h
  · exact .inl (by assumption)
  · exact .inr (by assumption)
  · cases h
theorem COk.blk (ok : COk Γ Φ X W sc so) (s : Shared) (H : Hp) (scope : Scope) (cl : List (Str × Addr)) (C : Addr) (fp : List Addr) : COk Γ Φ (X.blk s H scope (compEnvC scope cl C X.env) fp) noW (relS scope sc) scope where
  sc := by rw [← ok.sc]; rfl
  N := ok.N
  nd := ok.nd
  calm := ok.calm
  room := ok.room
  units := ok.units
  gd := ok.gd
  fns := ok.fns
  blt := ok.blt
  gls := ok.gls
  gts := ok.gts
  mth := ok.mth
  exc := ok.exc
  pass := fun σ pins H s e s' I c => passL pins σ H s e s' I c
  own := fun _ => PassesOwn.never
  st := fun x h => by
    rcases locB_cases h with h | h
    · exact ⟨.inl (loc_relS (by decide) h), .inr (loc_relS (by decide) h)⟩
    · exact ⟨.inr (loc_relS (by decide) h), .inl (by show (scope.names.lookup x == some .cell) = true; rw [h]; rfl)⟩
theorem COk.stok (ok : COk Γ Φ X W sc so) : StOk X Γ.N so := ⟨ok.N, ok.nd, ok.st⟩
theorem COk.gl (ok : COk Γ Φ X W sc so) {x : Str} (h : glB sc x = true) : Gl X x := by
  unfold glB at h
  show X.env.scope.names.lookup x = _
  rw [ok.sc]
  split at h
  · assumption
  · cases h
theorem COk.vis (ok : COk Γ Φ X W sc so) {x : Str} (h : visB sc x = true) : Vis X.env.scope x := by
  unfold visB at h
  rw [ok.sc]
  split at h
  · exact .inl (by assumption)
  · exact .inr (.inl (by assumption))
  · exact .inr (.inr (by assumption))
  · cases h
theorem plainN_1 {x : Str} (h : plainN x = true) : (x == ("__debug__" : Str)) = false ∧ (x == ("__classdict__" : Str)) = false := by
  unfold plainN at h
  simpa using h
theorem COk.bl (ok : COk Γ Φ X W sc so) {x y : Str} (h : bltB Γ sc x y = true) : x = y ∧ Gl X x ∧ X.mg x = none := by
  obtain ⟨h1, h2⟩ := and2 h
  obtain ⟨h2, h3⟩ := and2 h2
  exact ⟨of_decide_eq_true h1, ok.gl h2, ok.blt x (of_decide_eq_true h3)⟩
/-! ### calls -/
theorem callOk_run (ok : COk Γ Φ X W sc so) {f : Nat} {n : Nat} {x : Str} {e : Expr} {es : List Expr} {w : DEnv → Mem → XQ → QL → Prop} {p pos : Pos} (hb : callB Γ sc f n x = true) (ha : PA X (e :: es) (tL Γ X W n w)) (he : okHead e = true)
    (hpl : (backTo pos (starEach es X.env)).any (·.1) = false) : PE X (.Call (.Name x p) (e :: es) [] pos) (tD Γ X W fun ρ M Xd Qd => w ρ M Xd fun ds M1 => Φ f ds M1 Xd Qd) := by
  obtain ⟨h1, h⟩ := and2 hb
  obtain ⟨h2, h⟩ := and2 h
  obtain ⟨h3, h⟩ := and2 h
  obtain ⟨h4, h⟩ := and2 h
  cases q : Γ.fns[f]? with
  | none => rw [q] at h; cases h
  | some fi =>
    rw [q] at h
    obtain ⟨h5, h⟩ := and2 h
    obtain ⟨h6, h7⟩ := and2 h
    have hl := of_decide_eq_true h6
    have hps := of_decide_eq_true h7
    obtain ⟨fd, g1, g2, F, g4, _⟩ := ok.fns f fi q hl
    rw [of_decide_eq_true h5] at g1 g2 F
    refine PE.mono (pe_callG F ((ok.room h1).mono hl) ok.gd (ok.gl h2) g1 g2 g4 (fun σ => ok.pass σ) ha (plainN_1 h3).1 (star_of he) hpl) fun σ H Q hq => ?_
    obtain ⟨B, ρ, M, Xd, Qd, s, hw, f⟩ := hq
    refine mkL s hw fun ds vs H1 M1 e1 s1 r1 l1 q1 => ?_
    exact ⟨ds, M1, B, Xd, Qd, by rw [hps]; exact l1, r1, s1.good, q1, fun d v H' M' e' => f d v H' M' (e1.trans e'), fun xd C dd H' M' e' g' xr q => s1.xl.go h1 xd C dd H' M' e' g' xr q⟩
theorem candB_at {n : Nat} : ∀ {cs : List (Str × Nat)} {x : Str} {k : Nat}, candB Γ n cs = true → lookF cs x = some k → ∃ fi, Γ.fns[k]? = some fi ∧ fi.name = x ∧ fi.lvl ≤ Γ.lvl ∧ fi.ps.length = n
  | [], x, k, h, e => nomatch (show (none : Option Nat) = some k from e)
  | p :: r, x, k, h, e => by
    obtain ⟨h1, h2⟩ := Bool.and_eq_true_iff.mp (show ((match Γ.fns[p.2]? with | some fi => decide (fi.name = p.1) && (decide (fi.lvl ≤ Γ.lvl) && decide (fi.ps.length = n)) | none => false) && candB Γ n r) = true from h)
    have e : (if p.1 = x then some p.2 else lookF r x) = some k := e
    by_cases hx : p.1 = x
    · rw [if_pos hx] at e
      cases e
      cases q : Γ.fns[p.2]? with
      | none => rw [q] at h1; cases h1
      | some fi =>
        rw [q] at h1
        obtain ⟨h3, h4⟩ := Bool.and_eq_true_iff.mp h1
        obtain ⟨h4, h5⟩ := Bool.and_eq_true_iff.mp h4
        exact ⟨fi, rfl, (of_decide_eq_true h3).trans hx, of_decide_eq_true h4, of_decide_eq_true h5⟩
    · rw [if_neg hx] at e
      exact candB_at h2 e
/-- a call of a local name that holds a def -/
theorem callL_run (ok : COk Γ Φ X W sc so) (hc : Γ.calm = true) {i : Nat} {n : Nat} {x : Str} {e : Expr} {es : List Expr} {cs : List (Str × Nat)} {w : DEnv → Mem → XQ → QL → Prop} {p pos : Pos} (hv : varB Γ sc i x = true) (hcs : candB Γ n cs = true) (ha : PA X (e :: es) (tL Γ X W n w)) (he : okHead e = true)
    (hpl : (backTo pos (starEach es X.env)).any (·.1) = false) : PE X (.Call (.Name x p) (e :: es) [] pos) (tD Γ X W fun ρ M Xd Qd => withV (getD' ρ i) fun d => callC d cs fun k => w ρ M Xd fun ds M1 => Φ k ds M1 Xd Qd) := by
  obtain ⟨h1, h⟩ := Bool.and_eq_true_iff.mp hv
  obtain ⟨h2, h3⟩ := Bool.and_eq_true_iff.mp h
  obtain ⟨p1, p2⟩ := plainN_1 h3
  refine ⟨fun pins s σ H Q I h => ?_⟩
  obtain ⟨B, ρ, M, Xd, Qd, s0, hw, f⟩ := h
  cases hd : getD' ρ i with
  | none => rw [hd] at hw; exact hw.elim
  | some d =>
    rw [hd] at hw
    cases d <;> first | exact (show False from hw).elim | skip
    case fn y =>
      have hw : fnAt (lookF cs y) (fun k => w ρ M Xd fun ds M1 => Φ k ds M1 Xd Qd) := hw
      cases hk : lookF cs y with
      | none => rw [hk] at hw; exact hw.elim
      | some k =>
        rw [hk] at hw
        obtain ⟨fi, hf, rfl, hl, hps⟩ := candB_at hcs hk
        obtain ⟨v, hs, rv⟩ := s0.env.2 i _ hd
        have rv : v = .ref (He.ga X.K fi.name) := rv
        subst rv
        obtain ⟨fd, g1, g2, F, g4, _⟩ := ok.fns k fi hf hl
        refine wpAny_Call_Name_kw (thn ((pe_var (pos := p) (by rw [ok.N]; exact of_decide_eq_true h1) (ok.vis h2) p1 p2).run pins s σ H (fun v H1 => v = .ref (He.ga X.K fi.name) ∧ H1 = H) I ⟨_, hs, rfl, rfl⟩) fun u s1 ⟨v, H1, I1, r1, q1⟩ => ?_)
        obtain ⟨rfl, rfl⟩ := q1
        cases r1
        have hw : w ρ M Xd fun ds M1 => Φ k ds M1 Xd Qd := by
          have hw : fnAt (lookF cs fi.name) (fun k => w ρ M Xd fun ds M1 => Φ k ds M1 Xd Qd) := hw
          rw [hk] at hw
          exact hw
        have hL : tL Γ X W n w σ H1 (fun vs H2 => spOf X.K X.mg Γ.exs fi.ps.length (Φ k) vs H2 Q (WE W σ)) := mkL s0 hw fun ds vs H1 M1 e1 s1 r1 l1 q1 =>
          ⟨ds, M1, B, Xd, Qd, by rw [hps]; exact l1, r1, s1.good, q1, fun d v H' M' e' => f d v H' M' (e1.trans e'), fun xd C dd H' M' e' g' xr q => s1.xl.go hc xd C dd H' M' e' g' xr q⟩
        refine PySem.W.callWith_K (h₀ := X.base) I.ok.mod.kin g2 (thn (ha.run pos pins s1 σ _ _ I1 hL) fun us s2 ⟨vs, H2, I2, r, q⟩ => ⟨I2.kIn, ?_⟩) (star_of he) hpl
        exact run_fnG F ((ok.room hc).mono hl) ok.gd g4 (ok.pass σ) I2 r q
theorem permV_rel {vs : List V} {us : List Value} (r : Vals vs us) : ∀ {p : List Nat} {ws : List V}, permV vs p = some ws → ∃ zs, permV us p = some zs ∧ Vals ws zs
  | [], ws, h => by cases h; exact ⟨[], rfl, .nil⟩
  | i :: p, ws, h => by
    unfold permV at h
    cases e : vs[i]? with
    | none => rw [e] at h; cases h
    | some v =>
      rw [e] at h
      cases e2 : permV vs p with
      | none => rw [e2] at h; cases h
      | some ws' =>
        rw [e2] at h; cases h
        obtain ⟨u, hu, ru⟩ := r.get e
        obtain ⟨zs, hz, rz⟩ := permV_rel r e2
        refine ⟨u :: zs, ?_, .cons ru rz⟩
        unfold permV; rw [hu, hz]
theorem permD_rel {H : Hp} {M : Mem} {B : Bad} {K : PySem.W.Frag} {ds : List D} {vs : List V} (r : Reps K H M B ds vs) : ∀ {p : List Nat} {ws : List D}, permD ds p = some ws → ∃ zs, permV vs p = some zs ∧ Reps K H M B ws zs ∧ ws.length = p.length
  | [], ws, h => by cases h; exact ⟨[], rfl, rfl, rfl⟩
  | i :: p, ws, h => by
    unfold permD at h
    cases e : ds[i]? with
    | none => rw [e] at h; cases h
    | some v =>
      rw [e] at h
      cases e2 : permD ds p with
      | none => rw [e2] at h; cases h
      | some ws' =>
        rw [e2] at h; cases h
        obtain ⟨u, hu, ru⟩ := r.get e
        obtain ⟨zs, hz, rz, l⟩ := permD_rel r e2
        refine ⟨u :: zs, ?_, ⟨u, zs, rfl, ru, rz⟩, by simp [l]⟩
        unfold permV; rw [hu, hz]
theorem kw_all {pos : Pos} {env : Env} {sc : Scope} : ∀ {ks : List Str} {cs : List CE} {kws : List Keyword}, mKs Γ sc ks cs kws = true → (backToKw pos (keywordEach kws env)).all (·.1.isSome) = true ∧ (backToKw pos (keywordEach kws env)).filterMap (·.1) = ks ∧ (backToKw pos (keywordEach kws env)).any (·.1.isNone) = false
  | [], [], [], _ => ⟨rfl, rfl, rfl⟩
  | k :: ks, c :: cs, ⟨n, e, p⟩ :: es, h => by
    obtain ⟨h1, h2⟩ := and2 (show (decide (n = some k) && (mE Γ .v sc c e && mKs Γ sc ks cs es)) = true from h)
    obtain ⟨h2, h3⟩ := and2 h2
    have e1 := of_decide_eq_true h1
    subst e1
    obtain ⟨i1, i2, i3⟩ := kw_all (pos := pos) (env := env) h3
    refine ⟨?_, ?_, ?_⟩
    · show (true && (backToKw pos (keywordEach es env)).all (·.1.isSome)) = true
      rw [i1]; rfl
    · show k :: (backToKw pos (keywordEach es env)).filterMap (·.1) = _
      rw [i2]
    · show (false || (backToKw pos (keywordEach es env)).any (·.1.isNone)) = false
      rw [i3]; rfl
  | [], [], _ :: _, h => absurd h Bool.false_ne_true
  | [], _ :: _, _, h => absurd h Bool.false_ne_true
  | _ :: _, [], _, h => absurd h Bool.false_ne_true
  | _ :: _, _ :: _, [], h => absurd h Bool.false_ne_true
theorem mKs_len {sc : Scope} : ∀ {ks : List Str} {cs : List CE} {kws : List Keyword}, mKs Γ sc ks cs kws = true → cs.length = ks.length
  | [], [], [], _ => rfl
  | k :: ks, c :: cs, ⟨n, e, p⟩ :: es, h => by
    obtain ⟨h1, h2⟩ := and2 (show (decide (n = some k) && (mE Γ .v sc c e && mKs Γ sc ks cs es)) = true from h)
    obtain ⟨h2, h3⟩ := and2 h2
    simp [mKs_len h3]
  | [], [], _ :: _, h => absurd h Bool.false_ne_true
  | [], _ :: _, _, h => absurd h Bool.false_ne_true
  | _ :: _, [], _, h => absurd h Bool.false_ne_true
  | _ :: _, _ :: _, [], h => absurd h Bool.false_ne_true
/-- the reading of a call with keywords -/
def tCKW (sp : Sp) (E : SV → XK) (perm : List Nat) (n m : Nat) (t tk : TA) : TE := fun σ H Q => t σ H fun vs H1 => vs.length = n ∧ tk σ H1 fun zs H2 => zs.length = m ∧ ∃ ws, permV zs perm = some ws ∧ sp (vs ++ ws) H2 Q (E σ)
theorem pe_callKW {k : Nat} {f : Addr} {fd : FuncData} {ps : List Str} {sp : Sp} {E : SV → XK} {x : Str} {p pos : Pos} {es : List Expr} {kws : List Keyword} {kw : KW} {t tk : TA} (F : FnG X.prog X.w X.K X.mg X.base (L2.CX X.prog X.w) k f fd ps sp) (hr : Room k X.A) (hgd : X.A.guards = some []) (hg : Gl X x) (hm : X.mg x = some (.ref f)) (hk : PySem.W.keepIn X.K (.ref f) = true)
    (hb : KB X.K fd ps kw) (hx : ∀ σ, PassesAt (L2.CX X.prog X.w) X σ (E σ)) (ha : PA X es t) (hkw : PK X kws tk) (hall : (backToKw pos (keywordEach kws X.env)).all (·.1.isSome) = true) (hks : (backToKw pos (keywordEach kws X.env)).filterMap (·.1) = kw.ks)
    (hdb : (x == ("__debug__" : Str)) = false) (he : (es = [] ∧ ∀ σ H R, t σ H R → R [] H) ∨ ∃ e r, es = e :: r ∧ okHead e = true)
    (hpl : ((backTo pos (starEach es X.env)).any (·.1) || (backToKw pos (keywordEach kws X.env)).any (·.1.isNone)) = false) :
    PE X (.Call (.Name x p) es kws pos) (tCKW sp E kw.perm kw.n kw.ks.length t tk) := by
  refine ⟨fun pins s σ H Q I h => ?_⟩
  refine wpAny_Call_Name_kw (ld_glob I hg hm ?_ hdb)
  have fin : ∀ us s1 vs H1, Inv X pins σ H1 s1 → Vals vs us → vs.length = kw.n → (tk σ H1 fun zs H2 => zs.length = kw.ks.length ∧ ∃ ws, permV zs kw.perm = some ws ∧ sp (vs ++ ws) H2 Q (E σ)) →
      wpAny (model X.prog X.w) X.A (evalAll ((backToKw pos (keywordEach kws X.env)).map (·.2))) (fun ks s₂ => X.K.In s₂.heap ∧ wpAny (model X.prog X.w) X.A (call (.ref f) us (((backToKw pos (keywordEach kws X.env)).filterMap (·.1)).zip ks)) (EP X pins σ Q) X.xe s₂) X.xe s1 := by
    intro us s1 vs H1 I1 r hn q
    refine thn (hkw.run pos pins s1 σ H1 _ I1 q) fun ws s2 ⟨zs, H2, I2, rz, hz, ys, hy, q2⟩ => ⟨I2.kIn, ?_⟩
    rw [hks]
    obtain ⟨yu, hyu, ry⟩ := permV_rel rz hy
    have r2 : Vals (vs ++ ys) (us ++ yu) := r.append ry
    have hl : (us ++ yu).length = ps.length := by rw [← r2.length]; exact F.len _ _ _ _ q2
    refine wpAny_call (codeAny_mono (F.run X.A X.stack s2 H2 ⟨us, kw.ks.zip ws⟩ (us ++ yu) (vs ++ ys) Q (E σ) hr hgd I2.env0 (hb s2 us ws yu I2.kIn (by rw [← r.length]; exact hn) (by rw [← rz.length]; exact hz) hyu hl) r2 q2) fun r s' hq => ?_)
    cases r with
    | error e => exact hx σ pins H2 s2 e s' I2 hq
    | ok fl =>
      cases fl with
      | ret u => exact I2.after hq
      | next => exact False.elim hq
      | brk => exact False.elim hq
      | cont => exact False.elim hq
  rcases he with ⟨rfl, hnil⟩ | ⟨e, r, rfl, he⟩
  · refine PySem.W.callWith_KW0 (h₀ := X.base) I.ok.mod.kin hk hall ?_ (by simpa using hpl)
    obtain ⟨hn, q⟩ := hnil _ _ _ h
    exact fin [] s [] H I .nil hn q
  · refine PySem.W.callWith_KW (h₀ := X.base) I.ok.mod.kin hk hall (thn (ha.run pos pins s σ H _ I h) fun us s1 ⟨vs, H1, I1, r, hn, q⟩ => ?_) hpl (star_of he)
    exact fin us s1 vs H1 I1 r hn q
theorem callK_run (ok : COk Γ Φ X W sc so) {f : Nat} {n : Nat} {ks : List Str} {kes : List CE} {perm : List Nat} {x : Str} {es : List Expr} {kws : List Keyword} {w wk : DEnv → Mem → XQ → QL → Prop} {p pos : Pos} (hb : callKB Γ sc f n ks perm x = true) (ha : PA X es (tL Γ X W n w)) (hkw : PK X kws (tL Γ X W ks.length wk)) (hm : mKs Γ sc ks kes kws = true)
    (he : (es = [] ∧ ∀ ρ M Xd Qd, w ρ M Xd Qd → n = 0 ∧ Qd [] M) ∨ ∃ e r, es = e :: r ∧ okHead e = true) (hpl : (backTo pos (starEach es X.env)).any (·.1) = false) : PE X (.Call (.Name x p) es kws pos) (tD Γ X W fun ρ M Xd Qd => w ρ M Xd fun ds M1 => wk ρ M1 Xd fun zs M2 => permP (permD zs perm) fun ws => Φ f (ds ++ ws) M2 Xd Qd) := by
  obtain ⟨h1, h⟩ := and2 hb
  obtain ⟨h2, h⟩ := and2 h
  obtain ⟨h3, h⟩ := and2 h
  obtain ⟨h4, h⟩ := and2 h
  obtain ⟨h4', h⟩ := and2 h
  cases q : Γ.fns[f]? with
  | none => rw [q] at h; cases h
  | some fi =>
    rw [q] at h
    obtain ⟨h5, h⟩ := and2 h
    obtain ⟨h6, h7⟩ := and2 h
    have hl := of_decide_eq_true h6
    have hps := of_decide_eq_true h7
    obtain ⟨fd, g1, g2, F, g4, g5⟩ := ok.fns f fi q hl
    rw [of_decide_eq_true h5] at g1 g2 F
    obtain ⟨k1, k2, k3⟩ := kw_all (pos := pos) (env := X.env) hm
    refine PE.mono (pe_callKW (kw := ⟨f, n, ks, perm⟩) F ((ok.room h1).mono hl) ok.gd (ok.gl h2) g1 g2 (g5 _ (of_decide_eq_true h4') q) (fun σ => ok.pass σ) ha hkw k1 k2 (plainN_1 h3).1 (he.imp (fun ⟨e0, z⟩ => ⟨e0, fun σ H R ⟨B, ρ, M, Xd, Qd, s, hw, k⟩ => by
      obtain ⟨n0, q0⟩ := z _ _ _ _ hw
      exact k [] [] H M (Ext.refl _ _) s.good rfl n0.symm q0⟩) id) (by rw [hpl, k3]; rfl)) fun σ H Q hq => ?_
    obtain ⟨B, ρ, M, Xd, Qd, s, hw, f⟩ := hq
    refine mkL s hw fun ds vs H1 M1 e1 s1 r1 l1 q1 => ⟨by rw [← r1.length]; exact l1, mkL s1 q1 fun zs ws H2 M2 e2 s2 r2 l2 q2 => ⟨by rw [← r2.length]; exact l2, ?_⟩⟩
    cases e : permD zs perm with
    | none => rw [e] at q2; exact (show False from q2).elim
    | some ys =>
      rw [e] at q2
      obtain ⟨yv, hy, ry, ly⟩ := permD_rel r2 e
      refine ⟨yv, hy, ds ++ ys, M2, B, Xd, Qd, by rw [hps, List.length_append, l1, ly], (r1.ext s1.good e2).append ry, s2.good, q2, fun d v H' M' e' => f d v H' M' ((e1.trans e2).trans e'), fun xd C dd H' M' e' g' xr q => s2.xl.go h1 xd C dd H' M' e' g' xr q⟩
end
end RF
namespace RF
open PySem PySem.Spec PyProof.Rows L2
section
variable {Γ : Cfg} {Φ : Nat → Spec} {X : Cx} {W : WX} {sc so : Scope} {Q : VK} {B : Bad} {σ : SV} {H H1 : Hp} {ρ : DEnv} {M M1 : Mem} {Xd : XQ} {Qd : QD} {K : PySem.W.Frag}
theorem withV_some {o : Option D} {k : D → Prop} (h : withV o k) : ∃ d, o = some d ∧ k d := by
  cases o with
  | none => exact h.elim
  | some d => exact ⟨d, rfl, h⟩
theorem flat_rep {d : D} {v : V} (e : flatD d = some v) : Rep K H M B d v := by
  cases d <;> first | (cases e; done) | (cases e; exact rfl)
theorem op2_ok (op : Operator) : OpR X (binaryOp op) (R2D X (bopD op)) := by
  intro pins s σ H vx vy v u Q I rx ry h
  obtain ⟨x, y, M, B, Qd, g, hx, hy, q, f⟩ := h
  exact bop_ok op pins s σ H x y vx vy v u M B Qd Q I rx ry g hx hy q f
def R2C (X : Cx) (r : D → D → Mem → (Bool → Prop) → Prop) : R2 := fun vx vy H Q => ∃ (x y : D) (M : Mem) (B : Bad) (k : Bool → Prop), Good X.K H M B ∧ Rep X.K H M B x vx ∧ Rep X.K H M B y vy ∧ r x y M k ∧ ∀ c, k c → Q (.bl c) H
theorem cmp2_ok (hu : X.A.units + 65 < cLine) (op : CmpOp) : OpR X (compareOp op) (R2C X (cmpD op)) := by
  intro pins s σ H vx vy v u Q I rx ry h
  obtain ⟨x, y, M, B, k, g, hx, hy, q, f⟩ := h
  exact cmp_ok hu op pins s σ H x y vx vy v u M B k Q I rx ry g hx hy q f
/-- a test by truth -/
theorem pt_tru {e : Expr} {w : DEnv → Mem → XQ → QD → Prop} (he : PE X e (tD Γ X W w)) (hi : ∀ whole, isTrue e X.env whole = (do let v ← whole; standAt e.pos; holding [v] (truthy v))) : PT X e (tT Γ X W fun ρ M Xd Qb => w ρ M Xd fun d M1 => truD d fun k => Qb k M1) := by
  refine PT.mono (pt_truth he hi) fun σ H Q h => ?_
  obtain ⟨B, ρ, M, Xd, Qb, s, hw, f⟩ := h
  refine mkD s hw fun d v H1 M1 e1 s1 r1 q1 => ?_
  obtain ⟨b, hb, q⟩ := tru_D s1.good r1 q1
  exact ⟨b, hb, f b H1 M1 e1 s1.good q⟩
theorem tr_name {x : Str} {pos : Pos} {env : Env} : ∀ whole, isTrue (.Name x pos) env whole = (do let v ← whole; standAt (Expr.pos (.Name x pos)); holding [v] (truthy v)) := fun _ => rfl
theorem lastM {op op' : CmpOp} {b c : Expr} (h : noMark op' c = true) : lastMarks [op, op'] [b, c] = false := by
  show behindInMarks op' c = false
  unfold noMark at h
  simpa using h
theorem noM {op : CmpOp} {b : Expr} (h : noMark op b = true) : behindInMarks op b = false := by
  unfold noMark at h
  simpa using h
theorem bi_boot : ∀ b : Bi, (∃ n, b.ar = some n) → (∀ t, b ≠ .isI t) → bootBuiltins b.nm = some b.val := by
  intro b h ni
  cases b <;> first | (obtain ⟨n, h⟩ := h; cases h; done) | (exact (ni _ rfl).elim) | decide +kernel
/-- a built-in's call -/
theorem bi_run {b : Bi} (ok : COk Γ Φ X W sc so) (hcal : Γ.calm = true ∨ b = .len) {n : Nat} {x : Str} {e : Expr} {es : List Expr} {w : DEnv → Mem → XQ → QL → Prop} {p pos : Pos} (hb : bltB Γ sc x b.nm = true) (har : b.ar = some n) (ni : ∀ t, b ≠ .isI t) (ha : PA X (e :: es) (tL Γ X W n w)) (he : okHead e = true)
    (hpl : (backTo pos (starEach es X.env)).any (·.1) = false) : PE X (.Call (.Name x p) (e :: es) [] pos) (tD Γ X W fun ρ M Xd Qd => w ρ M Xd fun ds M1 => biD b ds M1 Qd) := by
  obtain ⟨rfl, g1, g2⟩ := ok.bl hb
  have hc : b ≠ .len → X.calm = true := fun nb => hcal.elim ok.calm fun z => absurd z nb
  have hv := bi_boot b ⟨n, har⟩ ni
  have read : ∀ σ H Q, tD Γ X W (fun ρ M Xd Qd => w ρ M Xd fun ds M1 => biD b ds M1 Qd) σ H Q → tCB (RBi X b) (tL Γ X W n w) σ H Q := fun σ H Q h => by
    obtain ⟨B, ρ, M, Xd, Qd, s, hw, f⟩ := h
    exact mkL s hw fun ds vs H1 M1 e1 s1 r1 l1 q => ⟨ds, M1, B, Qd, s1.good, r1, q, f.step e1⟩
  have n1 : b.nm ≠ "__name__" := by cases b <;> first | decide | (show ("isinstance" : Str) ≠ "__name__"; decide)
  have n2 : (b.nm == ("__debug__" : Str)) = false := by cases b <;> first | decide | (show (("isinstance" : Str) == ("__debug__" : Str)) = false; decide)
  cases b <;> first | (cases har; done) | skip
  case len => exact PE.mono (pe_callB bi_len g1 g2 hv ha n1 n2 (star_of he) hpl) read
  case isI t => exact (ni t rfl).elim
  case int1 => exact PE.mono (pe_callTy bi_int1 g1 g2 hv ha n1 n2 (star_of he) hpl) read
  case abs => exact PE.mono (pe_callB bi_abs g1 g2 hv ha n1 n2 (star_of he) hpl) read
  case max2 => exact PE.mono (pe_callB (bi_max2 (hc (fun z => nomatch z))) g1 g2 hv ha n1 n2 (star_of he) hpl) read
  case min2 => exact PE.mono (pe_callB (bi_min2 (hc (fun z => nomatch z))) g1 g2 hv ha n1 n2 (star_of he) hpl) read
  case max1 => exact PE.mono (pe_callB (bi_max1 (hc (fun z => nomatch z))) g1 g2 hv ha n1 n2 (star_of he) hpl) read
  case min1 => exact PE.mono (pe_callB (bi_min1 (hc (fun z => nomatch z))) g1 g2 hv ha n1 n2 (star_of he) hpl) read
  case divmod => exact PE.mono (pe_callB bi_divmod g1 g2 hv ha n1 n2 (star_of he) hpl) read
  case tupleOf => exact PE.mono (pe_callTy bi_tupleOf g1 g2 hv ha n1 n2 (star_of he) hpl) read
  case listOf => exact PE.mono (pe_callTy bi_listOf g1 g2 hv ha n1 n2 (star_of he) hpl) read
  case rangeV => exact PE.mono (pe_callTy bi_rangeV g1 g2 hv ha n1 n2 (star_of he) hpl) read
  case sorted => exact PE.mono (pe_callB bi_sorted g1 g2 hv ha n1 n2 (star_of he) hpl) read
  case repr => exact PE.mono (pe_callB (bi_repr ok.units ok.gd) g1 g2 hv ha n1 n2 (star_of he) hpl) read
  case sum => exact PE.mono (pe_callB (bi_sum (hc (fun z => nomatch z))) g1 g2 hv ha n1 n2 (star_of he) hpl) read
  case all => exact PE.mono (pe_callB (bi_all (hc (fun z => nomatch z))) g1 g2 hv ha n1 n2 (star_of he) hpl) read
  case any => exact PE.mono (pe_callB (bi_any (hc (fun z => nomatch z))) g1 g2 hv ha n1 n2 (star_of he) hpl) read
theorem bt_boot (t : BT) : bootBuiltins (Str.ofString t.nm) = some (.type t.nm) := by cases t <;> decide +kernel
theorem isI_run (ok : COk Γ Φ X W sc so) {t : BT} {x y : Str} {a : Expr} {w : DEnv → Mem → XQ → QD → Prop} {p p2 pos : Pos} (hb : bltB Γ sc x "isinstance" = true) (hb2 : bltB Γ sc y (Str.ofString t.nm) = true) (ha : PE X a (tD Γ X W w)) (he : okHead a = true) :
    PE X (.Call (.Name x p) [a, .Name y p2] [] pos) (tD Γ X W fun ρ M Xd Qd => w ρ M Xd fun d M1 => biD (.isI t) [d] M1 Qd) := by
  obtain ⟨rfl, g1, g2⟩ := ok.bl hb
  obtain ⟨rfl, g3, g4⟩ := ok.bl hb2
  have n3 : (Str.ofString t.nm) ≠ "__name__" := by cases t <;> decide
  have n4 : ((Str.ofString t.nm) == ("__debug__" : Str)) = false := by cases t <;> decide
  have e0 : starEach [a, .Name (Str.ofString t.nm) p2] X.env = (false, eval a X.env) :: starEach [.Name (Str.ofString t.nm) p2] X.env := star_of he
  refine PE.mono (pe_callB call_isi g1 g2 (by decide +kernel) (pa_cons ha (pa_cons (pe_bltn g3 g4 (bt_boot t) (v := .ty t.nm) rfl n3 n4) pa_nil) e0) (by decide) (by decide) e0 rfl) fun σ H Q h => ?_
  obtain ⟨B, ρ, M, Xd, Qd, s, hw, f⟩ := h
  refine mkD s hw fun d v H1 M1 e1 s1 r1 q => ?_
  have nc : ∀ a, d ≠ .cell a := fun a z => by subst z; exact q
  have nf : ∀ a, d ≠ .fn a := fun a z => by subst z; exact q
  have nr : ∀ a b, d ≠ .rng a b := fun a b z => by subst z; exact q
  have q : Qd (.bl (isB d t)) M1 := by
    cases d <;> first | exact q | exact (show False from q).elim
  obtain ⟨ty, h1, h2⟩ := isB_ok s1.good r1 nc nf nr
  exact ⟨v, .ty t.nm, .type ty, .type t.nm, isB d t, rfl, .ty _, h1, h2 t, (f.step e1).here s1.good (d := .bl _) rfl q⟩
theorem rgV_rep (a b : Int) : Reps K H M B (rngD a b) (rgV a b) := by
  unfold rngD rgV
  generalize List.range (b - a).toNat = l
  induction l with
  | nil => rfl
  | cons i r ih => exact ⟨_, _, rfl, rfl, ih⟩
theorem rngOk.ok {a b : Int} (h : rngOk a b) : RgOk a b := ⟨h.1, h.2.1, h.2.2.1, h.2.2.2.1, by have := h.2.2.2.2; rw [sizeLine_eq] at this; exact this⟩
theorem rg1_run (ok : COk Γ Φ X W sc so) (hcal : Γ.calm = true) {x y : Str} {a : Expr} {w : DEnv → Mem → XQ → QD → Prop} {p p2 pos pos2 : Pos} (hb : bltB Γ sc x "list" = true) (hb2 : bltB Γ sc y "range" = true) (ha : PE X a (tD Γ X W w)) (he : okHead a = true) :
    PE X (.Call (.Name x p) [.Call (.Name y p2) [a] [] pos2] [] pos) (tD Γ X W fun ρ M Xd Qd => w ρ M Xd fun d M1 => biD .listRg [d] M1 Qd) := by
  obtain ⟨rfl, g1, g2⟩ := ok.bl hb
  obtain ⟨rfl, g3, g4⟩ := ok.bl hb2
  refine PE.mono (pe_listRg (ok.calm hcal) g1 g2 (prg_1 g3 g4 ha (star_of he)) rfl) fun σ H Q h => ?_
  obtain ⟨B, ρ, M, Xd, Qd, s, hw, f⟩ := h
  refine mkD s hw fun d v H1 M1 e1 s1 r1 q => ?_
  cases d <;> first | exact (show False from q).elim | skip
  case int b =>
    obtain rfl := r1
    obtain ⟨c, q⟩ := q
    exact ⟨_, rfl, c.ok, fun p hp => (f.step e1).lst s1.good hp (rgV_rep _ _) (by rw [rngD_len]; exact c.2.2.2.2) q⟩
theorem rg2_run (ok : COk Γ Φ X W sc so) (hcal : Γ.calm = true) {x y : Str} {a b : Expr} {w w2 : DEnv → Mem → XQ → QD → Prop} {p p2 pos pos2 : Pos} (hb : bltB Γ sc x "list" = true) (hb2 : bltB Γ sc y "range" = true) (ha : PE X a (tD Γ X W w)) (hbb : PE X b (tD Γ X W w2)) (he : okHead a = true) (he2 : okHead b = true) :
    PE X (.Call (.Name x p) [.Call (.Name y p2) [a, b] [] pos2] [] pos) (tD Γ X W fun ρ M Xd Qd => w ρ M Xd fun d M1 => w2 ρ M1 Xd fun d2 M2 => biD .listRg [d, d2] M2 Qd) := by
  obtain ⟨rfl, g1, g2⟩ := ok.bl hb
  obtain ⟨rfl, g3, g4⟩ := ok.bl hb2
  refine PE.mono (pe_listRg (ok.calm hcal) g1 g2 (prg_2 g3 g4 ha hbb (star_of he) (star_of he2) (by rw [star_of he2]; rfl)) rfl) fun σ H Q h => ?_
  obtain ⟨B, ρ, M, Xd, Qd, s, hw, f⟩ := h
  refine mkD s hw fun d v H1 M1 e1 s1 r1 q => mkD s1 q fun d2 v2 H2 M2 e2 s2 r2 q => ?_
  cases d <;> cases d2 <;> first | exact (show False from q).elim | skip
  case int.int a b =>
    have r1' : v = .int _ := r1
    obtain rfl := r1'
    obtain rfl := r2
    obtain ⟨c, q⟩ := q
    exact ⟨_, _, rfl, rfl, c.ok, fun p hp => (f.step (e1.trans e2)).lst s2.good hp (rgV_rep _ _) (by rw [rngD_len]; exact c.2.2.2.2) q⟩
theorem trg2_run (ok : COk Γ Φ X W sc so) (hcal : Γ.calm = true) {x y : Str} {a b : Expr} {w w2 : DEnv → Mem → XQ → QD → Prop} {p p2 pos pos2 : Pos} (hb : bltB Γ sc x "tuple" = true) (hb2 : bltB Γ sc y "range" = true) (ha : PE X a (tD Γ X W w)) (hbb : PE X b (tD Γ X W w2)) (he : okHead a = true) (he2 : okHead b = true) :
    PE X (.Call (.Name x p) [.Call (.Name y p2) [a, b] [] pos2] [] pos) (tD Γ X W fun ρ M Xd Qd => w ρ M Xd fun d M1 => w2 ρ M1 Xd fun d2 M2 => biD .tupleRg [d, d2] M2 Qd) := by
  obtain ⟨rfl, g1, g2⟩ := ok.bl hb
  obtain ⟨rfl, g3, g4⟩ := ok.bl hb2
  refine PE.mono (pe_tupRg (ok.calm hcal) g1 g2 (prg_2 g3 g4 ha hbb (star_of he) (star_of he2) (by rw [star_of he2]; rfl)) rfl) fun σ H Q h => ?_
  obtain ⟨B, ρ, M, Xd, Qd, s, hw, f⟩ := h
  refine mkD s hw fun d v H1 M1 e1 s1 r1 q => mkD s1 q fun d2 v2 H2 M2 e2 s2 r2 q => ?_
  cases d <;> cases d2 <;> first | exact (show False from q).elim | skip
  case int.int a b =>
    have r1' : v = .int _ := r1
    obtain rfl := r1'
    obtain rfl := r2
    obtain ⟨c, q⟩ := q
    exact ⟨_, _, rfl, rfl, c.ok, fun p hp => (f.step (e1.trans e2)).tup s2.good hp (rgV_rep _ _) (by rw [rngD_len]; exact c.2.2.2.2) q⟩
theorem trg1_run (ok : COk Γ Φ X W sc so) (hcal : Γ.calm = true) {x y : Str} {a : Expr} {w : DEnv → Mem → XQ → QD → Prop} {p p2 pos pos2 : Pos} (hb : bltB Γ sc x "tuple" = true) (hb2 : bltB Γ sc y "range" = true) (ha : PE X a (tD Γ X W w)) (he : okHead a = true) :
    PE X (.Call (.Name x p) [.Call (.Name y p2) [a] [] pos2] [] pos) (tD Γ X W fun ρ M Xd Qd => w ρ M Xd fun d M1 => biD .tupleRg [d] M1 Qd) := by
  obtain ⟨rfl, g1, g2⟩ := ok.bl hb
  obtain ⟨rfl, g3, g4⟩ := ok.bl hb2
  refine PE.mono (pe_tupRg (ok.calm hcal) g1 g2 (prg_1 g3 g4 ha (star_of he)) rfl) fun σ H Q h => ?_
  obtain ⟨B, ρ, M, Xd, Qd, s, hw, f⟩ := h
  refine mkD s hw fun d v H1 M1 e1 s1 r1 q => ?_
  cases d <;> first | exact (show False from q).elim | skip
  case int b =>
    obtain rfl := r1
    obtain ⟨c, q⟩ := q
    exact ⟨_, rfl, c.ok, fun p hp => (f.step e1).tup s1.good hp (rgV_rep _ _) (by rw [rngD_len]; exact c.2.2.2.2) q⟩
theorem isI2_run (ok : COk Γ Φ X W sc so) {t u : BT} {x y z : Str} {a : Expr} {w : DEnv → Mem → XQ → QD → Prop} {p p2 p3 p4 pos : Pos} {k : Nat} (hb : bltB Γ sc x "isinstance" = true) (hb2 : bltB Γ sc y (Str.ofString t.nm) = true) (hb3 : bltB Γ sc z (Str.ofString u.nm) = true) (ha : PE X a (tD Γ X W w)) (he : okHead a = true) :
    PE X (.Call (.Name x p) [a, .Tuple [.Name y p2, .Name z p3] k p4] [] pos) (tD Γ X W fun ρ M Xd Qd => w ρ M Xd fun d M1 => biD (.isI2 t u) [d] M1 Qd) := by
  obtain ⟨rfl, g1, g2⟩ := ok.bl hb
  obtain ⟨rfl, g3, g4⟩ := ok.bl hb2
  obtain ⟨rfl, g5, g6⟩ := ok.bl hb3
  have n3 : ∀ t : BT, (Str.ofString t.nm) ≠ "__name__" := fun t => by cases t <;> decide
  have n4 : ∀ t : BT, ((Str.ofString t.nm) == ("__debug__" : Str)) = false := fun t => by cases t <;> decide
  have e0 : starEach [a, .Tuple [.Name (Str.ofString t.nm) p2, .Name (Str.ofString u.nm) p3] k p4] X.env = (false, eval a X.env) :: starEach [.Tuple [.Name (Str.ofString t.nm) p2, .Name (Str.ofString u.nm) p3] k p4] X.env := star_of he
  refine PE.mono (pe_callB call_isiT g1 g2 (by decide +kernel) (pa_cons ha (pa_cons (pe_tup (pa_cons (pe_bltn g3 g4 (bt_boot t) (v := .ty t.nm) rfl (n3 t) (n4 t)) (pa_cons (pe_bltn g5 g6 (bt_boot u) (v := .ty u.nm) rfl (n3 u) (n4 u)) pa_nil))) pa_nil) e0) (by decide) (by decide) e0 rfl) fun σ H Q h => ?_
  obtain ⟨B, ρ, M, Xd, Qd, s, hw, f⟩ := h
  refine mkD s hw fun d v H1 M1 e1 s1 r1 q => ?_
  have nc : ∀ a, d ≠ .cell a := fun a z => by subst z; exact q
  have nf : ∀ a, d ≠ .fn a := fun a z => by subst z; exact q
  have nr : ∀ a b, d ≠ .rng a b := fun a b z => by subst z; exact q
  have q : Qd (.bl (isB d t || isB d u)) M1 := by
    cases d <;> first | exact q | exact (show False from q).elim
  refine ⟨by rw [sizeLine_eq]; show 2 ≤ _; decide, fun tp htp => ?_⟩
  have en := Ext.new (o := .tup [.ty t.nm, .ty u.nm]) s1.good htp
  have gn := s1.good.new (o := .tup [.ty t.nm, .ty u.nm]) htp
  have rn := r1.ext s1.good en
  obtain ⟨ty, h1, h2⟩ := isB_ok gn rn nc nf nr
  refine ⟨v, tp, [.ty t.nm, .ty u.nm], .type ty, [.type t.nm, .type u.nm], _, rfl, upd_same, .cons (.ty _) (.cons (.ty _) .nil), h1, kitAny_cons (h2 t) (fun hf => kitAny_cons (h2 u) (fun hg => ?_) fun hg => ?_) fun hf => ?_, ((f.step e1).step en).here gn (d := .bl _) rfl q⟩
  · rw [kitAny_nil, hf, hg]; rfl
  · rw [hf, hg]; rfl
  · rw [hf]; rfl
theorem sup_base {a : Expr} {f : Str} {env : Env} (h : noSup a = true) : attributeBase a f env (eval a env) = eval a env := by
  cases a <;> first | rfl | skip
  case Call fn es ks p =>
    cases fn <;> first | rfl | skip
    case Name x q =>
      cases es <;> cases ks <;> first | rfl | cases h
theorem bits_run {a : Expr} {w : DEnv → Mem → XQ → QD → Prop} {ap cp : Pos} (hs : noSup a = true) (hl : (ap.endLine == cp.line) = true) (ha : PE X a (tD Γ X W w)) : PE X (.Call (.Attribute a "bit_length" ap) [] [] cp) (tD Γ X W fun ρ M Xd Qd => w ρ M Xd fun x M1 => bitsD x fun d => Qd d M1) := by
  refine PE.mono (pe_bits ha (sup_base hs) hl) fun σ H Q h => ?_
  obtain ⟨B, ρ, M, Xd, Qd, s, hw, f⟩ := h
  refine mkD s hw fun d v H1 M1 e1 s1 r1 q => ?_
  cases d <;> first | exact (show False from q).elim | skip
  case int i =>
    obtain rfl := r1
    exact ⟨i, rfl, (f.step e1).here s1.good (d := .int _) rfl q⟩
def RLv (X : Cx) : List V → Hp → VK → Prop := fun xs H Q => ∃ ds M B Qd, Good X.K H M B ∧ Reps X.K H M B ds xs ∧ biD .listOf ds M (fun d M1 => liveD d M1 Qd) ∧ Fol X H M B Qd Q
theorem bi_listL : CallR X (.type "list") (RLv X) := by
  intro pins s σ H xs us Q I r h
  obtain ⟨ds, M, B, Qd, g, rd, hb, f⟩ := h
  unfold biD at hb
  split at hb <;> first | (rename_i hh; cases hh; done) | skip
  all_goals first | exact hb.elim | skip
  · obtain ⟨v, rfl, rv⟩ := reps1 rd
    obtain ⟨a, vs, rfl, h1, z, r1⟩ := lstF rv
    exact call_list_of pins s σ H _ us Q I r ⟨a, vs, rfl, .inl (SqL.of h1), fun p hp => f (.cell p) (.ref p) _ _ (Ext.newC hp) (g.newC hp r1 z) rfl (hb p (g.none_of hp).1)⟩
  · obtain ⟨v, rfl, rv⟩ := reps1 rd
    obtain ⟨a, vs, rfl, h1, z, r1⟩ := tupF rv
    exact call_list_of pins s σ H _ us Q I r ⟨a, vs, rfl, .inr h1, fun p hp => f (.cell p) (.ref p) _ _ (Ext.newC hp) (g.newC hp r1 z) rfl (hb p (g.none_of hp).1)⟩
theorem listL_run (ok : COk Γ Φ X W sc so) {n : Nat} {x : Str} {e : Expr} {es : List Expr} {w : DEnv → Mem → XQ → QL → Prop} {p pos : Pos} (hb : bltB Γ sc x "list" = true) (ha : PA X (e :: es) (tL Γ X W n w)) (he : okHead e = true)
    (hpl : (backTo pos (starEach es X.env)).any (·.1) = false) : PE X (.Call (.Name x p) (e :: es) [] pos) (tD Γ X W fun ρ M Xd Qd => w ρ M Xd fun ds M1 => biD .listOf ds M1 fun d M2 => liveD d M2 Qd) := by
  obtain ⟨rfl, g1, g2⟩ := ok.bl hb
  refine PE.mono (pe_callTy bi_listL g1 g2 (by decide +kernel) ha (by decide) (by decide) (star_of he) hpl) fun σ H Q h => ?_
  obtain ⟨B, ρ, M, Xd, Qd, s, hw, f⟩ := h
  exact mkL s hw fun ds vs H1 M1 e1 s1 r1 l1 q => ⟨ds, M1, B, Qd, s1.good, r1, q, f.step e1⟩
def R2L (X : Cx) (op : Operator) : R2 := fun vx vy H Q => ∃ (x y : D) (M : Mem) (B : Bad) (Qd : QD), Good X.K H M B ∧ Rep X.K H M B x vx ∧ Rep X.K H M B y vy ∧ bopD op x y M (fun d M1 => liveD d M1 Qd) ∧ Fol X H M B Qd Q
theorem op2_live {op : Operator} (h : op = .Add ∨ op = .Mult) : OpR X (binaryOp op) (R2L X op) := by
  intro pins s σ H vx vy v u Q I rx ry h2
  obtain ⟨x, y, M, B, Qd, g, hx, hy, hb, f⟩ := h2
  rcases h with rfl | rfl
  · cases x <;> cases y <;> first | exact (show False from hb).elim | exact (show False from hb.2).elim | skip
    case lst.lst xs ys =>
      obtain ⟨a, vs, rfl, h1, z1, r1⟩ := lstF hx
      obtain ⟨b, ws, rfl, h2, z2, r2⟩ := lstF hy
      exact op_cat pins s σ H _ _ v u Q I rx ry ⟨a, b, vs, ws, rfl, rfl, h1, h2, by rw [← r1.length, ← r2.length]; exact hb.1, fun p hp => f (.cell p) (.ref p) _ _ (Ext.newC hp) (g.newC hp (r1.append r2) (by rw [List.length_append]; exact hb.1)) rfl (hb.2 p (g.none_of hp).1)⟩
    case cell.lst a ys =>
      obtain rfl : vx = .ref a := hx
      obtain ⟨xs, hc, q⟩ := cellL_some hb
      obtain ⟨vs, h1, z1, r1⟩ := g.cel a _ hc
      obtain ⟨b, ws, rfl, h2, z2, r2⟩ := lstF hy
      exact op_cat pins s σ H _ _ v u Q I rx ry ⟨a, b, vs, ws, rfl, rfl, h1, h2, by rw [← r1.length, ← r2.length]; exact q.1, fun p hp => f (.cell p) (.ref p) _ _ (Ext.newC hp) (g.newC hp (r1.append r2) (by rw [List.length_append]; exact q.1)) rfl (q.2 p (g.none_of hp).1)⟩
  · cases x <;> cases y <;> first | exact (show False from hb).elim | exact (show False from hb.2).elim | skip
    case lst.int xs k =>
      obtain ⟨a, vs, rfl, h1, z1, r1⟩ := lstF hx
      obtain rfl : vy = .int k := hy
      obtain ⟨⟨c1, c2, c3⟩, q⟩ := hb
      exact op_rep pins s σ H _ _ v u Q I rx ry ⟨a, k, vs, rfl, rfl, h1, c1, c2, by rw [← r1.length]; exact c3, fun p hp => f (.cell p) (.ref p) _ _ (Ext.newC hp) (g.newC hp (r1.rep _) (by simpa [List.length_flatten, Nat.mul_comm] using c3)) rfl (q p (g.none_of hp).1)⟩
theorem dct_run {pos : Pos} : PE X (.Dict [] [] pos) (tD Γ X W (fun _ M _ Q => Q (.dct [] []) M)) := by
  refine PE.mono pe_dnewK fun σ H Q ⟨B, ρ, M, Xd, Qd, s, hw, f⟩ => ?_
  exact fun p hp => f (.dct [] []) (.ref p) _ M (Ext.new s.good hp) (s.good.new hp) ⟨p, [], rfl, ⟨upd_same, s.good.none_of hp⟩, rfl, Nat.zero_le _, rfl⟩ hw
theorem gfn_run (ok : COk Γ Φ X W sc so) {x y : Str} {pos : Pos} (h : gfnB Γ sc x y = true) : PE X (.Name y pos) (tD Γ X W (fun _ M _ Q => Q (.fn x) M)) := by
  obtain ⟨h1, h⟩ := and2 h
  obtain ⟨h2, h⟩ := and2 h
  obtain ⟨h3, h4⟩ := and2 h
  obtain ⟨p1, p2⟩ := plainN_1 h3
  obtain rfl := of_decide_eq_true h1
  obtain ⟨fi, hm, hf⟩ := List.any_eq_true.mp h4
  obtain ⟨e1, e2⟩ := and2 hf
  obtain rfl := of_decide_eq_true e1
  obtain ⟨k, hk⟩ := List.getElem?_of_mem hm
  obtain ⟨fd, g1, g2, F, g4, _⟩ := ok.fns k fi hk (of_decide_eq_true e2)
  refine PE.mono (pe_glob (v := .ref (He.ga X.K fi.name)) (ok.gl h2) g1 rfl p1) fun σ H Q ⟨B, ρ, M, Xd, Qd, s, hw, f⟩ => ?_
  exact f.here s.good (d := .fn fi.name) rfl hw
def rLcm : List V → Hp → VK → Prop := fun vs H Q => ∃ a b : Int, vs = [.int a, .int b] ∧ (a.natAbs.log2 < 4000 ∧ b.natAbs.log2 < 4000) ∧ Q (.int ((Nat.lcm a.natAbs b.natAbs : Nat) : Int)) H
theorem cr_lcm : CallR X (.builtin "math.lcm") rLcm := by
  intro pins s σ H vs us Q I r h
  obtain ⟨a, b, rfl, ⟨ha, hb⟩, q⟩ := h
  obtain ⟨t, u, rfl⟩ := Vals.int2 r
  have one : Nat.lcm 1 a.natAbs = a.natAbs := Nat.lcm_one_left _
  have hl : (a.natAbs.lcm b.natAbs).log2 < PySem.bitsLine := by
    refine Nat.lt_of_lt_of_le (m := 8001) ?_ (by decide)
    by_cases h0 : a.natAbs.lcm b.natAbs = 0
    · rw [h0, Nat.log2_zero]; decide
    · refine (Nat.log2_lt h0).mpr ?_
      have h1 : a.natAbs.lcm b.natAbs ≤ a.natAbs * b.natAbs := Nat.div_le_self _ _
      have h2 : a.natAbs * b.natAbs ≤ 2 ^ (a.natAbs.log2 + 1) * 2 ^ (b.natAbs.log2 + 1) := Nat.mul_le_mul (Nat.le_of_lt Nat.lt_log2_self) (Nat.le_of_lt Nat.lt_log2_self)
      rw [← Nat.pow_add] at h2
      have h3 : 2 ^ (a.natAbs.log2 + 1 + (b.natAbs.log2 + 1)) < 2 ^ 8001 := Nat.pow_lt_pow_right (by decide) (by omega)
      exact Nat.lt_of_le_of_lt (Nat.le_trans h1 h2) h3
  have la := ha
  have lb := hb
  have hm1 : (max 1 a.natAbs).log2 < 4000 := by
    rcases Nat.le_total 1 a.natAbs with h | h
    · rw [Nat.max_eq_right h]; exact la
    · rw [Nat.max_eq_left h]; decide
  have hm2 : (max a.natAbs b.natAbs).log2 < 4000 := by
    rcases Nat.le_total a.natAbs b.natAbs with h | h
    · rw [Nat.max_eq_right h]; exact lb
    · rw [Nat.max_eq_left h]; exact la
  have g := PySem.W.mg_run_lcm a t b u (by omega) (by omega) (by rw [one]; exact hl)
  rw [one] at g
  exact call_function_meets PySem.W.MGF.kind_lcm PySem.W.MGF.plain_lcm PySem.W.MGF.entry_lcm (PySem.W.MGF.args_lcm _ _) g.meets ⟨.int _, H, I.tok _, ⟨_, rfl⟩, q⟩
theorem mth_run (ok : COk Γ Φ X W sc so) {l : Bool} {x : Str} {e e2 : Expr} {w : DEnv → Mem → XQ → QL → Prop} {p pos : Pos} (hb : mthB Γ sc l x = true) (ha : PA X [e, e2] (tL Γ X W 2 w)) (he : okHead e = true)
    (hpl : (backTo pos (starEach [e2] X.env)).any (·.1) = false) : PE X (.Call (.Name x p) [e, e2] [] pos) (tD Γ X W fun ρ M Xd Qd => w ρ M Xd fun ds M1 => match ds with | [a, b] => mthD l a b fun d => Qd d M1 | _ => False) := by
  obtain ⟨h1, h⟩ := and2 hb
  obtain ⟨h2, h3⟩ := and2 h
  obtain rfl := of_decide_eq_true h1
  have hm := ok.mth _ (of_decide_eq_true h3)
  cases l with
  | true =>
    refine PE.mono (pe_callBfun (id := "math.lcm") cr_lcm (ok.gl h2) hm ha (by decide) (star_of he) hpl) fun σ H Q ⟨B, ρ, M, Xd, Qd, s, hw, f⟩ => ?_
    refine mkL s hw fun ds vs H1 M1 e1 s1 r1 l1 q => ?_
    match ds, l1, q, r1 with
    | [a, b], _, q, r1 =>
      obtain ⟨v1, v2, rfl, rv1, rv2⟩ := reps2 r1
      cases a <;> first | exact (show False from q).elim | skip
      case int i _ =>
        cases b <;> first | exact (show False from q).elim | skip
        case int j _ =>
          obtain rfl : v1 = .int i := rv1
          obtain rfl : v2 = .int j := rv2
          have q : (i.natAbs.log2 < 4000 ∧ j.natAbs.log2 < 4000) ∧ Qd (.int ((Nat.lcm i.natAbs j.natAbs : Nat) : Int)) M1 := q
          exact ⟨i, j, rfl, q.1, (f.step e1).here s1.good (d := .int _) rfl q.2⟩
  | false =>
    refine PE.mono (pe_callBfun (id := "math.gcd") cr_gcd (ok.gl h2) hm ha (by decide) (star_of he) hpl) fun σ H Q ⟨B, ρ, M, Xd, Qd, s, hw, f⟩ => ?_
    refine mkL s hw fun ds vs H1 M1 e1 s1 r1 l1 q => ?_
    match ds, l1, q, r1 with
    | [a, b], _, q, r1 =>
      obtain ⟨v1, v2, rfl, rv1, rv2⟩ := reps2 r1
      cases a <;> first | exact (show False from q).elim | skip
      case int i _ =>
        cases b <;> first | exact (show False from q).elim | skip
        case int j _ =>
          obtain rfl : v1 = .int i := rv1
          obtain rfl : v2 = .int j := rv2
          exact ⟨i, j, rfl, (f.step e1).here s1.good (d := .int _) rfl q⟩
theorem po_some' {e : Expr} {w : DEnv → Mem → XQ → QD → Prop} (he : PE X e (tD Γ X W w)) : PO X (some e) (tPart (tD Γ X W w)) := po_some he
end
end RF
namespace RF
open PySem PySem.Spec PyProof.Rows L2
section
variable {Γ : Cfg} {Φ : Nat → Spec} {Q : VK} {B : Bad} {σ : SV} {H H1 : Hp} {ρ : DEnv} {M M1 : Mem} {Xd : XQ} {Qd : QD} {K : PySem.W.Frag}
theorem noF {P : Prop} {b : Bool} (h : b = true) (e : b = false) : P := by rw [h] at e; cases e
theorem lit_run {X : Cx} {W : WX} {c : Const} {d : D} {j : Nat} {pos : Pos} (h : litB c d = true) : PE X (.Constant c j pos) (tD Γ X W (wpE Φ (.lit d))) := by
  cases c <;> cases d <;> first | (cases h; done) | skip
  case none.non =>
    refine PE.mono pe_non fun σ H Q ⟨B, ρ, M, Xd, Qd, s, hw, f⟩ => ?_
    exact f.here s.good (d := .non) rfl hw
  case bool.bl b c =>
    obtain rfl : b = c := eq_of_beq h
    refine PE.mono pe_bl fun σ H Q ⟨B, ρ, M, Xd, Qd, s, hw, f⟩ => ?_
    exact f.here s.good (d := .bl b) rfl hw
  case int.int b c =>
    obtain rfl : b = c := eq_of_beq h
    refine PE.mono pe_int fun σ H Q ⟨B, ρ, M, Xd, Qd, s, hw, f⟩ => ?_
    exact f.here s.good (d := .int b) rfl hw
  case str.str b c =>
    obtain rfl : b = c := of_decide_eq_true h
    refine PE.mono pe_str fun σ H Q ⟨B, ρ, M, Xd, Qd, s, hw, f⟩ => ?_
    exact f.here s.good (d := .str b) rfl hw
theorem var_run {X : Cx} {W : WX} {sc so : Scope} (ok : COk Γ Φ X W sc so) {i : Nat} {x : Str} {pos : Pos} (h : varB Γ sc i x = true) : PE X (.Name x pos) (tD Γ X W (wpE Φ (.var i))) := by
  obtain ⟨h1, h⟩ := and2 h
  obtain ⟨h2, h3⟩ := and2 h
  obtain ⟨p1, p2⟩ := plainN_1 h3
  refine PE.mono (pe_var (i := i) (by rw [ok.N]; exact of_decide_eq_true h1) (ok.vis h2) p1 p2) fun σ H Q ⟨B, ρ, M, Xd, Qd, s, hw, f⟩ => ?_
  obtain ⟨d, hd, q⟩ := withV_some hw
  obtain ⟨v, hv, r⟩ := s.env.2 i d hd
  exact ⟨v, hv, f.here s.good r q⟩
theorem flats_rep {H : Hp} {M : Mem} {B : Bad} : ∀ {ds : List D} {vs : List V}, flatDs ds = some vs → Reps K H M B ds vs
  | [], vs, e => by cases e; rfl
  | d :: ds, vs, e => by
    obtain ⟨v, e1, e2⟩ := Option.bind_eq_some_iff.mp (show ((flatD d).bind fun v => (flatDs ds).map fun vs => v :: vs) = some vs from e)
    obtain ⟨ws, e3, rfl⟩ := Option.map_eq_some_iff.mp e2
    exact ⟨v, ws, rfl, flat_rep e1, flats_rep e3⟩
theorem glc_run {X : Cx} {W : WX} {sc so : Scope} (ok : COk Γ Φ X W sc so) {x y : Str} {d : D} {pos : Pos} (h : glcB Γ sc x d y = true) : PE X (.Name y pos) (tD Γ X W (wpE Φ (.gl x d))) := by
  obtain ⟨h1, g1⟩ := and2 h
  obtain ⟨h2, g2⟩ := and2 g1
  obtain ⟨h3, g3⟩ := and2 g2
  obtain ⟨p1, p2⟩ := plainN_1 h3
  have e0 := of_decide_eq_true h1
  subst e0
  cases e : flatD d with
  | none =>
    rw [e] at g3
    cases d <;> first | exact noF (show false = true from g3) rfl | skip
    case tup ds =>
      obtain ⟨g4, g5⟩ := and2 (show (decide (ds.length ≤ 1000) && (match flatDs ds with | some vs => decide ((x, vs) ∈ Γ.gts) | none => false)) = true from g3)
      cases e5 : flatDs ds with
      | none => rw [e5] at g5; cases g5
      | some vs =>
        rw [e5] at g5
        obtain ⟨a, ha, hs⟩ := ok.gts (x, vs) (of_decide_eq_true g5)
        refine PE.mono (pe_glob (v := .ref a) (ok.gl h2) ha rfl p1) fun σ H Q ⟨B, ρ, M, Xd, Qd, s, hw, f⟩ => ?_
        refine f.here s.good (d := .tup ds) ⟨a, vs, rfl, .inr hs, ?_, flats_rep e5⟩ hw
        have := of_decide_eq_true g4
        have := sizeLine_eq
        omega
  | some v =>
    rw [e] at g3
    obtain ⟨u, hu, ru⟩ := ok.gls ⟨x, v⟩ (of_decide_eq_true g3)
    refine PE.mono (pe_glob (ok.gl h2) hu ru p1) fun σ H Q ⟨B, ρ, M, Xd, Qd, s, hw, f⟩ => ?_
    exact f.here s.good (flat_rep e) hw
theorem le1000 {n : Nat} (h : n ≤ 1000) : n ≤ sizeLine := by rw [sizeLine_eq]; omega
def VE (Γ : Cfg) (Φ : Nat → Spec) (c : CE) : Prop := ∀ (X : Cx) (W : WX) (sc so : Scope), COk Γ Φ X W sc so → ∀ e, mE Γ .v sc c e = true → PE X e (tD Γ X W (wpE Φ c))
def VT (Γ : Cfg) (Φ : Nat → Spec) (c : CE) : Prop := ∀ (X : Cx) (W : WX) (sc so : Scope), COk Γ Φ X W sc so → ∀ e, mE Γ .t sc c e = true → PT X e (tT Γ X W (wpT Φ c))
def VI (Γ : Cfg) (Φ : Nat → Spec) (c : CE) : Prop := ∀ (X : Cx) (W : WX) (sc so : Scope), COk Γ Φ X W sc so → ∀ e tg, mE Γ (.i (isTupE tg)) sc c e = true → PI X tg e (tI Γ X W (wpI Φ c))
structure VA (Γ : Cfg) (Φ : Nat → Spec) (c : CE) : Prop where
  v : VE Γ Φ c
  t : VT Γ Φ c
  i : VI Γ Φ c
theorem ves_run {cs : List CE} (hv : ∀ c ∈ cs, VE Γ Φ c) {X : Cx} {W : WX} {sc so : Scope} (ok : COk Γ Φ X W sc so) : ∀ (es : List Expr), mEs Γ .v sc cs es = true → PA X es (tL Γ X W cs.length (wpEs Φ cs)) := by
  induction cs with
  | nil =>
    intro es h
    cases es with
    | cons _ _ => exact noF h rfl
    | nil =>
      refine PA.mono pa_nil fun σ H Q ⟨B, ρ, M, Xd, Ql, s, hw, k⟩ => ?_
      exact k [] [] H M (Ext.refl _ _) s.good rfl rfl hw
  | cons c cs ih =>
    intro es h
    cases es with
    | nil => exact noF h rfl
    | cons e es =>
      obtain ⟨h1, h2⟩ := and2 h
      refine PA.mono (pa_cons (hv c (by simp) X W sc so ok e h1) (ih (fun d m => hv d (by simp [m])) es h2) (star_of (mE_head h1))) fun σ H Q ⟨B, ρ, M, Xd, Ql, s, hw, k⟩ => ?_
      exact mkD s hw fun x vx H1 M1 e1 s1 r1 q1 => mkL s1 q1 fun ds vs H2 M2 e2 s2 r2 l2 q2 => k (x :: ds) (vx :: vs) H2 M2 (e1.trans e2) s2.good ⟨vx, vs, rfl, r1.ext s1.good e2, r2⟩ (by simp [l2]) q2
theorem vks_run {cs : List CE} (hv : ∀ c ∈ cs, VE Γ Φ c) {X : Cx} {W : WX} {sc so : Scope} (ok : COk Γ Φ X W sc so) : ∀ (ks : List Str) (kws : List Keyword), mKs Γ sc ks cs kws = true → PK X kws (tL Γ X W ks.length (wpEs Φ cs)) := by
  induction cs with
  | nil =>
    intro ks kws h
    cases ks with
    | cons _ _ => cases kws <;> exact noF h rfl
    | nil =>
      cases kws with
      | cons _ _ => exact noF h rfl
      | nil =>
        refine ⟨fun pos pins s σ H Q I ⟨B, ρ, M, Xd, Ql, s0, hw, k⟩ => ?_⟩
        exact pk_nil.run pos pins s σ H Q I (k [] [] H M (Ext.refl _ _) s0.good rfl rfl hw)
  | cons c cs ih =>
    intro ks kws h
    cases ks with
    | nil => exact noF h rfl
    | cons k ks =>
      cases kws with
      | nil => exact noF h rfl
      | cons kw kws =>
        obtain ⟨n, e, p⟩ := kw
        obtain ⟨_, h⟩ := and2 h
        obtain ⟨h1, h2⟩ := and2 h
        refine ⟨fun pos pins s σ H Q I ⟨B, ρ, M, Xd, Ql, s0, hw, k⟩ => ?_⟩
        refine (pk_cons (hv c (by simp) X W sc so ok e h1) (ih (fun d m => hv d (by simp [m])) ks kws h2)).run pos pins s σ H Q I ?_
        exact mkD s0 hw fun x vx H1 M1 e1 s1 r1 q1 => mkL s1 q1 fun ds vs H2 M2 e2 s2 r2 l2 q2 => k (x :: ds) (vx :: vs) H2 M2 (e1.trans e2) s2.good ⟨vx, vs, rfl, r1.ext s1.good e2, r2⟩ (by simp [l2]) q2
theorem ve_var (i : Nat) : VE Γ Φ (.var i) := by
  intro X W sc so ok e h
  cases e <;> first | exact noF h rfl | exact var_run ok h
theorem ve_lit (d : D) : VE Γ Φ (.lit d) := by
  intro X W sc so ok e h
  cases e <;> first | exact noF h rfl | exact lit_run (and2 h).2
theorem ve_gl (x : Str) (d : D) : VE Γ Φ (.gl x d) := by
  intro X W sc so ok e h
  cases e <;> first | exact noF h rfl | exact glc_run ok (and2 h).2
theorem ve_tup (es : List CE) (hv : ∀ c ∈ es, VE Γ Φ c) : VE Γ Φ (.tup es) := by
  intro X W sc so ok e h
  cases e <;> first | exact noF h rfl | skip
  case Tuple es' k pos =>
    obtain ⟨_, h⟩ := and2 h
    obtain ⟨h1, h2⟩ := and2 h
    refine PE.mono (pe_tup (ves_run hv ok es' h1)) fun σ H Q ⟨B, ρ, M, Xd, Qd, s, hw, f⟩ => ?_
    refine mkL s hw fun ds vs H1 M1 e1 s1 r1 l1 q => ?_
    have z : ds.length ≤ sizeLine := le1000 (by rw [l1]; exact of_decide_eq_true h2)
    exact ⟨by rw [← r1.length]; exact z, fun p hp => (f.step e1).tup s1.good hp r1 z q⟩
theorem ve_lst (lv : Bool) (es : List CE) (hv : ∀ c ∈ es, VE Γ Φ c) : VE Γ Φ (.lst lv es) := by
  intro X W sc so ok e h
  cases e <;> first | exact noF h rfl | skip
  case List es' pos =>
    obtain ⟨_, h⟩ := and2 h
    obtain ⟨h1, h2⟩ := and2 h
    refine PE.mono (pe_lst (ves_run hv ok es' h1)) fun σ H Q ⟨B, ρ, M, Xd, Qd, s, hw, f⟩ => ?_
    cases lv with
    | false =>
      refine mkL s hw fun ds vs H1 M1 e1 s1 r1 l1 q => ?_
      have z : ds.length ≤ sizeLine := le1000 (by rw [l1]; exact of_decide_eq_true h2)
      exact ⟨by rw [← r1.length]; exact z, fun p hp => (f.step e1).lst s1.good hp r1 z q⟩
    | true =>
      refine mkL s hw fun ds vs H1 M1 e1 s1 r1 l1 q => ?_
      have z : ds.length ≤ sizeLine := le1000 (by rw [l1]; exact of_decide_eq_true h2)
      exact ⟨by rw [← r1.length]; exact z, fun p hp => f (.cell p) (.ref p) _ _ (e1.trans (Ext.newC hp)) (s1.good.newC hp r1 z) rfl (q p (s1.good.none_of hp).1)⟩
theorem ve_bop (op : Operator) (a b : CE) (va : VE Γ Φ a) (vb : VE Γ Φ b) : VE Γ Φ (.bop op a b) := by
  intro X W sc so ok e h
  cases e <;> first | exact noF h rfl | skip
  case BinOp a' op' b' pos =>
    obtain ⟨_, h⟩ := and2 h
    obtain ⟨h0, h⟩ := and2 h
    obtain ⟨h1, h2⟩ := and2 h
    obtain rfl := of_decide_eq_true h0
    refine PE.mono (pe_op (op2_ok op) (va X W sc so ok a' h1) (vb X W sc so ok b' h2)) fun σ H Q ⟨B, ρ, M, Xd, Qd, s, hw, f⟩ => ?_
    exact mkD s hw fun x vx H1 M1 e1 s1 r1 q1 => mkD s1 q1 fun y vy H2 M2 e2 s2 r2 q2 => ⟨x, y, M2, B, Qd, s2.good, r1.ext s1.good e2, r2, q2, f.step (e1.trans e2)⟩
theorem op_fdn {X : Cx} : OpR X (binaryOp .FloorDiv) (R2D X fdnD) := by
  intro pins s σ H vx vy v u Q I rx ry h
  obtain ⟨x, y, M, B, Qd, g, hx, hy, q, f⟩ := h
  cases x <;> cases y <;> first | exact (show False from q).elim | skip
  case int.int i j =>
    obtain rfl : vx = .int i := hx
    obtain rfl : vy = .int j := hy
    exact op_fdivN pins s σ H _ _ v u Q I rx ry ⟨i, j, rfl, rfl, q.1, f.here g (d := .int (i.fdiv j)) rfl q.2⟩
theorem ve_fdn (a b : CE) (va : VE Γ Φ a) (vb : VE Γ Φ b) : VE Γ Φ (.fdn a b) := by
  intro X W sc so ok e h
  cases e <;> first | exact noF h rfl | skip
  case BinOp a' op' b' pos =>
    cases op' <;> first | exact noF h rfl | skip
    obtain ⟨_, h⟩ := and2 h
    obtain ⟨h1, h2⟩ := and2 h
    refine PE.mono (pe_op op_fdn (va X W sc so ok a' h1) (vb X W sc so ok b' h2)) fun σ H Q ⟨B, ρ, M, Xd, Qd, s, hw, f⟩ => ?_
    exact mkD s hw fun x vx H1 M1 e1 s1 r1 q1 => mkD s1 q1 fun y vy H2 M2 e2 s2 r2 q2 => ⟨x, y, M2, B, Qd, s2.good, r1.ext s1.good e2, r2, q2, f.step (e1.trans e2)⟩
theorem ve_neg (a : CE) (va : VE Γ Φ a) : VE Γ Φ (.neg a) := by
  intro X W sc so ok e h
  cases e <;> first | exact noF h rfl | skip
  case UnaryOp op' a' pos =>
    cases op' <;> first | exact noF h rfl | skip
    obtain ⟨_, h⟩ := and2 h
    refine PE.mono (pe_un neg_ok (va X W sc so ok a' h)) fun σ H Q ⟨B, ρ, M, Xd, Qd, s, hw, f⟩ => ?_
    exact mkD s hw fun x vx H1 M1 e1 s1 r1 q1 => ⟨x, M1, B, _, s1.good, r1, q1, fun d w rd q => (f.step e1).here s1.good rd q⟩
theorem ve_not (a : CE) (va : VE Γ Φ a) : VE Γ Φ (.not a) := by
  intro X W sc so ok e h
  cases e <;> first | exact noF h rfl | skip
  case UnaryOp op' a' pos =>
    cases op' <;> first | exact noF h rfl | skip
    obtain ⟨_, h⟩ := and2 h
    refine PE.mono (pe_notT (va X W sc so ok a' h)) fun σ H Q ⟨B, ρ, M, Xd, Qd, s, hw, f⟩ => ?_
    refine mkD s hw fun x vx H1 M1 e1 s1 r1 q1 => ?_
    obtain ⟨b, hb, q⟩ := tru_D s1.good r1 q1
    exact ⟨b, hb, (f.step e1).here s1.good (d := .bl _) rfl q⟩
theorem ve_cmp (op : CmpOp) (a b : CE) (va : VE Γ Φ a) (vb : VE Γ Φ b) : VE Γ Φ (.cmp op a b) := by
  intro X W sc so ok e h
  cases e <;> first | exact noF h rfl | skip
  case Compare a' ops cs pos =>
    match ops, cs, h with
    | [op'], [b'], h =>
      obtain ⟨_, h⟩ := and2 h
      obtain ⟨h0, h⟩ := and2 h
      obtain ⟨hm, h⟩ := and2 h
      obtain ⟨h1, h2⟩ := and2 h
      obtain rfl := of_decide_eq_true h0
      refine PE.mono (pe_cmpR (cmp2_ok ok.units op) (va X W sc so ok a' h1) (vb X W sc so ok b' h2) (noM hm)) fun σ H Q ⟨B, ρ, M, Xd, Qd, s, hw, f⟩ => ?_
      exact mkD s hw fun x vx H1 M1 e1 s1 r1 q1 => mkD s1 q1 fun y vy H2 M2 e2 s2 r2 q2 => ⟨x, y, M2, B, _, s2.good, r1.ext s1.good e2, r2, q2, fun c q => (f.step (e1.trans e2)).here s2.good (d := .bl c) rfl q⟩
    | [], _, h => exact noF h (by cases cs <;> rfl)
    | _ :: _ :: _, [], h => exact noF h rfl
    | _ :: _ :: _, [_], h => exact noF h rfl
    | _ :: _ :: _, _ :: _ :: _, h => exact noF h rfl
    | [_], [], h => exact noF h rfl
    | [_], _ :: _ :: _, h => exact noF h rfl
theorem ve_chn (op op2 : CmpOp) (a b c : CE) (va : VE Γ Φ a) (vb : VE Γ Φ b) (vc : VE Γ Φ c) : VE Γ Φ (.chn op op2 a b c) := by
  intro X W sc so ok e h
  cases e <;> first | exact noF h rfl | skip
  case Compare a' ops cs pos =>
    match ops, cs, h with
    | [op', op2'], [b', c'], h =>
      obtain ⟨_, h⟩ := and2 h
      obtain ⟨h0, h⟩ := and2 h
      obtain ⟨h0', h⟩ := and2 h
      obtain ⟨hm, h⟩ := and2 h
      obtain ⟨h1, h⟩ := and2 h
      obtain ⟨h2, h3⟩ := and2 h
      obtain rfl := of_decide_eq_true h0
      obtain rfl := of_decide_eq_true h0'
      refine PE.mono (pe_chain (cmp2_ok ok.units op) (cmp2_ok ok.units op2) (va X W sc so ok a' h1) (vb X W sc so ok b' h2) (vc X W sc so ok c' h3) (lastM hm)) fun σ H Q ⟨B, ρ, M, Xd, Qd, s, hw, f⟩ => ?_
      refine mkD s hw fun x vx H1 M1 e1 s1 r1 q1 => mkD s1 q1 fun y vy H2 M2 e2 s2 r2 q2 => ⟨x, y, M2, B, _, s2.good, r1.ext s1.good e2, r2, q2, fun k q => ⟨k, rfl, ?_⟩⟩
      cases k with
      | true =>
        simp only [if_true] at q ⊢
        exact mkD s2 q fun z vz H3 M3 e3 s3 r3 q3 => ⟨y, z, M3, B, _, s3.good, r2.ext s2.good e3, r3, q3, fun c q => (f.step ((e1.trans e2).trans e3)).here s3.good (d := .bl c) rfl q⟩
      | false =>
        simp only [Bool.false_eq_true, if_false] at q ⊢
        exact (f.step (e1.trans e2)).here s2.good (d := .bl false) rfl q
    | [], _, h => exact noF h (by cases cs <;> rfl)
    | [_], [], h => exact noF h rfl
    | [_], [_], h => exact noF h rfl
    | [_], _ :: _ :: _, h => exact noF h rfl
    | _ :: _ :: _ :: _, [], h => exact noF h rfl
    | _ :: _ :: _ :: _, [_], h => exact noF h rfl
    | _ :: _ :: _ :: _, [_, _], h => exact noF h rfl
    | _ :: _ :: _ :: _, _ :: _ :: _ :: _, h => exact noF h rfl
    | [_, _], [], h => exact noF h rfl
    | [_, _], [_], h => exact noF h rfl
    | [_, _], _ :: _ :: _ :: _, h => exact noF h rfl
theorem ve_ifx (c a b : CE) (vc : VT Γ Φ c) (va : VE Γ Φ a) (vb : VE Γ Φ b) : VE Γ Φ (.ifx c a b) := by
  intro X W sc so ok e h
  cases e <;> first | exact noF h rfl | skip
  case IfExp c' a' b' pos =>
    obtain ⟨_, h⟩ := and2 h
    obtain ⟨h0, h⟩ := and2 h
    obtain ⟨h1, h2⟩ := and2 h
    refine PE.mono (pe_ifExp (vc X W sc so ok c' h0) (va X W sc so ok a' h1) (vb X W sc so ok b' h2)) fun σ H Q ⟨B, ρ, M, Xd, Qd, s, hw, f⟩ => ?_
    refine mkT s hw fun k H1 M1 e1 s1 q => ?_
    cases k with
    | true =>
      simp only [if_true] at q ⊢
      exact ⟨B, ρ, M1, Xd, Qd, s1, q, f.step e1⟩
    | false =>
      simp only [Bool.false_eq_true, if_false] at q ⊢
      exact ⟨B, ρ, M1, Xd, Qd, s1, q, f.step e1⟩
theorem ve_call (f : Nat) (es : List CE) (hv : ∀ c ∈ es, VE Γ Φ c) : VE Γ Φ (.call f es) := by
  intro X W sc so ok e h
  cases e <;> first | exact noF h rfl | skip
  case Call fn es' kws pos =>
    cases fn <;> first | exact noF h rfl | skip
    case Name x p =>
      cases kws with
      | cons _ _ => exact noF h rfl
      | nil =>
        obtain ⟨h1, h2⟩ := and2 h
        have hl := mEs_len h1
        have hpos : 0 < es.length := of_decide_eq_true (and2 (and2 (and2 (and2 h2).2).2).2).1
        cases es' with
        | nil => rw [hl] at hpos; simp at hpos
        | cons e es'' =>
          have ha := ves_run hv ok _ h1
          cases es with
          | nil => simp at hl
          | cons c cs =>
            obtain ⟨m1, m2⟩ := and2 h1
            exact callOk_run ok h2 ha (mE_head m1) (plain_star m2)
theorem ve_callK (f : Nat) (es : List CE) (ks : List Str) (kes : List CE) (perm : List Nat) (hv : ∀ c ∈ es, VE Γ Φ c) (hk : ∀ c ∈ kes, VE Γ Φ c) : VE Γ Φ (.callK f es ks kes perm) := by
  intro X W sc so ok e h
  cases e <;> first | exact noF h rfl | skip
  case Call fn es' kws pos =>
    cases fn <;> first | exact noF h rfl | skip
    case Name x p =>
      obtain ⟨_, h⟩ := and2 h
      obtain ⟨h1, h⟩ := and2 h
      obtain ⟨h2, h3⟩ := and2 h
      have hl := mEs_len h1
      refine callK_run ok h3 (ves_run hv ok _ h1) (vks_run hk ok ks kws h2) h2 ?_ (plain_star h1)
      cases es' with
      | nil =>
        cases es with
        | nil => exact .inl ⟨rfl, fun ρ M Xd Qd z => ⟨rfl, z⟩⟩
        | cons _ _ => simp at hl
      | cons e es'' =>
        cases es with
        | nil => simp at hl
        | cons c cs =>
          obtain ⟨m1, m2⟩ := and2 h1
          exact .inr ⟨e, es'', rfl, mE_head m1⟩
theorem ve_ix (a b : CE) (va : VE Γ Φ a) (vb : VE Γ Φ b) : VE Γ Φ (.ix a b) := by
  intro X W sc so ok e h
  cases e <;> first | exact noF h rfl | skip
  case Subscript a' b' pos =>
    obtain ⟨h1, h2⟩ := and2 h
    refine PE.mono (pe_ix ix_ok (va X W sc so ok a' h1) (vb X W sc so ok b' h2) (plainIx_of (mE_head h2))) fun σ H Q ⟨B, ρ, M, Xd, Qd, s, hw, f⟩ => ?_
    exact mkD s hw fun x vx H1 M1 e1 s1 r1 q1 => mkD s1 q1 fun y vy H2 M2 e2 s2 r2 q2 => ⟨x, y, M2, B, Qd, s2.good, r1.ext s1.good e2, r2, q2, f.step (e1.trans e2)⟩
theorem ve_dct : VE Γ Φ .dctE := by
  intro X W sc so ok e h
  cases e <;> first | exact noF h rfl | skip
  case Dict ks vs pos =>
    cases ks <;> cases vs <;> first | exact noF h rfl | exact dct_run
theorem ve_mth (l : Bool) (a b : CE) (va : VE Γ Φ a) (vb : VE Γ Φ b) : VE Γ Φ (.mth l a b) := by
  intro X W sc so ok e h
  cases e <;> first | exact noF h rfl | skip
  case Call fn es' kws pos =>
    cases fn <;> first | exact noF h rfl | skip
    case Name x p =>
      match es', kws, h with
      | [a', b'], [], h =>
        obtain ⟨_, h⟩ := and2 h
        obtain ⟨h1, h2⟩ := and2 h
        have ha := ves_run (cs := [a, b]) (fun c m => by
          rcases List.mem_cons.mp m with rfl | m
          · exact va
          · rcases List.mem_cons.mp m with rfl | m
            · exact vb
            · cases m) ok [a', b'] (show (mE Γ .v sc a a' && (mE Γ .v sc b b' && true)) = true by rw [Bool.and_true]; exact h2)
        obtain ⟨m1, m2⟩ := and2 h2
        have m2 : mEs Γ .v sc [b] [b'] = true := show (mE Γ .v sc b b' && true) = true by rw [Bool.and_true]; exact m2
        exact PE.mono (mth_run ok h1 ha (mE_head m1) (plain_star m2)) fun σ H Q ⟨B, ρ, M, Xd, Qd, s, hw, f⟩ => ⟨B, ρ, M, Xd, Qd, s, hw, f⟩
      | [], _, h => exact noF h rfl
      | [_], _, h => exact noF h rfl
      | _ :: _ :: _ :: _, _, h => exact noF h rfl
      | [_, _], _ :: _, h => exact noF h rfl
theorem ve_gfn (x : Str) : VE Γ Φ (.gfn x) := by
  intro X W sc so ok e h
  cases e <;> first | exact noF h rfl | exact gfn_run ok (and2 h).2
/-- isinstance(e, C), e held by an except clause -/
theorem excIs_run {X : Cx} {W : WX} {sc so : Scope} (ok : COk Γ Φ X W sc so) (hc : Γ.calm = false) {i : Nat} {en f y : Str} {cs : List Nat} {p p1 p2 pos : Pos} (hv : varB Γ sc i en = true) (hb : bltB Γ sc f "isinstance" = true) (hg : glB sc y = true) (hm : (y, cs) ∈ Γ.eis) :
    PE X (.Call (.Name f p) [.Name en p1, .Name y p2] [] pos) (tD Γ X W (wpE Φ (.excIs i y cs))) := by
  obtain ⟨rfl, g1, g2⟩ := ok.bl hb
  obtain ⟨db, c, cv, rc, uc, hn, hsub⟩ := ok.exc.is _ hm
  have hy : PE X (.Name y p2) (tC c) := by
    rcases hn with hn | ⟨n1, n2, n3⟩
    · exact pe_glob (v := c) (ok.gl hg) hn rc db
    · exact pe_bltn (ok.gl hg) n1 n2 rc n3 db
  refine PE.mono (pe_callB call_isX g1 g2 (by decide +kernel) (pa_cons (var_run (Φ := Φ) (W := W) ok hv) (pa_cons hy pa_nil) rfl) (by decide) (by decide) rfl rfl) fun σ H Q ⟨B, ρ, M, Xd, Qd, s, hw, f⟩ => ?_
  refine mkD s (show wpE Φ (.var i) ρ M Xd (fun d M1 => excD d Xd fun xd => Qd (.bl (cs.contains xd.cls)) M1) from hw) fun d v H1 M1 e1 s1 r1 q => ?_
  cases d <;> first | exact (show False from q).elim | skip
  case cell a =>
    obtain rfl : v = .ref a := r1
    obtain ⟨xd, hx, q⟩ := (show curP Xd a _ from q)
    obtain ⟨oe, Cv, d, hp, hz, hf, p', x1, x2, x3⟩ := s1.xl.cur hc a xd hx
    obtain ⟨_, C, k1, k2, k3⟩ := ok.exc.cls (_, p') (look_mem x1)
    obtain rfl : Cv = .ref C := Option.some.inj (x2.symm.trans k1)
    refine ⟨a, oe, C, d, c, cv, cs.contains xd.cls, hp, hz, hf, k2, rfl, uc, (hsub _ _ _ x1 x2).1, ?_, (f.step e1).here s1.good (d := .bl _) rfl q⟩
    cases hv : xd.val with
    | none => rw [hv] at x3; exact .inl x3
    | some dv =>
      rw [hv] at x3
      obtain ⟨dd, v, z1, z2, _⟩ := x3
      exact .inr ⟨dd, _, v, z1, z2⟩
theorem ve_excIs (i : Nat) (x : Str) (cs : List Nat) : VE Γ Φ (.excIs i x cs) := by
  intro X W sc so ok e h
  cases e <;> first | exact noF h rfl | skip
  case Call fn as kws pos =>
    cases fn <;> first | exact noF h rfl | skip
    case Name f p =>
      cases kws with
      | cons _ _ => exact noF h rfl
      | nil =>
        have h : (true && (match excArgs as with
          | some (e, y) => !Γ.calm && (varB Γ sc i e && (bltB Γ sc f "isinstance" && (decide (x = y) && (glB sc y && decide ((x, cs) ∈ Γ.eis)))))
          | none => false)) = true := h
        replace h := (and2 h).2
        cases q : excArgs as with
        | none => rw [q] at h; cases h
        | some ey =>
          obtain ⟨en, y⟩ := ey
          rw [q] at h
          obtain ⟨p1, p2, rfl⟩ := excArgs_of q
          obtain ⟨h1, h⟩ := and2 (show (!Γ.calm && (varB Γ sc i en && (bltB Γ sc f "isinstance" && (decide (x = y) && (glB sc y && decide ((x, cs) ∈ Γ.eis)))))) = true from h)
          obtain ⟨h2, h⟩ := and2 h
          obtain ⟨h3, h⟩ := and2 h
          obtain ⟨h4, h⟩ := and2 h
          obtain ⟨h5, h6⟩ := and2 h
          obtain rfl := of_decide_eq_true h4
          exact excIs_run ok (by simpa using h1) h2 h3 h5 (of_decide_eq_true h6)
theorem ve_excAt (i : Nat) (cs : List Nat) : VE Γ Φ (.excAt i cs) := by
  intro X W sc so ok e h
  cases e <;> first | exact noF h rfl | skip
  case Attribute e0 y pos =>
    cases e0 <;> first | exact noF h rfl | skip
    case Name en p1 =>
      obtain ⟨_, h⟩ := and2 h
      obtain ⟨h1, h⟩ := and2 h
      obtain ⟨h1, hy0⟩ := and2 h1
      obtain ⟨h2, h3⟩ := and2 h
      have hc : Γ.calm = false := by simpa using h1
      refine PE.mono (pe_attrX (var_run (Φ := Φ) (W := W) ok h2) rfl) fun σ H Q ⟨B, ρ, M, Xd, Qd, s, hw, f⟩ => ?_
      refine mkD s (show wpE Φ (.var i) ρ M Xd (fun d M1 => excD d Xd fun xd => cs.contains xd.cls = true ∧ valP xd.val fun v => Qd v M1) from hw) fun d v H1 M1 e1 s1 r1 q => ?_
      cases d <;> first | exact (show False from q).elim | skip
      case cell a =>
        obtain rfl : v = .ref a := r1
        obtain ⟨xd, hx, hcs, q⟩ := (show curP Xd a _ from q)
        obtain ⟨oe, Cv, d, hp, hz, hf, p', x1, x2, x3⟩ := s1.xl.cur hc a xd hx
        obtain ⟨_, C, k1, k2, k3⟩ := ok.exc.cls (_, p') (look_mem x1)
        obtain rfl : Cv = .ref C := Option.some.inj (x2.symm.trans k1)
        cases hv : xd.val with
        | none => rw [hv] at q; exact (show False from q).elim
        | some dv =>
          rw [hv] at x3 q
          obtain ⟨dd, v', z1, z2, z3, z4⟩ := x3
          have q : Qd dv M1 := q
          subst z1
          have hy : p'.2 = y := by
            have := List.all_eq_true.mp h3 xd.cls (by simpa using hcs)
            rw [x1] at this
            exact of_decide_eq_true this
          subst hy
          obtain ⟨fI, k3⟩ := k3.resolve_right fun z => of_decide_eq_true hy0 z.1
          exact ⟨a, oe, C, fI, dd, v', hp, hz, hf, k3, rfl, z2, (f.step e1).here s1.good z4 q⟩
theorem ve_callL (i : Nat) (es : List CE) (cs : List (Str × Nat)) (hv : ∀ c ∈ es, VE Γ Φ c) : VE Γ Φ (.callL i es cs) := by
  intro X W sc so ok e h
  cases e <;> first | exact noF h rfl | skip
  case Call fn es' kws pos =>
    cases fn <;> first | exact noF h rfl | skip
    case Name x p =>
      cases kws with
      | cons _ _ => exact noF h rfl
      | nil =>
        obtain ⟨_, h⟩ := and2 h
        obtain ⟨h1, h⟩ := and2 h
        obtain ⟨h2, h⟩ := and2 h
        obtain ⟨h3, h⟩ := and2 h
        obtain ⟨h4, h5⟩ := and2 h
        have hpos := of_decide_eq_true h3
        have hl := mEs_len h5
        cases es' with
        | nil => rw [hl] at hpos; simp at hpos
        | cons e es'' =>
          have ha := ves_run hv ok _ h5
          cases es with
          | nil => simp at hl
          | cons c cs' =>
            obtain ⟨m1, m2⟩ := and2 h5
            exact callL_run ok h1 h2 h4 ha (mE_head m1) (plain_star m2)
theorem live_bop (op : Operator) (ho : op = .Add ∨ op = .Mult) (a b : CE) (va : VE Γ Φ a) (vb : VE Γ Φ b) (X : Cx) (W : WX) (sc so : Scope) (ok : COk Γ Φ X W sc so) (e : Expr) (h : mE Γ .v sc (.bop op a b) e = true) : PE X e (tD Γ X W (wpE Φ (.live (.bop op a b)))) := by
  cases e <;> first | exact noF h rfl | skip
  case BinOp a' op' b' pos =>
    obtain ⟨_, h⟩ := and2 h
    obtain ⟨h0, h⟩ := and2 h
    obtain ⟨h1, h2⟩ := and2 h
    obtain rfl := of_decide_eq_true h0
    refine PE.mono (pe_op (op2_live ho) (va X W sc so ok a' h1) (vb X W sc so ok b' h2)) fun σ H Q ⟨B, ρ, M, Xd, Qd, s, hw, f⟩ => ?_
    exact mkD s hw fun x vx H1 M1 e1 s1 r1 q1 => mkD s1 q1 fun y vy H2 M2 e2 s2 r2 q2 => ⟨x, y, M2, B, Qd, s2.good, r1.ext s1.good e2, r2, q2, f.step (e1.trans e2)⟩
theorem ve_frz (c : CE) (vc : VE Γ Φ c) : VE Γ Φ (.frz c) := by
  intro X W sc so ok e h
  obtain ⟨_, h⟩ := and2 (show (Md.v.isV && mE Γ .v sc c e) = true from h)
  refine PE.mono (vc X W sc so ok e h) fun σ H Q ⟨B, ρ, M, Xd, Qd, s, hw, f⟩ => ?_
  refine mkD s hw fun x vx H1 M1 e1 s1 r1 q1 => ?_
  cases x <;> first | exact (show False from q1).elim | skip
  case cell a =>
    obtain rfl := r1
    have q1 : (match M1 a with | some (.lst xs) => Qd (.lst xs) (M1.del a) | none => False) := q1
    split at q1
    · rename_i xs hc
      exact f (.lst xs) (.ref a) H1 (M1.del a) (e1.trans (Ext.sub Sub.del_self)) (s1.good.sub Sub.del_self) (Rep.freeze s1.good hc) q1
    · exact q1.elim
theorem and_run {cs : List CE} (hv : ∀ c ∈ cs, VE Γ Φ c) {X : Cx} {W : WX} {sc so : Scope} (ok : COk Γ Φ X W sc so) {pos : Pos} : ∀ (es : List Expr), mEs Γ .v sc cs es = true → 0 < cs.length → PE X (.BoolOp .And es pos) (tD Γ X W (wpAnd Φ cs)) := by
  induction cs with
  | nil => intro es h h0; exact absurd h0 (Nat.lt_irrefl 0)
  | cons c cs ih =>
    intro es h h0
    cases es with
    | nil => exact noF h rfl
    | cons e es =>
      obtain ⟨h1, h2⟩ := and2 h
      have hc := hv c (by simp) X W sc so ok e h1
      cases cs with
      | nil =>
        cases es with
        | cons _ _ => exact noF h2 rfl
        | nil => exact pe_one hc
      | cons d ds =>
        cases es with
        | nil => exact noF h2 rfl
        | cons e2 es =>
          refine PE.mono (pe_andT hc (ih (fun d m => hv d (by simp [m])) _ h2 (by simp))) fun σ H Q ⟨B, ρ, M, Xd, Qd, s, hw, f⟩ => ?_
          refine mkD s hw fun x vx H1 M1 e1 s1 r1 q1 => ?_
          obtain ⟨b, hb, q⟩ := tru_D s1.good r1 q1
          refine ⟨b, hb, ?_⟩
          cases b with
          | true =>
            simp only [if_true] at q ⊢
            exact ⟨B, ρ, M1, Xd, Qd, s1, q, f.step e1⟩
          | false =>
            simp only [Bool.false_eq_true, if_false] at q ⊢
            exact (f.step e1).here s1.good r1 q
theorem or_run {cs : List CE} (hv : ∀ c ∈ cs, VE Γ Φ c) {X : Cx} {W : WX} {sc so : Scope} (ok : COk Γ Φ X W sc so) {pos : Pos} : ∀ (es : List Expr), mEs Γ .v sc cs es = true → 0 < cs.length → PE X (.BoolOp .Or es pos) (tD Γ X W (wpOr Φ cs)) := by
  induction cs with
  | nil => intro es h h0; exact absurd h0 (Nat.lt_irrefl 0)
  | cons c cs ih =>
    intro es h h0
    cases es with
    | nil => exact noF h rfl
    | cons e es =>
      obtain ⟨h1, h2⟩ := and2 h
      have hc := hv c (by simp) X W sc so ok e h1
      cases cs with
      | nil =>
        cases es with
        | cons _ _ => exact noF h2 rfl
        | nil => exact pe_one hc
      | cons d ds =>
        cases es with
        | nil => exact noF h2 rfl
        | cons e2 es =>
          refine PE.mono (pe_orT hc (ih (fun d m => hv d (by simp [m])) _ h2 (by simp))) fun σ H Q ⟨B, ρ, M, Xd, Qd, s, hw, f⟩ => ?_
          refine mkD s hw fun x vx H1 M1 e1 s1 r1 q1 => ?_
          obtain ⟨b, hb, q⟩ := tru_D s1.good r1 q1
          refine ⟨b, hb, ?_⟩
          cases b with
          | true =>
            simp only [if_true] at q ⊢
            exact (f.step e1).here s1.good r1 q
          | false =>
            simp only [Bool.false_eq_true, if_false] at q ⊢
            exact ⟨B, ρ, M1, Xd, Qd, s1, q, f.step e1⟩
theorem ve_and (es : List CE) (hv : ∀ c ∈ es, VE Γ Φ c) : VE Γ Φ (.and es) := by
  intro X W sc so ok e h
  cases e <;> first | exact noF h rfl | skip
  case BoolOp op es' pos =>
    cases op <;> first | exact noF h rfl | skip
    obtain ⟨_, h⟩ := and2 h
    obtain ⟨h1, h2⟩ := and2 h
    exact and_run hv ok es' h1 (of_decide_eq_true h2)
theorem ve_or (es : List CE) (hv : ∀ c ∈ es, VE Γ Φ c) : VE Γ Φ (.or es) := by
  intro X W sc so ok e h
  cases e <;> first | exact noF h rfl | skip
  case BoolOp op es' pos =>
    cases op <;> first | exact noF h rfl | skip
    obtain ⟨_, h⟩ := and2 h
    obtain ⟨h1, h2⟩ := and2 h
    exact or_run hv ok es' h1 (of_decide_eq_true h2)
/-! a slice -/
theorem sl_fin {X : Cx} {d : D} {v : V} {l r : Option Int} (g : Good X.K H M B) (rd : Rep X.K H M B d v) (q : slD d l r M Qd) (f : Fol X H M B Qd Q) : RSl X v l r H Q := ⟨d, M, B, Qd, g, rd, f, by cases d <;> first | exact q | exact (show False from q).elim⟩
theorem withB_some {o : Option (Option Int)} {k : Option Int → Prop} (h : withB o k) : ∃ l, o = some l ∧ k l := by
  cases o with
  | none => exact h.elim
  | some d => exact ⟨d, rfl, h⟩
/-- a bound: nothing, or a whole number -/
theorem po_run {cs : List CE} (hv : ∀ c ∈ cs, VE Γ Φ c) {X : Cx} {W : WX} {sc so : Scope} (ok : COk Γ Φ X W sc so) {oe : Option Expr} (h : (match oe with | none => cs.isEmpty | some x => mEs Γ .v sc cs [x]) = true) :
    ∃ t, PO X oe t ∧ ∀ (B : Bad) (σ : SV) (H : Hp) (ρ : DEnv) (M : Mem) (Xd : XQ) (k : Option Int → Mem → Prop) (R : Option Int → Hp → Prop), S0 Γ X W B σ H ρ M Xd → wpEs Φ cs ρ M Xd (fun l M2 => withB (bndD l) fun l' => k l' M2) → (∀ o H1 M1, Ext H M H1 M1 → S0 Γ X W B σ H1 ρ M1 Xd → k o M1 → R o H1) → t σ H R := by
  cases oe with
  | none =>
    cases cs with
    | cons _ _ => exact noF h rfl
    | nil => exact ⟨_, po_none, fun B σ H ρ M Xd k R s hw f => f none H M (Ext.refl _ _) s hw⟩
  | some x =>
    cases cs with
    | nil => exact noF h rfl
    | cons c cs =>
      obtain ⟨h1, h2⟩ := and2 h
      cases cs with
      | cons _ _ => exact noF h2 rfl
      | nil =>
        refine ⟨_, po_some' (hv c (by simp) X W sc so ok x h1), fun B σ H ρ M Xd k R s hw f => ?_⟩
        refine mkD s (show wpE Φ c ρ M Xd _ from hw) fun y vy H1 M1 e1 s1 r1 q => ?_
        obtain ⟨o, e, q⟩ := withB_some q
        cases y <;> first | (cases e; done) | skip
        case int i =>
          cases e
          exact ⟨i, r1, f _ _ _ e1 s1 q⟩
theorem ve_sl (a : CE) (lo hi : List CE) (va : VE Γ Φ a) (hl : ∀ c ∈ lo, VE Γ Φ c) (hh : ∀ c ∈ hi, VE Γ Φ c) : VE Γ Φ (.sl a lo hi) := by
  intro X W sc so ok e h
  cases e <;> first | exact noF h rfl | skip
  case Subscript a' b' pos =>
    cases b' <;> first | exact noF h rfl | skip
    case Slice lo' hi' st p2 =>
      cases st with
      | some _ => exact noF h rfl
      | none =>
        obtain ⟨_, h⟩ := and2 h
        obtain ⟨h1, h⟩ := and2 h
        obtain ⟨h2, h3⟩ := and2 h
        obtain ⟨t1, p1, k1⟩ := po_run hl ok h2
        obtain ⟨t2, p2, k2⟩ := po_run hh ok h3
        refine PE.mono (pe_slice sl_ok (va X W sc so ok a' h1) p1 p2) fun σ H Q ⟨B, ρ, M, Xd, Qd, s, hw, f⟩ => ?_
        refine mkD s hw fun x vx H1 M1 e1 s1 r1 q1 => ?_
        refine k1 _ _ _ _ _ _ _ _ s1 q1 fun o H2 M2 e2 s2 q2 => ?_
        refine k2 _ _ _ _ _ _ _ _ s2 q2 fun o' H3 M3 e3 s3 q3 => ?_
        exact sl_fin s3.good ((r1.ext s1.good e2).ext s2.good e3) q3 (f.step ((e1.trans e2).trans e3))
theorem isRev_st {X : Cx} {k : Nat} {p1 p2 : Pos} : PO X (some (.UnaryOp .USub (.Constant (.int 1) k p1) p2)) (tPart (tUn (rU fun i => .int (-i)) (tC (.int 1)))) := po_some (pe_un un_neg pe_int)
theorem stepV_revlen {α : Type} (xs : List α) (h : xs.length ≤ sizeLine) : (stepV xs none none (-1)).length ≤ sizeLine := by rw [stepV_rev, List.length_reverse]; exact h
theorem ve_slr (a : CE) (va : VE Γ Φ a) : VE Γ Φ (.slr a) := by
  intro X W sc so ok e h
  cases e <;> first | exact noF h rfl | skip
  case Subscript a' b' pos =>
    obtain ⟨_, h⟩ := and2 h
    obtain ⟨h0, h⟩ := and2 h
    obtain ⟨k, p1, p2, p3, rfl⟩ := isRev_of h0
    refine PE.mono (pe_step (va X W sc so ok _ h) po_none po_none isRev_st) fun σ H Q ⟨B, ρ, M, Xd, Qd, s, hw, f⟩ => ?_
    refine mkD s hw fun x vx H1 M1 e1 s1 r1 q1 => ?_
    refine ⟨1, rfl, -1, rfl, ?_⟩
    cases x <;> first | exact (show False from q1).elim | skip
    case lst xs =>
      obtain ⟨p, vs, rfl, hp, z, rr⟩ := r1
      exact .inr ⟨p, vs, rfl, rfl, rfl, rfl, SqL.of hp.1, fun p' hp' => (f.step e1).lst s1.good hp' rr.rev (by rw [List.length_reverse]; exact z) q1⟩
    case tup xs =>
      obtain ⟨p, vs, rfl, hp, z, rr⟩ := tupF r1
      refine .inl ⟨-1, p, vs, rfl, rfl, hp, by decide, by decide, stepV_revlen vs (by rw [← rr.length]; exact z), fun p' hp' => ?_⟩
      rw [stepV_rev]
      exact (f.step e1).tup s1.good hp' rr.rev (by rw [List.length_reverse]; exact z) q1
theorem ve_sls (a : CE) (lo : List CE) (k : Nat) (va : VE Γ Φ a) (hl : ∀ c ∈ lo, VE Γ Φ c) : VE Γ Φ (.sls a lo k) := by
  intro X W sc so ok e h
  cases e <;> first | exact noF h rfl | skip
  case Subscript a' b' pos =>
    cases b' <;> first | exact noF h rfl | skip
    case Slice lo' hi' st p2 =>
      cases hi' with
      | some _ => exact noF h (by cases st <;> rfl)
      | none =>
        cases st with
        | none => exact noF h rfl
        | some ste =>
          cases ste <;> first | exact noF h rfl | skip
          case Constant c kk p3 =>
            cases c <;> first | exact noF h rfl | skip
            case int i =>
              obtain ⟨_, h⟩ := and2 h
              obtain ⟨h0, h⟩ := and2 h
              obtain ⟨h1, h2⟩ := and2 h
              have h0 := of_decide_eq_true h0
              subst h0
              obtain ⟨t1, p1, k1⟩ := po_run hl ok h2
              refine PE.mono (pe_step (va X W sc so ok a' h1) p1 po_none (po_some pe_int)) fun σ H Q ⟨B, ρ, M, Xd, Qd, s, hw, f⟩ => ?_
              refine mkD s hw fun x vx H1 M1 e1 s1 r1 q1 => ?_
              refine k1 _ _ _ _ _ _ _ _ s1 q1 fun o H2 M2 e2 s2 q2 => ?_
              refine ⟨_, rfl, ?_⟩
              have r2 := r1.ext s1.good e2
              cases x <;> first | exact (show False from q2).elim | skip
              case tup xs =>
                obtain ⟨p, vs, rfl, hp, z, rr⟩ := tupF r2
                obtain ⟨⟨g1, g2⟩, q⟩ := q2
                have rs := stepV_reps rr o none (k : Int)
                exact .inl ⟨(k : Int), p, vs, rfl, rfl, hp, by omega, by omega, by rw [← rs.length]; exact g2, fun p' hp' => (f.step (e1.trans e2)).tup s2.good hp' rs g2 q⟩
end
end RF
namespace RF
open PySem PySem.Spec PyProof.Rows L2
section
variable {Γ : Cfg} {Φ : Nat → Spec} {Q : VK} {B : Bad} {σ : SV} {H H1 : Hp} {ρ : DEnv} {M M1 : Mem} {Xd : XQ} {Qd : QD} {K : PySem.W.Frag}
theorem hcal_of {b : Bi} (h : (Γ.calm || decide (b = .len)) = true) : Γ.calm = true ∨ b = .len := by
  rcases Bool.or_eq_true_iff.mp h with h | h
  · exact .inl h
  · exact .inr (of_decide_eq_true h)
theorem tT_blk (hc : Γ.calm = true) {X : Cx} {s : Shared} {h : Hp} {scope : Scope} {ce : Env} {fp : List Addr} {w : DEnv → Mem → XQ → (Bool → Mem → Prop) → Prop} {Q : Bool → Hp → Prop} (q : tT Γ X noW w σ H Q) : tT Γ (X.blk s h scope ce fp) noW w σ H Q := by
  obtain ⟨B, ρ, M, Xd, Qd, s0, hw, f⟩ := q
  exact ⟨B, ρ, M, Xd, Qd, ⟨s0.good, s0.env, s0.xl.go, fun z => absurd (hc.symm.trans z) (by decide)⟩, hw, f⟩
theorem tD_blk (hc : Γ.calm = true) {X : Cx} {s : Shared} {h : Hp} {scope : Scope} {ce : Env} {fp : List Addr} {w : DEnv → Mem → XQ → QD → Prop} (q : tD Γ X noW w σ H Q) : tD Γ (X.blk s h scope ce fp) noW w σ H Q := by
  obtain ⟨B, ρ, M, Xd, Qd, s0, hw, f⟩ := q
  exact ⟨B, ρ, M, Xd, Qd, ⟨s0.good, s0.env, s0.xl.go, fun z => absurd (hc.symm.trans z) (by decide)⟩, hw, f⟩
theorem tI_blk (hc : Γ.calm = true) {X : Cx} {s : Shared} {h : Hp} {scope : Scope} {ce : Env} {fp : List Addr} {w : DEnv → Mem → XQ → QL → Prop} {Q : It → Hp → Prop} (q : tI Γ X noW w σ H Q) : tI Γ (X.blk s h scope ce fp) noW w σ H Q := by
  obtain ⟨B, ρ, M, Xd, Qd, s0, hw, f⟩ := q
  exact ⟨B, ρ, M, Xd, Qd, ⟨s0.good, s0.env, s0.xl.go, fun z => absurd (hc.symm.trans z) (by decide)⟩, hw, f⟩
theorem pts_run {cs : List CE} (hv : ∀ c ∈ cs, VT Γ Φ c) (hl : cs.length ≤ 1) {X : Cx} {W : WX} {sc so : Scope} (ok : COk Γ Φ X W sc so) : ∀ (es : List Expr), mEs Γ .t sc cs es = true → PTs X es (tT Γ X W (wpTs Φ cs)) := by
  intro es h
  match cs, es, h, hl with
  | [], [], _, _ =>
    refine ⟨fun pins s σ H Q I ⟨B, ρ, M, Xd, Qd, s0, hw, f⟩ => ?_⟩
    exact pts_nil.run pins s σ H Q I (f true H M (Ext.refl _ _) s0.good hw)
  | [c], [e], h, _ => exact pts_one (hv c (by simp) X W sc so ok e (and2 h).1)
  | [], _ :: _, h, _ => exact noF h rfl
  | [c], [], h, _ => exact noF h rfl
  | [c], _ :: _ :: _, h, _ => exact noF (and2 h).2 rfl
  | _ :: _ :: _, _, _, hl => exact absurd hl (by simp)
theorem ve_lc (own : List (Str × Nat)) (tg : Tg) (it : CE) (ifs : List CE) (elt : CE) (vi : VI Γ Φ it) (vt : ∀ c ∈ ifs, VT Γ Φ c) (ve : VE Γ Φ elt) : VE Γ Φ (.lc own tg it ifs elt) := by
  intro X W sc so ok e h
  cases e <;> first | exact noF h rfl | skip
  case ListComp elt' gens scope pos =>
    cases gens with
    | nil => exact noF h rfl
    | cons g gs =>
      obtain ⟨tg', it', ifs', n⟩ := g
      cases gs with
      | cons _ _ => exact noF h rfl
      | nil =>
          replace h := (and2 h).2
          have h0 := (and2 h).1
          replace h := (and2 h).2
          obtain rfl := of_decide_eq_true h0
          obtain ⟨hc, h⟩ := and2 h
          obtain ⟨h1, h⟩ := and2 h
          obtain ⟨h2, h⟩ := and2 h
          obtain ⟨h3, h⟩ := and2 h
          obtain ⟨h4, h⟩ := and2 h
          obtain ⟨h5, h⟩ := and2 h
          obtain ⟨h6, h7⟩ := and2 h
          have hs : ∀ i ∈ tgIx tg, i ∈ own.map (·.2) := by simpa using h4
          have hB : BlkOk X.N X.env.scope scope own := by rw [ok.N, ok.sc]; exact blkOk_by h2
          refine PE.mono (pe_lc (g := gD X tg) (tt := tT Γ X noW (wpTs Φ ifs)) (te := tD Γ X noW (wpE Φ elt)) (ok.calm hc) (by rw [ok.N]; exact ok.nd) (vi X W sc so ok it' tg' h1) hB ?_ ?_ ?_ (notSet_of (mE_head h1))) fun σ H Q q => (by rw [← snds_eq]; exact lc_read (by rw [snds_eq]; exact hs) q)
          · intro s H C cl fp
            have okb := ok.blk s H scope cl C fp
            exact PG.mono (pg_ok okb.stok okb.calm tg tg' h3) fun v σ H Q q => q
          · intro s H C cl fp
            have okb := ok.blk s H scope cl C fp
            exact ⟨fun pins s σ H Q I q => (pts_run vt (of_decide_eq_true h5) okb ifs' h6).run pins s σ H Q I (tT_blk hc q)⟩
          · intro s H C cl fp
            have okb := ok.blk s H scope cl C fp
            exact PE.mono (ve _ _ _ _ okb elt' h7) fun σ H Q q => tD_blk hc q
theorem ve_dc (own : List (Str × Nat)) (tg : Tg) (it : CE) (ifs : List CE) (ke el : CE) (vi : VI Γ Φ it) (vt : ∀ c ∈ ifs, VT Γ Φ c) (vk : VE Γ Φ ke) (ve : VE Γ Φ el) : VE Γ Φ (.dc own tg it ifs ke el) := by
  intro X W sc so ok e h
  cases e <;> first | exact noF h rfl | skip
  case DictComp ke' elt' gens scope pos =>
    cases gens with
    | nil => exact noF h rfl
    | cons g gs =>
      obtain ⟨tg', it', ifs', n⟩ := g
      cases gs with
      | cons _ _ => exact noF h rfl
      | nil =>
          replace h := (and2 h).2
          have h0 := (and2 h).1
          replace h := (and2 h).2
          obtain rfl := of_decide_eq_true h0
          obtain ⟨hc, h⟩ := and2 h
          obtain ⟨h1, h⟩ := and2 h
          obtain ⟨h2, h⟩ := and2 h
          obtain ⟨h3, h⟩ := and2 h
          obtain ⟨h4, h⟩ := and2 h
          obtain ⟨h5, h⟩ := and2 h
          obtain ⟨h6, h7⟩ := and2 h
          obtain ⟨h7, h8⟩ := and2 h7
          have hs : ∀ i ∈ tgIx tg, i ∈ own.map (·.2) := by simpa using h4
          have hB : BlkOk X.N X.env.scope scope own := by rw [ok.N, ok.sc]; exact blkOk_by h2
          refine PE.mono (pe_dc (g := gD X tg) (tt := tT Γ X noW (wpTs Φ ifs)) (tk := tD Γ X noW (wpE Φ ke)) (tv := tD Γ X noW (wpE Φ el)) (ok.calm hc) (by rw [ok.N]; exact ok.nd) (vi X W sc so ok it' tg' h1) hB ?_ ?_ ?_ ?_ (notSet_of (mE_head h1))) fun σ H Q q => (by rw [← snds_eq]; exact dc_read (by rw [snds_eq]; exact hs) q)
          · intro s H C cl fp
            have okb := ok.blk s H scope cl C fp
            exact PG.mono (pg_ok okb.stok okb.calm tg tg' h3) fun v σ H Q q => q
          · intro s H C cl fp
            have okb := ok.blk s H scope cl C fp
            exact ⟨fun pins s σ H Q I q => (pts_run vt (of_decide_eq_true h5) okb ifs' h6).run pins s σ H Q I (tT_blk hc q)⟩
          · intro s H C cl fp
            have okb := ok.blk s H scope cl C fp
            exact PE.mono (vk _ _ _ _ okb ke' h7) fun σ H Q q => tD_blk hc q
          · intro s H C cl fp
            have okb := ok.blk s H scope cl C fp
            exact PE.mono (ve _ _ _ _ okb elt' h8) fun σ H Q q => tD_blk hc q
theorem two_trees {m : Md} {sc : Scope} {a b : CE} {es : List Expr} (h : mEs Γ m sc [a, b] es = true) : ∃ x y, es = [x, y] ∧ mE Γ m sc a x = true ∧ mE Γ m sc b y = true := by
  match es, h with
  | [x, y], h =>
    obtain ⟨h1, h2⟩ := and2 h
    exact ⟨x, y, rfl, h1, (and2 h2).1⟩
  | [], h => cases h
  | [_], h => exact noF (and2 h).2 rfl
  | _ :: _ :: _ :: _, h => exact noF (and2 (and2 h).2).2 rfl
theorem dget_run {X : Cx} {W : WX} {sc so : Scope} (ok : COk Γ Φ X W sc so) {o k f : CE} {o' k' f' : Expr} {ap cp : Pos} (hl : (ap.endLine == cp.line) = true) (hs : noSup o' = true) (vo : VE Γ Φ o) (vk : VE Γ Φ k) (vf : VE Γ Φ f)
    (ho : mE Γ .v sc o o' = true) (hk : mE Γ .v sc k k' = true) (hf : mE Γ .v sc f f' = true) : PE X (.Call (.Attribute o' "get" ap) [k', f'] [] cp) (tD Γ X W (wpE Φ (.mt .dget o [k, f]))) := by
  have e1 := star_of (es := [f']) (env := X.env) (mE_head hk)
  have e2 := star_of (es := []) (env := X.env) (mE_head hf)
  have tr : backTo cp (starEach [k', f'] X.env) = [(false, eval k' X.env), (false, eval f' X.env)] := by rw [e1, e2]; rfl
  refine PE.mono (pe_dget2 (by have := ok.units; omega) (vo X W sc so ok o' ho) (vk X W sc so ok k' hk) (vf X W sc so ok f' hf) ⟨sup_base hs, by rw [tr]; rfl, hl, tr⟩) fun σ H Q ⟨B, ρ, M, Xd, Qd, s, hw, f⟩ => ?_
  refine mkD s hw fun x vx H1 M1 e1 s1 r1 q1 => ?_
  cases x <;> first | exact (show False from q1).elim | skip
  case dct ks xs =>
    obtain ⟨a, vs, rfl, h1, lk, z1, rr⟩ := r1
    refine ⟨a, rfl, .inl ⟨_, .inl h1.1⟩, mkD s1 q1 fun y vy H2 M2 e2 s2 r2 q2 => mkD s2 q2 fun z vz H3 M3 e3 s3 r3 q3 => ?_⟩
    obtain ⟨key, rfl, q4⟩ := keyD_v (r2.ext s2.good e3) q3
    have g1 := e2 a _ h1.1 h1.2.1
    have g2 := e3 a _ g1.1 g1.2
    have rx : Reps X.K H3 M3 B xs vs := (rr.ext s1.good e2).ext s2.good e3
    refine ⟨_, DGet.k g2.1, ?_⟩
    rcases valL_rep (k := key) lk rx with ⟨z1, z2⟩ | ⟨d, v, z1, z2, z3⟩
    · rw [z1] at q4
      rw [z2]
      exact (f.step ((e1.trans e2).trans e3)).here s3.good r3 q4
    · rw [z1] at q4
      rw [z2]
      exact (f.step ((e1.trans e2).trans e3)).here s3.good z3 q4
theorem ve_mt (b : Mt) (o : CE) (es : List CE) (vo : VE Γ Φ o) (ve : ∀ c ∈ es, VE Γ Φ c) : VE Γ Φ (.mt b o es) := by
  intro X W sc so ok e h
  have h : (Md.v.isV && (match meth1 e with
    | some (a', f, es') => decide (f = b.nm) && (decide (es.length = b.ar) && (noSup a' && (mE Γ .v sc o a' && mEs Γ .v sc es es')))
    | none => false)) = true := h
  replace h := (and2 h).2
  cases q : meth1 e with
  | none => rw [q] at h; cases h
  | some af =>
    obtain ⟨a', f, es'⟩ := af
    rw [q] at h
    obtain ⟨h1, h2⟩ := and2 (show (decide (f = b.nm) && (decide (es.length = b.ar) && (noSup a' && (mE Γ .v sc o a' && mEs Γ .v sc es es')))) = true from h)
    obtain ⟨h2, h3'⟩ := and2 h2
    obtain ⟨h3, h4'⟩ := and2 h3'
    obtain ⟨h4, h5⟩ := and2 h4'
    have h1 := of_decide_eq_true h1
    have h2 := of_decide_eq_true h2
    obtain ⟨ap, cp, rfl, hl⟩ := meth1_of q
    subst h1
    cases b with
    | dget =>
      match es, h2, ve, h5 with
      | [k, f], _, ve, h5 =>
        obtain ⟨x, y, rfl, g1, g2⟩ := two_trees h5
        exact dget_run ok hl h3 vo (ve k (by simp)) (ve f (by simp)) h4 g1 g2
theorem ve_lc2 (own : List (Str × Nat)) (tg : Tg) (it : CE) (ifs : List CE) (vs1 : List Nat) (tg1 : Tg) (it1 : CE) (ifs1 : List CE) (elt : CE) (vi : VI Γ Φ it) (vt : ∀ c ∈ ifs, VT Γ Φ c) (vi1 : VI Γ Φ it1) (vt1 : ∀ c ∈ ifs1, VT Γ Φ c) (ve : VE Γ Φ elt) : VE Γ Φ (.lc2 own tg it ifs vs1 tg1 it1 ifs1 elt) := by
  intro X W sc so ok e h
  cases e <;> first | exact noF h rfl | skip
  case ListComp elt' gens scope pos =>
    cases gens with
    | nil => exact noF h rfl
    | cons g gs =>
      obtain ⟨tg', it', ifs', n⟩ := g
      cases gs with
      | nil => exact noF h rfl
      | cons g1 gs =>
        obtain ⟨tg1', it1', ifs1', n1⟩ := g1
        cases gs with
        | cons _ _ => exact noF h rfl
        | nil =>
          replace h := (and2 h).2
          have h0 := (and2 h).1
          replace h := (and2 h).2
          obtain ⟨h00, h01⟩ := and2 h0
          obtain rfl := of_decide_eq_true h00
          obtain rfl := of_decide_eq_true h01
          obtain ⟨hc, h⟩ := and2 h
          obtain ⟨h1, h⟩ := and2 h
          obtain ⟨h2, h⟩ := and2 h
          obtain ⟨h3, h⟩ := and2 h
          obtain ⟨h4, h⟩ := and2 h
          obtain ⟨h5, h⟩ := and2 h
          obtain ⟨h6, h⟩ := and2 h
          obtain ⟨h7, h⟩ := and2 h
          obtain ⟨j1, h⟩ := and2 h
          obtain ⟨j2, h⟩ := and2 h
          obtain ⟨j3, h⟩ := and2 h
          obtain ⟨j3, j4⟩ := and2 j3
          obtain ⟨j5, j6⟩ := and2 h
          have hs : ∀ i ∈ tgIx tg, i ∈ own.map (·.2) := by simpa using h4
          have hs1 : ∀ i ∈ tgIx tg1, i ∈ vs1 := by simpa using j3
          have hv1 : ∀ i ∈ vs1, i ∈ own.map (·.2) := by simpa using j4
          have hB : BlkOk X.N X.env.scope scope own := by rw [ok.N, ok.sc]; exact blkOk_by h2
          refine PE.mono (pe_lc2 (g := gD X tg) (tt := tT Γ X noW (wpTs Φ ifs)) (wi1 := tI Γ X noW (wpI Φ it1)) (g1 := gD X tg1) (tt1 := tT Γ X noW (wpTs Φ ifs1)) (te := tD Γ X noW (wpE Φ elt)) (vs1 := vs1) (ok.calm hc) (by rw [ok.N]; exact ok.nd) (vi X W sc so ok it' tg' h1) hB hv1 ?_ ?_ ?_ ?_ ?_ ?_ (notSet_of (mE_head h1)) (fun env => notSet_of (mE_head j1))) fun σ H Q q => (by rw [← snds_eq]; exact lc2_read (by rw [snds_eq]; exact hs) hs1 q)
          · intro s H C cl fp
            have okb := ok.blk s H scope cl C fp
            exact PG.mono (pg_ok okb.stok okb.calm tg tg' h3) fun v σ H Q q => q
          · intro s H C cl fp
            have okb := ok.blk s H scope cl C fp
            exact ⟨fun pins s σ H Q I q => (pts_run vt (of_decide_eq_true h5) okb ifs' h6).run pins s σ H Q I (tT_blk hc q)⟩
          · intro s H C cl fp
            have okb := ok.blk s H scope cl C fp
            exact PI.mono (vi1 _ _ _ _ okb it1' tg1' j1) fun σ H Q q => tI_blk hc q
          · intro s H C cl fp
            have okb := ok.blk s H scope cl C fp
            exact PG.mono (pg_ok okb.stok okb.calm tg1 tg1' j2) fun v σ H Q q => q
          · intro s H C cl fp
            have okb := ok.blk s H scope cl C fp
            exact ⟨fun pins s σ H Q I q => (pts_run vt1 (of_decide_eq_true j5) okb ifs1' j6).run pins s σ H Q I (tT_blk hc q)⟩
          · intro s H C cl fp
            have okb := ok.blk s H scope cl C fp
            exact PE.mono (ve _ _ _ _ okb elt' h7) fun σ H Q q => tD_blk hc q
theorem mE_isI {m : Md} {sc : Scope} {t : BT} {es : List CE} {x : Str} {p pos : Pos} {as : List Expr} : mE Γ m sc (.bi (.isI t) es) (.Call (.Name x p) as [] pos) = (!m.isI && (match isiArgs as with
      | some (a', y) => mEs Γ .v sc es [a'] && (bltB Γ sc x "isinstance" && bltB Γ sc y (Str.ofString t.nm))
      | none => false)) := by
  unfold mE; rfl
theorem mE_isI2 {m : Md} {sc : Scope} {t u : BT} {es : List CE} {x : Str} {p pos : Pos} {as : List Expr} : mE Γ m sc (.bi (.isI2 t u) es) (.Call (.Name x p) as [] pos) = (!m.isI && (match isi2Args as with
      | some (a', y, z) => mEs Γ .v sc es [a'] && (bltB Γ sc x "isinstance" && (bltB Γ sc y (Str.ofString t.nm) && bltB Γ sc z (Str.ofString u.nm)))
      | none => false)) := by
  unfold mE; rfl
theorem mE_listRg {m : Md} {sc : Scope} {es : List CE} {x : Str} {p pos : Pos} {as : List Expr} : mE Γ m sc (.bi .listRg es) (.Call (.Name x p) as [] pos) = (!m.isT && (match rgArgs as with
      | some (y, es') => mEs Γ .v sc es es' && (Γ.calm && (bltB Γ sc x "list" && (bltB Γ sc y "range" && decide (es.length = 1 ∨ es.length = 2))))
      | none => false)) := by
  unfold mE; rfl
theorem mE_tupleRg {m : Md} {sc : Scope} {es : List CE} {x : Str} {p pos : Pos} {as : List Expr} : mE Γ m sc (.bi .tupleRg es) (.Call (.Name x p) as [] pos) = (!m.isT && (match rgArgs as with
      | some (y, es') => mEs Γ .v sc es es' && (Γ.calm && (bltB Γ sc x "tuple" && (bltB Γ sc y "range" && decide (es.length = 1 ∨ es.length = 2))))
      | none => false)) := by
  unfold mE; rfl
theorem ve_bi (b : Bi) (es : List CE) (hv : ∀ c ∈ es, VE Γ Φ c) : VE Γ Φ (.bi b es) := by
  intro X W sc so ok e h
  cases e <;> first | exact noF h rfl | skip
  case Call fn as kws pos =>
    cases fn <;> first | exact noF h rfl | skip
    case Name x p =>
      cases kws with
      | cons _ _ => exact noF h rfl
      | nil =>
        have std : (∀ t, b ≠ .isI t) → (mEs Γ .v sc es as && ((Γ.calm || decide (b = .len)) && (bltB Γ sc x b.nm && decide (b.ar = some es.length)))) = true → PE X (.Call (.Name x p) as [] pos) (tD Γ X W (wpE Φ (.bi b es))) := by
          intro ni h
          obtain ⟨h1, h⟩ := and2 h
          obtain ⟨h2, h⟩ := and2 h
          obtain ⟨h3, h4⟩ := and2 h
          have har := of_decide_eq_true h4
          have hl := mEs_len h1
          cases as with
          | nil =>
            rw [hl] at har
            cases b <;> cases har
          | cons e es'' =>
            cases es with
            | nil => simp at hl
            | cons c cs =>
              obtain ⟨m1, m2⟩ := and2 h1
              exact bi_run ok (hcal_of h2) h3 har ni (ves_run hv ok _ h1) (mE_head m1) (plain_star m2)
        cases b <;> first | exact std (fun t z => nomatch z) h | exact noF h rfl | skip
        case isI t =>
          rw [mE_isI] at h
          replace h := (and2 h).2
          cases q : isiArgs as with
          | none => rw [q] at h; cases h
          | some ay =>
            obtain ⟨a', y⟩ := ay
            rw [q] at h
            obtain ⟨p2, rfl⟩ := isiArgs_of q
            obtain ⟨h1, h2⟩ := and2 h
            obtain ⟨h2, h3⟩ := and2 h2
            have hl := mEs_len h1
            match es, hl, h1, hv with
            | [a], _, h1, hv =>
              obtain ⟨m1, _⟩ := and2 h1
              exact isI_run ok h2 h3 (hv a (by simp) X W sc so ok a' m1) (mE_head m1)
        case isI2 t u =>
          rw [mE_isI2] at h
          replace h := (and2 h).2
          cases q : isi2Args as with
          | none => rw [q] at h; cases h
          | some ay =>
            obtain ⟨a', y, z⟩ := ay
            rw [q] at h
            obtain ⟨p2, p3, k, p4, rfl⟩ := isi2Args_of q
            obtain ⟨h1, h2⟩ := and2 h
            obtain ⟨h2, h3⟩ := and2 h2
            obtain ⟨h3, h4⟩ := and2 h3
            have hl := mEs_len h1
            match es, hl, h1, hv with
            | [a], _, h1, hv =>
              obtain ⟨m1, _⟩ := and2 h1
              exact isI2_run ok h2 h3 h4 (hv a (by simp) X W sc so ok a' m1) (mE_head m1)
        case listRg =>
          rw [mE_listRg] at h
          replace h := (and2 h).2
          cases q : rgArgs as with
          | none => rw [q] at h; cases h
          | some ay =>
            obtain ⟨y, es'⟩ := ay
            rw [q] at h
            obtain ⟨p2, pos2, rfl⟩ := rgArgs_of q
            obtain ⟨h1, h⟩ := and2 h
            obtain ⟨h2, h⟩ := and2 h
            obtain ⟨h3, h⟩ := and2 h
            obtain ⟨h4, h5⟩ := and2 h
            have hl := mEs_len h1
            have h5 := of_decide_eq_true h5
            match es, es', hl, h1, hv, h5 with
            | [a], [a'], _, h1, hv, _ =>
              obtain ⟨m1, _⟩ := and2 h1
              exact rg1_run ok h2 h3 h4 (hv a (by simp) X W sc so ok a' m1) (mE_head m1)
            | [a, b], [a', b'], _, h1, hv, _ =>
              obtain ⟨m1, m2⟩ := and2 h1
              obtain ⟨m2, _⟩ := and2 m2
              exact rg2_run ok h2 h3 h4 (hv a (by simp) X W sc so ok a' m1) (hv b (by simp) X W sc so ok b' m2) (mE_head m1) (mE_head m2)
            | [], _, _, _, _, h5 => simp at h5
            | _ :: _ :: _ :: _, _, _, _, _, h5 => simp at h5
        case tupleRg =>
          rw [mE_tupleRg] at h
          replace h := (and2 h).2
          cases q : rgArgs as with
          | none => rw [q] at h; cases h
          | some ay =>
            obtain ⟨y, es'⟩ := ay
            rw [q] at h
            obtain ⟨p2, pos2, rfl⟩ := rgArgs_of q
            obtain ⟨h1, h⟩ := and2 h
            obtain ⟨h2, h⟩ := and2 h
            obtain ⟨h3, h⟩ := and2 h
            obtain ⟨h4, h5⟩ := and2 h
            have hl := mEs_len h1
            have h5 := of_decide_eq_true h5
            match es, es', hl, h1, hv, h5 with
            | [a], [a'], _, h1, hv, _ =>
              obtain ⟨m1, _⟩ := and2 h1
              exact trg1_run ok h2 h3 h4 (hv a (by simp) X W sc so ok a' m1) (mE_head m1)
            | [a, b], [a', b'], _, h1, hv, _ =>
              obtain ⟨m1, m2⟩ := and2 h1
              obtain ⟨m2, _⟩ := and2 m2
              exact trg2_run ok h2 h3 h4 (hv a (by simp) X W sc so ok a' m1) (hv b (by simp) X W sc so ok b' m2) (mE_head m1) (mE_head m2)
            | [], _, _, _, _, h5 => simp at h5
            | _ :: _ :: _ :: _, _, _, _, _, h5 => simp at h5
theorem ve_bits (a : CE) (va : VE Γ Φ a) : VE Γ Φ (.bits a) := by
  intro X W sc so ok e h
  have h : (Md.v.isV && (match meth0 e with
    | some (a', f) => decide (f = ("bit_length" : Str)) && (noSup a' && mE Γ .v sc a a')
    | none => false)) = true := h
  replace h := (and2 h).2
  cases q : meth0 e with
  | none => rw [q] at h; cases h
  | some af =>
    obtain ⟨a', f⟩ := af
    rw [q] at h
    obtain ⟨h1, h2⟩ := and2 h
    obtain ⟨h2, h3⟩ := and2 h2
    have h1 := of_decide_eq_true h1
    obtain ⟨ap, cp, e1, hl⟩ := meth0_of q
    subst h1
    subst e1
    exact bits_run h2 hl (va X W sc so ok a' h3)
theorem ve_live (c : CE) (hc : isNewL c = true → ∀ (X : Cx) (W : WX) (sc so : Scope), COk Γ Φ X W sc so → ∀ e, mE Γ .v sc c e = true → PE X e (tD Γ X W (wpE Φ (.live c)))) : VE Γ Φ (.live c) := by
  intro X W sc so ok e h
  obtain ⟨_, h⟩ := and2 (show (Md.v.isV && (isNewL c && mE Γ .v sc c e)) = true from h)
  obtain ⟨h1, h2⟩ := and2 h
  exact hc h1 X W sc so ok e h2
theorem live_lc (own : List (Str × Nat)) (tg : Tg) (it : CE) (ifs : List CE) (elt : CE) (vi : VI Γ Φ it) (vt : ∀ c ∈ ifs, VT Γ Φ c) (ve : VE Γ Φ elt) (X : Cx) (W : WX) (sc so : Scope) (ok : COk Γ Φ X W sc so) (e : Expr) (h : mE Γ .v sc (.lc own tg it ifs elt) e = true) : PE X e (tD Γ X W (wpE Φ (.live (.lc own tg it ifs elt)))) := by
  cases e <;> first | exact noF h rfl | skip
  case ListComp elt' gens scope pos =>
    cases gens with
    | nil => exact noF h rfl
    | cons g gs =>
      obtain ⟨tg', it', ifs', n⟩ := g
      cases gs with
      | cons _ _ => exact noF h rfl
      | nil =>
          replace h := (and2 h).2
          have h0 := (and2 h).1
          replace h := (and2 h).2
          obtain rfl := of_decide_eq_true h0
          obtain ⟨hc, h⟩ := and2 h
          obtain ⟨h1, h⟩ := and2 h
          obtain ⟨h2, h⟩ := and2 h
          obtain ⟨h3, h⟩ := and2 h
          obtain ⟨h4, h⟩ := and2 h
          obtain ⟨h5, h⟩ := and2 h
          obtain ⟨h6, h7⟩ := and2 h
          have hs : ∀ i ∈ tgIx tg, i ∈ own.map (·.2) := by simpa using h4
          have hB : BlkOk X.N X.env.scope scope own := by rw [ok.N, ok.sc]; exact blkOk_by h2
          refine PE.mono (pe_lc (g := gD X tg) (tt := tT Γ X noW (wpTs Φ ifs)) (te := tD Γ X noW (wpE Φ elt)) (ok.calm hc) (by rw [ok.N]; exact ok.nd) (vi X W sc so ok it' tg' h1) hB ?_ ?_ ?_ (notSet_of (mE_head h1))) fun σ H Q q => (by rw [← snds_eq]; exact lc_readL (by rw [snds_eq]; exact hs) q)
          · intro s H C cl fp
            have okb := ok.blk s H scope cl C fp
            exact PG.mono (pg_ok okb.stok okb.calm tg tg' h3) fun v σ H Q q => q
          · intro s H C cl fp
            have okb := ok.blk s H scope cl C fp
            exact ⟨fun pins s σ H Q I q => (pts_run vt (of_decide_eq_true h5) okb ifs' h6).run pins s σ H Q I (tT_blk hc q)⟩
          · intro s H C cl fp
            have okb := ok.blk s H scope cl C fp
            exact PE.mono (ve _ _ _ _ okb elt' h7) fun σ H Q q => tD_blk hc q
theorem live_listOf (es : List CE) (hv : ∀ c ∈ es, VE Γ Φ c) (X : Cx) (W : WX) (sc so : Scope) (ok : COk Γ Φ X W sc so) (e : Expr) (h : mE Γ .v sc (.bi .listOf es) e = true) : PE X e (tD Γ X W (wpE Φ (.live (.bi .listOf es)))) := by
  cases e <;> first | exact noF h rfl | skip
  case Call fn as kws pos =>
    cases fn <;> first | exact noF h rfl | skip
    case Name x p =>
      cases kws with
      | cons _ _ => exact noF h rfl
      | nil =>
        have h : (mEs Γ .v sc es as && ((Γ.calm || decide (Bi.listOf = .len)) && (bltB Γ sc x "list" && decide ((some 1 : Option Nat) = some es.length)))) = true := h
        obtain ⟨h1, h⟩ := and2 h
        obtain ⟨h2, h⟩ := and2 h
        obtain ⟨h3, h4⟩ := and2 h
        have har := of_decide_eq_true h4
        have hl := mEs_len h1
        cases as with
        | nil => rw [hl] at har; cases har
        | cons e es'' =>
          cases es with
          | nil => simp at hl
          | cons c cs =>
            obtain ⟨m1, m2⟩ := and2 h1
            exact listL_run ok h3 (ves_run hv ok _ h1) (mE_head m1) (plain_star m2)
/-! ### tests -/
theorem tand_run {cs : List CE} (hv : ∀ c ∈ cs, VT Γ Φ c) {X : Cx} {W : WX} {sc so : Scope} (ok : COk Γ Φ X W sc so) {pos : Pos} : ∀ (es : List Expr), mEs Γ .t sc cs es = true → 0 < cs.length → PW X (.BoolOp .And es pos) (tT Γ X W (wpTA Φ cs)) := by
  induction cs with
  | nil => intro es h h0; exact absurd h0 (Nat.lt_irrefl 0)
  | cons c cs ih =>
    intro es h h0
    cases es with
    | nil => exact noF h rfl
    | cons e es =>
      obtain ⟨h1, h2⟩ := and2 h
      have hc := hv c (by simp) X W sc so ok e h1
      cases cs with
      | nil =>
        cases es with
        | cons _ _ => exact noF h2 rfl
        | nil => exact pw_and1 hc
      | cons d ds =>
        cases es with
        | nil => exact noF h2 rfl
        | cons e2 es =>
          refine PW.mono (pw_and hc (ih (fun d m => hv d (by simp [m])) _ h2 (by simp))) fun σ H Q ⟨B, ρ, M, Xd, Qd, s, hw, f⟩ => ?_
          refine mkT s hw fun b H1 M1 e1 s1 q => ?_
          cases b with
          | true =>
            simp only [if_true] at q ⊢
            exact ⟨B, ρ, M1, Xd, Qd, s1, q, fun k H' M' e' => f k H' M' (e1.trans e')⟩
          | false =>
            simp only [Bool.false_eq_true, if_false] at q ⊢
            exact f false H1 M1 e1 s1.good q
theorem tor_run {cs : List CE} (hv : ∀ c ∈ cs, VT Γ Φ c) {X : Cx} {W : WX} {sc so : Scope} (ok : COk Γ Φ X W sc so) {pos : Pos} : ∀ (es : List Expr), mEs Γ .t sc cs es = true → 0 < cs.length → PW X (.BoolOp .Or es pos) (tT Γ X W (wpTO Φ cs)) := by
  induction cs with
  | nil => intro es h h0; exact absurd h0 (Nat.lt_irrefl 0)
  | cons c cs ih =>
    intro es h h0
    cases es with
    | nil => exact noF h rfl
    | cons e es =>
      obtain ⟨h1, h2⟩ := and2 h
      have hc := hv c (by simp) X W sc so ok e h1
      cases cs with
      | nil =>
        cases es with
        | cons _ _ => exact noF h2 rfl
        | nil => exact pw_or1 hc
      | cons d ds =>
        cases es with
        | nil => exact noF h2 rfl
        | cons e2 es =>
          refine PW.mono (pw_or hc (ih (fun d m => hv d (by simp [m])) _ h2 (by simp))) fun σ H Q ⟨B, ρ, M, Xd, Qd, s, hw, f⟩ => ?_
          refine mkT s hw fun b H1 M1 e1 s1 q => ?_
          cases b with
          | true =>
            simp only [if_true] at q ⊢
            exact f true H1 M1 e1 s1.good q
          | false =>
            simp only [Bool.false_eq_true, if_false] at q ⊢
            exact ⟨B, ρ, M1, Xd, Qd, s1, q, fun k H' M' e' => f k H' M' (e1.trans e')⟩
theorem vt_and (es : List CE) (hv : ∀ c ∈ es, VT Γ Φ c) : VT Γ Φ (.and es) := by
  intro X W sc so ok e h
  cases e <;> first | exact noF h rfl | skip
  case BoolOp op es' pos =>
    cases op <;> first | exact noF h rfl | skip
    obtain ⟨_, h⟩ := and2 h
    obtain ⟨h1, h2⟩ := and2 h
    exact (tand_run hv ok es' h1 (of_decide_eq_true h2)).pt
theorem vt_or (es : List CE) (hv : ∀ c ∈ es, VT Γ Φ c) : VT Γ Φ (.or es) := by
  intro X W sc so ok e h
  cases e <;> first | exact noF h rfl | skip
  case BoolOp op es' pos =>
    cases op <;> first | exact noF h rfl | skip
    obtain ⟨_, h⟩ := and2 h
    obtain ⟨h1, h2⟩ := and2 h
    exact (tor_run hv ok es' h1 (of_decide_eq_true h2)).pt
theorem vt_not (a : CE) (va : VT Γ Φ a) : VT Γ Φ (.not a) := by
  intro X W sc so ok e h
  cases e <;> first | exact noF h rfl | skip
  case UnaryOp op' a' pos =>
    cases op' <;> first | exact noF h rfl | skip
    obtain ⟨_, h⟩ := and2 h
    refine PT.mono (pt_not (va X W sc so ok a' h)) fun σ H Q ⟨B, ρ, M, Xd, Qd, s, hw, f⟩ => ?_
    exact mkT s hw fun b H1 M1 e1 s1 q => f (!b) H1 M1 e1 s1.good q
theorem vt_cmp (op : CmpOp) (a b : CE) (va : VE Γ Φ a) (vb : VE Γ Φ b) : VT Γ Φ (.cmp op a b) := by
  intro X W sc so ok e h
  cases e <;> first | exact noF h rfl | skip
  case Compare a' ops cs pos =>
    match ops, cs, h with
    | [op'], [b'], h =>
      obtain ⟨_, h⟩ := and2 h
      obtain ⟨h0, h⟩ := and2 h
      obtain ⟨hm, h⟩ := and2 h
      obtain ⟨h1, h2⟩ := and2 h
      obtain rfl := of_decide_eq_true h0
      refine PT.mono (pt_cmpR (cmp2_ok ok.units op) (va X W sc so ok a' h1) (vb X W sc so ok b' h2) (noM hm)) fun σ H Q ⟨B, ρ, M, Xd, Qd, s, hw, f⟩ => ?_
      exact mkD s hw fun x vx H1 M1 e1 s1 r1 q1 => mkD s1 q1 fun y vy H2 M2 e2 s2 r2 q2 => ⟨x, y, M2, B, _, s2.good, r1.ext s1.good e2, r2, q2, fun c q => ⟨c, rfl, f c H2 M2 (e1.trans e2) s2.good q⟩⟩
    | [], _, h => exact noF h (by cases cs <;> rfl)
    | _ :: _ :: _, [], h => exact noF h rfl
    | _ :: _ :: _, [_], h => exact noF h rfl
    | _ :: _ :: _, _ :: _ :: _, h => exact noF h rfl
    | [_], [], h => exact noF h rfl
    | [_], _ :: _ :: _, h => exact noF h rfl
theorem vt_chn (op op2 : CmpOp) (a b c : CE) (va : VE Γ Φ a) (vb : VE Γ Φ b) (vc : VE Γ Φ c) : VT Γ Φ (.chn op op2 a b c) := by
  intro X W sc so ok e h
  cases e <;> first | exact noF h rfl | skip
  case Compare a' ops cs pos =>
    match ops, cs, h with
    | [op', op2'], [b', c'], h =>
      obtain ⟨_, h⟩ := and2 h
      obtain ⟨h0, h⟩ := and2 h
      obtain ⟨h0', h⟩ := and2 h
      obtain ⟨hm, h⟩ := and2 h
      obtain ⟨h1, h⟩ := and2 h
      obtain ⟨h2, h3⟩ := and2 h
      obtain rfl := of_decide_eq_true h0
      obtain rfl := of_decide_eq_true h0'
      refine PT.mono (pt_chain (cmp2_ok ok.units op) (cmp2_ok ok.units op2) (va X W sc so ok a' h1) (vb X W sc so ok b' h2) (vc X W sc so ok c' h3) (lastM hm)) fun σ H Q ⟨B, ρ, M, Xd, Qd, s, hw, f⟩ => ?_
      refine mkD s hw fun x vx H1 M1 e1 s1 r1 q1 => mkD s1 q1 fun y vy H2 M2 e2 s2 r2 q2 => ⟨x, y, M2, B, _, s2.good, r1.ext s1.good e2, r2, q2, fun k q => ⟨k, rfl, ?_⟩⟩
      cases k with
      | true =>
        simp only [if_true] at q ⊢
        exact mkD s2 q fun z vz H3 M3 e3 s3 r3 q3 => ⟨y, z, M3, B, _, s3.good, r2.ext s2.good e3, r3, q3, fun c q => ⟨c, rfl, f c H3 M3 ((e1.trans e2).trans e3) s3.good q⟩⟩
      | false =>
        simp only [Bool.false_eq_true, if_false] at q ⊢
        exact ⟨false, rfl, f false H2 M2 (e1.trans e2) s2.good q⟩
    | [], _, h => exact noF h (by cases cs <;> rfl)
    | [_], [], h => exact noF h rfl
    | [_], [_], h => exact noF h rfl
    | [_], _ :: _ :: _, h => exact noF h rfl
    | _ :: _ :: _ :: _, [], h => exact noF h rfl
    | _ :: _ :: _ :: _, [_], h => exact noF h rfl
    | _ :: _ :: _ :: _, [_, _], h => exact noF h rfl
    | _ :: _ :: _ :: _, _ :: _ :: _ :: _, h => exact noF h rfl
    | [_, _], [], h => exact noF h rfl
    | [_, _], [_], h => exact noF h rfl
    | [_, _], _ :: _ :: _ :: _, h => exact noF h rfl
def CE.tru : CE → Bool
  | .var _ => true | .excIs _ _ _ => true | .call _ _ => true | .callL _ _ _ => true | .ix _ _ => true | .bi _ _ => true | _ => false
def CE.nbi : CE → Bool
  | .bi _ _ => false | _ => true
theorem m_tv {c : CE} {sc : Scope} {e : Expr} (h : mE Γ .t sc c e = true) : c.tru = true → mE Γ .v sc c e = true ∧ ∀ env whole, isTrue e env whole = (do let v ← whole; standAt e.pos; holding [v] (truthy v)) := by
  intro hc
  cases c <;> first | (cases hc; done) | skip
  all_goals (cases e <;> first | exact noF h rfl | skip)
  case var.Name => exact ⟨h, fun _ _ => rfl⟩
  case ix.Subscript => exact ⟨h, fun _ _ => rfl⟩
  case call.Call fn as kws pos =>
    cases fn <;> first | exact noF h rfl | skip
    cases kws <;> first | exact noF h rfl | skip
    exact ⟨h, fun _ _ => rfl⟩
  case callL.Call fn as kws pos =>
    cases fn <;> first | exact noF h rfl | skip
    cases kws <;> first | exact noF h rfl | skip
    exact ⟨h, fun _ _ => rfl⟩
  case excIs.Call fn as kws pos =>
    cases fn <;> first | exact noF h rfl | skip
    cases kws <;> first | exact noF h rfl | skip
    exact ⟨h, fun _ _ => rfl⟩
  case bi.Call b es fn as kws pos =>
    cases fn <;> first | exact noF h rfl | skip
    cases kws <;> first | exact noF h rfl | skip
    refine ⟨?_, fun _ _ => rfl⟩
    cases b <;> first | exact h | exact noF h rfl
theorem vt_tru {c : CE} (ve : VE Γ Φ c) (hc : c.tru = true) (hq : ∀ ρ M Xd Qb, wpT Φ c ρ M Xd Qb → wpE Φ c ρ M Xd fun d M1 => truD d fun k => Qb k M1) : VT Γ Φ c := by
  intro X W sc so ok e h
  obtain ⟨h1, h2⟩ := m_tv h hc
  refine PT.mono (pt_tru (ve X W sc so ok e h1) (h2 X.env)) fun σ H Q ⟨B, ρ, M, Xd, Qd, s, hw, f⟩ => ⟨B, ρ, M, Xd, Qd, s, hq _ _ _ _ hw, f⟩
theorem vt_no {c : CE} (hc : ∀ sc e, mE Γ .t sc c e = false) : VT Γ Φ c := fun X W sc so ok e h => noF h (hc sc e)
/-! ### what is walked -/
theorem m_iv {c : CE} {sc : Scope} {e : Expr} {b : Bool} (hc : c.nbi = true) (h : mE Γ (.i b) sc c e = true) : mE Γ .v sc c e = true := by
  cases c <;> first | (cases hc; done) | skip
  case frz c => exact noF h rfl
  case dc => exact noF h (by cases e <;> first | rfl | (rename_i gens _ _; rcases gens with _ | ⟨⟨_, _, _, _⟩, _ | ⟨_, _⟩⟩ <;> rfl))
  case mt => exact noF h rfl
  case dctE => exact noF h (by cases e <;> first | rfl | (rename_i ks vs _; cases ks <;> cases vs <;> rfl))
  case mth => exact noF h (by cases e <;> first | rfl | (rename_i fn as ks _; cases fn <;> cases ks <;> rcases as with _ | ⟨_, _ | ⟨_, _ | ⟨_, _⟩⟩⟩ <;> rfl))
  case gfn => exact noF h (by cases e <;> rfl)
  case sls => exact noF h (by cases e <;> first | rfl | (rename_i b' _; cases b' <;> first | rfl | (rename_i lo' hi' st _; cases hi' <;> cases st <;> first | rfl | (rename_i st; cases st <;> first | rfl | (rename_i c _ _; cases c <;> rfl)))))
  case callL => exact noF h (by cases e <;> first | rfl | (rename_i fn _ ks _; cases fn <;> cases ks <;> rfl))
  case fdn => exact noF h (by cases e <;> first | rfl | (rename_i op _ _; cases op <;> rfl))
  case excIs => exact noF h (by cases e <;> first | rfl | (rename_i fn _ ks _; cases fn <;> cases ks <;> rfl))
  case excAt => exact noF h (by cases e <;> first | rfl | (rename_i v _ _; cases v <;> rfl))
  case nev => exact h
  case bits c => exact noF h rfl
  case live c => exact noF h rfl
  all_goals (cases e <;> first | exact noF h rfl | skip)
  case var.Name => exact h
  case tup.Tuple => exact h
  case lst.List lv es es' pos =>
    obtain ⟨_, h⟩ := and2 h
    exact h
  case bop.BinOp => exact h
  case neg.UnaryOp op _ _ => cases op <;> exact noF h rfl
  case not.UnaryOp op _ _ => cases op <;> exact noF h rfl
  case cmp.Compare ops cs _ => exact noF h (by rcases ops with _ | ⟨_, _ | ⟨_, _ | ⟨_, _⟩⟩⟩ <;> rcases cs with _ | ⟨_, _ | ⟨_, _ | ⟨_, _⟩⟩⟩ <;> rfl)
  case chn.Compare ops cs _ => exact noF h (by rcases ops with _ | ⟨_, _ | ⟨_, _ | ⟨_, _⟩⟩⟩ <;> rcases cs with _ | ⟨_, _ | ⟨_, _ | ⟨_, _⟩⟩⟩ <;> rfl)
  case and.BoolOp op _ _ => cases op <;> exact noF h rfl
  case or.BoolOp op _ _ => cases op <;> exact noF h rfl
  case call.Call fn as kws pos =>
    cases fn <;> first | exact noF h rfl | skip
    cases kws <;> first | exact noF h rfl | skip
    exact h
  case callK.Call fn as kws pos =>
    cases fn <;> first | exact noF h rfl | skip
  case ix.Subscript => exact h
  case sl.Subscript a lo hi a' b' pos =>
    cases b' <;> first | exact noF h rfl | skip
    case Slice l u st _ => cases st <;> first | exact noF h rfl | exact h
  case lc.ListComp elt' gens scope pos =>
    cases gens with
    | nil => exact noF h rfl
    | cons g gs =>
      obtain ⟨tg', it', ifs', n⟩ := g
      cases gs with
      | cons _ _ => exact noF h rfl
      | nil => exact h
  case lc2.ListComp elt' gens scope pos =>
    cases gens with
    | nil => exact noF h rfl
    | cons g gs =>
      obtain ⟨tg', it', ifs', n⟩ := g
      cases gs with
      | nil => exact noF h rfl
      | cons g gs =>
        obtain ⟨tg1', it1', ifs1', n1⟩ := g
        cases gs with
        | cons _ _ => exact noF h rfl
        | nil => exact h
theorem vi_val {c : CE} (ve : VE Γ Φ c) (hc : c.nbi = true) (hq : ∀ ρ M Xd Ql, wpI Φ c ρ M Xd Ql → wpE Φ c ρ M Xd fun d M1 => itD d Ql M1) : VI Γ Φ c := by
  intro X W sc so ok e tg h
  refine PI.mono (pi_val (ve X W sc so ok e (m_iv hc h))) fun σ H Q ⟨B, ρ, M, Xd, Qd, s, hw, f⟩ => ⟨B, ρ, M, Xd, Qd, s, hq _ _ _ _ hw, f⟩
theorem mEs_heads {m : Md} {sc : Scope} : ∀ {cs : List CE} {es : List Expr}, mEs Γ m sc cs es = true → ∀ e ∈ es, okHead e = true
  | [], [], _, e, he => nomatch he
  | c :: cs, e :: es, h, e', he => by
    obtain ⟨h1, h2⟩ := and2 h
    cases he with
    | head => exact mE_head h1
    | tail _ he => exact mEs_heads h2 e' he
  | [], _ :: _, h, _, _ => absurd h Bool.false_ne_true
  | _ :: _, [], h, _, _ => absurd h Bool.false_ne_true
theorem vi_bi (b : Bi) (es : List CE) (hv : ∀ c ∈ es, VE Γ Φ c) : VI Γ Φ (.bi b es) := by
  intro X W sc so ok e tg h
  have ve := ve_bi (Γ := Γ) (Φ := Φ) b es hv X W sc so ok e
  cases e <;> first | exact noF h rfl | skip
  case Call fn as kws pos =>
    cases fn <;> first | exact noF h rfl | skip
    case Name x p =>
      cases kws with
      | cons _ _ => exact noF h rfl
      | nil =>
        have std : mE Γ .v sc (.bi b es) (.Call (.Name x p) as [] pos) = true → (∀ ρ M Xd Ql, wpI Φ (.bi b es) ρ M Xd Ql → wpE Φ (.bi b es) ρ M Xd fun d M1 => itD d Ql M1) → PI X tg (.Call (.Name x p) as [] pos) (tI Γ X W (wpI Φ (.bi b es))) := by
          intro h hq
          refine PI.mono (pi_val (ve h)) fun σ H Q ⟨B, ρ, M, Xd, Qd, s, hw, f⟩ => ⟨B, ρ, M, Xd, Qd, s, hq _ _ _ _ hw, f⟩
        cases b <;> first | exact std h (fun _ _ _ _ q => q) | exact noF h rfl | skip
        case range =>
          obtain ⟨h1, h⟩ := and2 h
          obtain ⟨h2, h3⟩ := and2 h
          obtain ⟨rfl, g1, g2⟩ := ok.bl h2
          have hl := mEs_len h1
          exact pi_rng g1 g2 (by rw [← hl]; exact ves_run hv ok as h1) (by rw [← hl]; exact of_decide_eq_true h3) (mEs_heads h1)
        case enum =>
          obtain ⟨h0, h⟩ := and2 h
          obtain ⟨h1, h⟩ := and2 h
          obtain ⟨h2, h3⟩ := and2 h
          obtain ⟨rfl, g1, g2⟩ := ok.bl h2
          have hl := mEs_len h1
          have h3 := of_decide_eq_true h3
          have ha := ves_run hv ok as h1
          rw [h3] at ha hl
          match as, hl, h1, ha with
          | [a], _, h1, ha => exact pi_enumD h0 g1 g2 ha (mEs_heads h1 a (by simp))
        case zip =>
          obtain ⟨h0, h⟩ := and2 h
          obtain ⟨h1, h⟩ := and2 h
          obtain ⟨h2, h3⟩ := and2 h
          obtain ⟨rfl, g1, g2⟩ := ok.bl h2
          have hl := mEs_len h1
          have h3 := of_decide_eq_true h3
          have ha := ves_run hv ok as h1
          rw [h3] at ha hl
          match as, hl, h1, ha with
          | [a, b], _, h1, ha => exact pi_zipD h0 g1 g2 ha (mEs_heads h1 a (by simp)) (mEs_heads h1 b (by simp))
mutual
theorem sA : ∀ c : CE, VA Γ Φ c
  | .var i => ⟨ve_var i, vt_tru (ve_var i) rfl fun _ _ _ _ q => by obtain ⟨d, h, q⟩ := withV_some q; show withV _ _; rw [h]; exact q, vi_val (ve_var i) rfl fun _ _ _ _ q => q⟩
  | .lit d => ⟨ve_lit d, vt_no fun sc e => by cases e <;> rfl, vi_val (ve_lit d) rfl fun _ _ _ _ q => q.elim⟩
  | .gl x d => ⟨ve_gl x d, vt_no fun sc e => by cases e <;> rfl, vi_val (ve_gl x d) rfl fun _ _ _ _ q => q.elim⟩
  | .tup es => ⟨ve_tup es fun c m => (sAs es c m).v, vt_no fun sc e => by cases e <;> rfl, vi_val (ve_tup es fun c m => (sAs es c m).v) rfl fun _ _ _ _ q => q⟩
  | .lst false es => ⟨ve_lst false es fun c m => (sAs es c m).v, vt_no fun sc e => by cases e <;> rfl, vi_val (ve_lst false es fun c m => (sAs es c m).v) rfl fun _ _ _ _ q => q⟩
  | .lst true es => ⟨ve_lst true es fun c m => (sAs es c m).v, vt_no fun sc e => by cases e <;> rfl, vi_val (ve_lst true es fun c m => (sAs es c m).v) rfl fun _ _ _ _ q => q.elim⟩
  | .bop op a b => ⟨ve_bop op a b (sA a).v (sA b).v, vt_no fun sc e => by cases e <;> rfl, vi_val (ve_bop op a b (sA a).v (sA b).v) rfl fun _ _ _ _ q => q⟩
  | .neg a => ⟨ve_neg a (sA a).v, vt_no fun sc e => by cases e <;> first | rfl | (rename_i op _ _; cases op <;> rfl), vi_val (ve_neg a (sA a).v) rfl fun _ _ _ _ q => q.elim⟩
  | .not a => ⟨ve_not a (sA a).v, vt_not a (sA a).t, vi_val (ve_not a (sA a).v) rfl fun _ _ _ _ q => q.elim⟩
  | .cmp op a b => ⟨ve_cmp op a b (sA a).v (sA b).v, vt_cmp op a b (sA a).v (sA b).v, vi_val (ve_cmp op a b (sA a).v (sA b).v) rfl fun _ _ _ _ q => q.elim⟩
  | .chn op op2 a b c => ⟨ve_chn op op2 a b c (sA a).v (sA b).v (sA c).v, vt_chn op op2 a b c (sA a).v (sA b).v (sA c).v, vi_val (ve_chn op op2 a b c (sA a).v (sA b).v (sA c).v) rfl fun _ _ _ _ q => q.elim⟩
  | .and es => ⟨ve_and es fun c m => (sAs es c m).v, vt_and es fun c m => (sAs es c m).t, vi_val (ve_and es fun c m => (sAs es c m).v) rfl fun _ _ _ _ q => q.elim⟩
  | .or es => ⟨ve_or es fun c m => (sAs es c m).v, vt_or es fun c m => (sAs es c m).t, vi_val (ve_or es fun c m => (sAs es c m).v) rfl fun _ _ _ _ q => q.elim⟩
  | .ifx c a b => ⟨ve_ifx c a b (sA c).t (sA a).v (sA b).v, vt_no fun sc e => by cases e <;> rfl, vi_val (ve_ifx c a b (sA c).t (sA a).v (sA b).v) rfl fun _ _ _ _ q => q.elim⟩
  | .call f es => ⟨ve_call f es fun c m => (sAs es c m).v, vt_tru (ve_call f es fun c m => (sAs es c m).v) rfl fun _ _ _ _ q => q, vi_val (ve_call f es fun c m => (sAs es c m).v) rfl fun _ _ _ _ q => q⟩
  | .callK f es ks kes perm => ⟨ve_callK f es ks kes perm (fun c m => (sAs es c m).v) fun c m => (sAs kes c m).v, vt_no fun sc e => by cases e <;> first | rfl | (rename_i fn _ _ _; cases fn <;> rfl), vi_val (ve_callK f es ks kes perm (fun c m => (sAs es c m).v) fun c m => (sAs kes c m).v) rfl fun _ _ _ _ q => q.elim⟩
  | .bi b es => ⟨ve_bi b es fun c m => (sAs es c m).v, vt_tru (ve_bi b es fun c m => (sAs es c m).v) rfl fun _ _ _ _ q => q, vi_bi b es fun c m => (sAs es c m).v⟩
  | .ix a b => ⟨ve_ix a b (sA a).v (sA b).v, vt_tru (ve_ix a b (sA a).v (sA b).v) rfl fun _ _ _ _ q => q, vi_val (ve_ix a b (sA a).v (sA b).v) rfl fun _ _ _ _ q => q⟩
  | .sl a lo hi => ⟨ve_sl a lo hi (sA a).v (fun c m => (sAs lo c m).v) fun c m => (sAs hi c m).v, vt_no fun sc e => by cases e <;> first | rfl | (rename_i b' _; cases b' <;> first | rfl | (rename_i st _; cases st <;> rfl)), vi_val (ve_sl a lo hi (sA a).v (fun c m => (sAs lo c m).v) fun c m => (sAs hi c m).v) rfl fun _ _ _ _ q => q⟩
  | .sls a lo k => ⟨ve_sls a lo k (sA a).v fun c m => (sAs lo c m).v, vt_no fun sc e => by cases e <;> first | rfl | (rename_i b' _; cases b' <;> first | rfl | (rename_i lo' hi' st _; cases hi' <;> cases st <;> first | rfl | (rename_i st; cases st <;> first | rfl | (rename_i c _ _; cases c <;> rfl)))), vi_val (ve_sls a lo k (sA a).v fun c m => (sAs lo c m).v) rfl fun _ _ _ _ q => q.elim⟩
  | .slr a => ⟨ve_slr a (sA a).v, vt_no fun sc e => by cases e <;> rfl, vi_val (ve_slr a (sA a).v) rfl fun _ _ _ _ q => q.elim⟩
  | .lc own tg it ifs elt => ⟨ve_lc own tg it ifs elt (sA it).i (fun c m => (sAs ifs c m).t) (sA elt).v, vt_no fun sc e => by cases e <;> first | rfl | (rename_i gens _ _; rcases gens with _ | ⟨⟨_, _, _, _⟩, _ | ⟨_, _⟩⟩ <;> rfl), vi_val (ve_lc own tg it ifs elt (sA it).i (fun c m => (sAs ifs c m).t) (sA elt).v) rfl fun _ _ _ _ q => q⟩
  | .nev => ⟨fun X W sc so ok e h => ⟨fun pins s σ H Q I ⟨B, ρ, M, Xd, Qd, s0, hw, f⟩ => (show False from hw).elim⟩, fun X W sc so ok e h => ⟨fun pins s σ H Q I ⟨B, ρ, M, Xd, Qd, s0, hw, f⟩ => (show False from hw).elim⟩, fun X W sc so ok e tg h => ⟨fun pins s σ H Q I ⟨B, ρ, M, Xd, Qd, s0, hw, f⟩ => (show False from hw).elim⟩⟩
  | .bits a => ⟨ve_bits a (sA a).v, vt_no fun sc e => rfl, vi_val (ve_bits a (sA a).v) rfl fun _ _ _ _ q => q.elim⟩
  | .live c => by
    have hl : VE Γ Φ (.live c) := ve_live c fun hn => match c, hn with
      | .lc own tg it ifs elt, _ => live_lc own tg it ifs elt (sA it).i (fun c m => (sAs ifs c m).t) (sA elt).v
      | .bi .listOf es, _ => live_listOf es fun c m => (sAs es c m).v
      | .bop .Add a b, _ => live_bop .Add (.inl rfl) a b (sA a).v (sA b).v
      | .bop .Mult a b, _ => live_bop .Mult (.inr rfl) a b (sA a).v (sA b).v
    exact ⟨hl, vt_no fun sc e => rfl, vi_val hl rfl fun _ _ _ _ q => q.elim⟩
  | .lc2 own tg it ifs vs1 tg1 it1 ifs1 elt =>
    have hl : VE Γ Φ (.lc2 own tg it ifs vs1 tg1 it1 ifs1 elt) := ve_lc2 own tg it ifs vs1 tg1 it1 ifs1 elt (sA it).i (fun c m => (sAs ifs c m).t) (sA it1).i (fun c m => (sAs ifs1 c m).t) (sA elt).v
    ⟨hl, vt_no fun sc e => by cases e <;> first | rfl | (rename_i gens _ _; rcases gens with _ | ⟨⟨_, _, _, _⟩, _ | ⟨⟨_, _, _, _⟩, _ | ⟨_, _⟩⟩⟩ <;> rfl), vi_val hl rfl fun _ _ _ _ q => q.elim⟩
  | .dc own tg it ifs ke el =>
    have hl : VE Γ Φ (.dc own tg it ifs ke el) := ve_dc own tg it ifs ke el (sA it).i (fun c m => (sAs ifs c m).t) (sA ke).v (sA el).v
    ⟨hl, vt_no fun sc e => by cases e <;> first | rfl | (rename_i gens _ _; rcases gens with _ | ⟨⟨_, _, _, _⟩, _ | ⟨_, _⟩⟩ <;> rfl), vi_val hl rfl fun _ _ _ _ q => q.elim⟩
  | .mt b o es =>
    have hl : VE Γ Φ (.mt b o es) := ve_mt b o es (sA o).v fun c m => (sAs es c m).v
    ⟨hl, vt_no fun sc e => rfl, vi_val hl rfl fun _ _ _ _ q => q.elim⟩
  | .dctE => ⟨ve_dct, vt_no fun sc e => by cases e <;> first | rfl | (rename_i ks vs _; cases ks <;> cases vs <;> rfl), vi_val ve_dct rfl fun _ _ _ _ q => q.elim⟩
  | .mth l a b =>
    have hl : VE Γ Φ (.mth l a b) := ve_mth l a b (sA a).v (sA b).v
    ⟨hl, vt_no fun sc e => by cases e <;> first | rfl | (rename_i fn as ks _; cases fn <;> cases ks <;> rcases as with _ | ⟨_, _ | ⟨_, _ | ⟨_, _⟩⟩⟩ <;> rfl), vi_val hl rfl fun _ _ _ _ q => q.elim⟩
  | .gfn x => ⟨ve_gfn x, vt_no fun sc e => by cases e <;> rfl, vi_val (ve_gfn x) rfl fun _ _ _ _ q => q.elim⟩
  | .callL i es cs =>
    have hl : VE Γ Φ (.callL i es cs) := ve_callL i es cs fun c m => (sAs es c m).v
    ⟨hl, vt_tru hl rfl fun _ _ _ _ q => q, vi_val hl rfl fun _ _ _ _ q => q.elim⟩
  | .fdn a b => ⟨ve_fdn a b (sA a).v (sA b).v, vt_no fun sc e => by cases e <;> first | rfl | (rename_i op _ _; cases op <;> rfl), vi_val (ve_fdn a b (sA a).v (sA b).v) rfl fun _ _ _ _ q => q.elim⟩
  | .excIs i x cs => ⟨ve_excIs i x cs, vt_tru (ve_excIs i x cs) rfl fun ρ M Xd Qb q => by
      obtain ⟨d, h, q⟩ := withV_some (show withV (getD' ρ i) _ from q)
      show withV (getD' ρ i) _
      rw [h]
      cases d <;> first | exact (show False from q).elim | exact q, vi_val (ve_excIs i x cs) rfl fun _ _ _ _ q => q.elim⟩
  | .excAt i cs => ⟨ve_excAt i cs, vt_no fun sc e => by cases e <;> first | rfl | (rename_i v _ _; cases v <;> rfl), vi_val (ve_excAt i cs) rfl fun _ _ _ _ q => q.elim⟩
  | .frz c => ⟨ve_frz c (sA c).v, vt_no fun sc e => rfl, vi_val (ve_frz c (sA c).v) rfl fun _ _ _ _ q => q.elim⟩
theorem sAs : ∀ (cs : List CE) (c : CE), c ∈ cs → VA Γ Φ c
  | [], c, m => nomatch m
  | d :: ds, c, m => by
    rcases List.mem_cons.mp m with h | h
    · rw [h]; exact sA d
    · exact sAs ds c h
end
end
end RF
namespace RF
open PySem PySem.Spec PyProof.Rows L2
/-! ### does the small statement tell the great one? -/
section
variable (Γ : Cfg)
def isComp : Expr → Bool
  | .ListComp .. => true
  | .SetComp .. => true
  | .DictComp .. => true
  | _ => false
def isLc : CE → Bool
  | .lc .. => true
  | .lc2 .. => true
  | .live (.lc ..) => true
  | .dc .. => true
  | _ => false
def funB (sc : Scope) : Bool := match sc.kind with
  | .function => true
  | _ => false
def ownB (x : Str) (s : Scope) : Bool := s.names.any fun (n, k) => n == x && (k == .local || k == .cell)
/-- is the name stored from within the comprehension? -/
def swB (sc : Scope) (x : Str) (px : Pos) : Expr → Bool
  | .ListComp _ _ s p => decide (sc.names.lookup x = some .local) && ((px.line == p.line) && !ownB x s)
  | .DictComp _ _ _ s p => decide (sc.names.lookup x = some .local) && ((px.line == p.line) && !ownB x s)
  | e => isComp e
/-- no swapped stores -/
def notLoc (sc : Scope) : Expr → Bool
  | .Name x _ => decide (sc.names.lookup x ≠ some .local)
  | _ => true
def noSwp (sc : Scope) : List Expr → Expr → Bool
  | ts, .Tuple vs _ _ => vs.all (foldedForSure 8) || (!(ts.length == 2 || ts.length == 3)) || (vs.length != ts.length) || ts.any (notLoc sc)
  | _, _ => true
def parNm (sc : Scope) (line : Nat) : List Nat → List Expr → List Str → Bool
  | [], [], _ => true
  | i :: is, .Name x p :: ts, seen => decide (Γ.N[i]? = some x) && (decide (sc.names.lookup x = some .local) && ((p.line == line) && (decide (x ∉ seen) && parNm sc line is ts (x :: seen))))
  | _, _, _ => false
def headLn : List Expr → Nat
  | [] => 0
  | e :: _ => e.pos.line
def tgS1 (sc : Scope) : TgS → Expr → Bool
  | .nm i, .Name x _ => decide (Γ.N[i]? = some x) && locB sc x
  | .sub o i, .Subscript (.Name x _) i' _ => varB Γ sc o x && mE Γ .v sc i i'
  | _, _ => false
def tgSs (sc : Scope) : List TgS → List Expr → Bool
  | [], [] => true
  | t :: ts, e :: es => tgS1 Γ sc t e && tgSs sc ts es
  | _, _ => false
def appB : Expr → Option (Str × Expr)
  | .Call (.Attribute (.Name x _) f ap) [e'] [] cp => if f = ("append" : Str) then (if (ap.endLine == cp.line) = true then some (x, e') else none) else none
  | _ => none
end
mutual
def mS (Γ : Cfg) (sc : Scope) : CS → Stmt → Bool
  | .expr e, .Expr e' _ => !isComp e' && mE Γ .v sc e e'
  | .asg i e, .Assign [.Name x px] e' _ => decide (Γ.N[i]? = some x) && (locB sc x && (mE Γ .v sc e e' && (!swB sc x px e' || (isLc e && funB sc))))
  | .asgT t e, .Assign [.Tuple ts k p] e' _ => noSwp sc ts e' && (mTg Γ sc t (.Tuple ts k p) && mE Γ .v sc e e')
  | .par is es, .Assign [.Tuple ts _ _] (.Tuple vs _ _) _ => (funB sc && Γ.calm) && (decide (vs.length = 2 ∨ vs.length = 3) && (decide (ts.length = vs.length) && (parNm Γ sc (headLn ts) is ts [] && ((!vs.all (foldedForSure 8) && !vs.all (constantsAlone 8)) && mEs Γ .v sc es vs))))
  | .setix o i e, .Assign [.Subscript o' i' _] e' _ => mE Γ .v sc o o' && (mE Γ .v sc i i' && mE Γ .v sc e e')
  | .asgM ts e, .Assign [.Tuple tgs k p] e' _ => (noSwp sc tgs e' && Γ.calm) && (tgSs Γ sc ts tgs && mE Γ .v sc e e')
  | .append (.var o) e, .Expr c _ => match appB c with
    | some (x, e') => varB Γ sc o x && mE Γ .v sc e e'
    | none => false
  | .ret e, .Return (some e') _ => mE Γ .v sc e e'
  | .iff c a b, .If c' a' b' _ => mE Γ .t sc c c' && (mSs Γ sc a a' && mSs Γ sc b b')
  | .for_ t it body, .For tg it' body' [] _ => Γ.calm && (mE Γ (.i (isTupE tg)) sc it it' && (mTg Γ sc t tg && mSs Γ sc body body'))
  | .while_ c body, .While c' body' [] _ => Γ.calm && (mE Γ .t sc c c' && mSs Γ sc body body')
  | .brk, .Break _ => true
  | .cont, .Continue _ => true
  | .pass, .Pass _ => true
  | .never, _ => true
  | .raise_ c e, .Raise (some (.Call (.Name x _) [e'] [] _)) none _ => Γ.calm && (glB sc x && ((match Γ.exs.lookup c with | some p => decide (p.1 = x) && decide (p.2 ≠ "") | none => false) && mE Γ .v sc e e'))
  | .raise0 c, .Raise (some (.Call (.Name x _) [] [] _)) none _ => Γ.calm && (glB sc x && decide (Γ.exs.lookup c = some (x, ("" : Str))))
  | .tryAs i x cs body hd, .Try body' [.ExceptHandler (some (.Name y _)) (some n) (b₀ :: suite) _] [] [] _ => Γ.calm && (decide (x = y) && (glB sc y && (decide ((x, cs) ∈ Γ.eis) && (decide (Γ.N[i]? = some n) && (decide (sc.names.lookup n = some .local) && (mSs Γ sc body body' && mSs { Γ with calm := false } sc hd (b₀ :: suite)))))))
  | _, _ => false
def mSs (Γ : Cfg) (sc : Scope) : List CS → List Stmt → Bool
  | [], [] => true
  | .gfrz _ :: ss, es => mSs Γ sc ss es
  | .never :: _, _ => true
  | s :: ss, e :: es => mS Γ sc s e && mSs Γ sc ss es
  | _, _ => false
end
/-! ### readings -/
section
variable (Γ : Cfg) (X : Cx) (W : WX)
structure S1 (B : Bad) (H : Hp) (M : Mem) (Xd : XQ) : Prop where
  good : Good X.K H M B
  xl : ∀ σ, XL Γ X W B σ H M Xd
structure Fin (B : Bad) (H : Hp) (M : Mem) (D : Ends) (Z : DE) : Prop where
  nx : ∀ σ' ρ' H' M', Ext H M H' M' → Good X.K H' M' B → EnvR X.K H' M' B ρ' σ' → Z.nx ρ' M' → D.nx σ' H'
  rt : Fol X H M B Z.rt D.rt
  bk : ∀ σ' ρ' H' M', Ext H M H' M' → Good X.K H' M' B → EnvR X.K H' M' B ρ' σ' → Z.bk ρ' M' → D.bk σ' H'
  ct : ∀ σ' ρ' H' M', Ext H M H' M' → Good X.K H' M' B → EnvR X.K H' M' B ρ' σ' → Z.ct ρ' M' → D.ct σ' H'
def tS (w : DEnv → Mem → XQ → DE → Prop) : TS := fun D σ H => ∃ B ρ M Xd Z, S1 Γ X W B H M Xd ∧ EnvR X.K H M B ρ σ ∧ w ρ M Xd Z ∧ Fin X B H M D Z
end
section
variable {Γ : Cfg} {Φ : Nat → Spec} {X : Cx} {W : WX} {sc : Scope} {B : Bad} {σ : SV} {H H1 : Hp} {ρ : DEnv} {M M1 : Mem} {Xd : XQ} {D : Ends} {Z : DE}
theorem S1.s0 (s : S1 Γ X W B H M Xd) (e : EnvR X.K H M B ρ σ) : S0 Γ X W B σ H ρ M Xd := ⟨s.good, e, s.xl σ⟩
theorem S1.step (s : S1 Γ X W B H M Xd) (e : Ext H M H1 M1) (g : Good X.K H1 M1 B) : S1 Γ X W B H1 M1 Xd := ⟨g, fun σ => (s.xl σ).step s.good e⟩
theorem Fin.step (f : Fin X B H M D Z) (e : Ext H M H1 M1) : Fin X B H1 M1 D Z := ⟨fun σ' ρ' H' M' e' => f.nx σ' ρ' H' M' (e.trans e'), f.rt.step e, fun σ' ρ' H' M' e' => f.bk σ' ρ' H' M' (e.trans e'), fun σ' ρ' H' M' e' => f.ct σ' ρ' H' M' (e.trans e')⟩
theorem swB_no {x : Str} {px : Pos} {e : Expr} {l : Nat} {env : Env} (hs : env.scope = sc) (h : swB sc x px e = false) : swapsWith e (some (.Name x px)) l env = pure false := by
  cases e <;> first | rfl | (exact noF (show true = true from rfl) h) | skip
  case ListComp elt gs s p =>
    have ky : env.kindOf x = sc.names.lookup x := by rw [← hs]; rfl
    unfold swapsWith
    simp only [Expr.pos, ky]
    unfold swB ownB at h
    show pure _ = pure _
    congr 1
    cases h1 : (sc.names.lookup x == some NameKind.local) with
    | false => simp
    | true =>
      have h2 : sc.names.lookup x = some .local := by simpa using h1
      simp only [h2, decide_true, Bool.true_and] at h
      cases h3 : (px.line == p.line) with
      | false => simp
      | true =>
        rw [h3, Bool.true_and] at h
        simp only [Bool.and_assoc]
        rw [h]; simp
  case DictComp kx elt gs s p =>
    have ky : env.kindOf x = sc.names.lookup x := by rw [← hs]; rfl
    unfold swapsWith
    simp only [Expr.pos, ky]
    unfold swB ownB at h
    show pure _ = pure _
    congr 1
    cases h1 : (sc.names.lookup x == some NameKind.local) with
    | false => simp
    | true =>
      have h2 : sc.names.lookup x = some .local := by simpa using h1
      simp only [h2, decide_true, Bool.true_and] at h
      cases h3 : (px.line == p.line) with
      | false => simp
      | true =>
        rw [h3, Bool.true_and] at h
        simp only [Bool.and_assoc]
        rw [h]; simp
theorem swB_yes {x : Str} {px : Pos} {elt : Expr} {gs : List Comprehension} {s : Scope} {p : Pos} {l : Nat} {env : Env} (hs : env.scope = sc) (hf : funB sc = true) (h : swB sc x px (.ListComp elt gs s p) = true) : sc.names.lookup x = some .local ∧ swapsWith (.ListComp elt gs s p) (some (.Name x px)) l env = pure true := by
  obtain ⟨h1, h⟩ := and2 h
  obtain ⟨h2, h3⟩ := and2 h
  have h1 := of_decide_eq_true h1
  refine ⟨h1, sw_true ?_ (by rw [hs]; exact h1) h2 (by unfold ownB at h3; simpa using h3)⟩
  rw [hs]
  unfold funB at hf
  split at hf
  · assumption
  · cases hf
theorem sw_trueD {kx elt : Expr} {gs : List Comprehension} {scope : Scope} {pos py : Pos} {y : Str} {l : Nat} {env : Env} (hk : env.scope.kind = .function) (hy : env.scope.names.lookup y = some .local) (hl : (py.line == pos.line) = true)
    (ha : (scope.names.any fun (n, k) => n == y && (k == .local || k == .cell)) = false) : swapsWith (.DictComp kx elt gs scope pos) (some (.Name y py)) l env = pure true := by
  have ky : env.kindOf y = some .local := hy
  have hb : env.blockKind = .function := by unfold Env.blockKind; rw [hk]; rfl
  unfold swapsWith
  simp only [hb, ky, ha, Expr.pos, hl]
  rfl
theorem swB_yesD {x : Str} {px : Pos} {kx elt : Expr} {gs : List Comprehension} {s : Scope} {p : Pos} {l : Nat} {env : Env} (hs : env.scope = sc) (hf : funB sc = true) (h : swB sc x px (.DictComp kx elt gs s p) = true) : sc.names.lookup x = some .local ∧ swapsWith (.DictComp kx elt gs s p) (some (.Name x px)) l env = pure true := by
  obtain ⟨h1, h⟩ := and2 h
  obtain ⟨h2, h3⟩ := and2 h
  have h1 := of_decide_eq_true h1
  refine ⟨h1, sw_trueD ?_ (by rw [hs]; exact h1) h2 (by unfold ownB at h3; simpa using h3)⟩
  rw [hs]
  unfold funB at hf
  split at hf
  · assumption
  · cases hf
/-- name = {..} on one line, the name a local -/
theorem ps_setDc {X : Cx} {i : Nat} {y : Str} {py : Pos} {kx vx tg iter : Expr} {ifs : List Expr} {scope : Scope} {own : List (Str × Nat)} {pos spos : Pos} {wi : TI} {g : TG} {tt : TT} {tk tv : TE} (hc : X.calm = true) (hN : X.N.Nodup) (hy : X.N[i]? = some y) (hyl : X.env.scope.names.lookup y = some .local)
    (hsw : swapsWith (.DictComp kx vx [⟨tg, iter, ifs, 0⟩] scope pos) (some (.Name y py)) spos.line X.env = pure true) (hi : PI X tg iter wi) (ok : BlkOk X.N X.env.scope scope own)
    (hg : ∀ (s : Shared) (H : Hp) (C : Addr) (cl : List (Str × Addr)) (fp : List Addr), PG (X.blk s H scope (compEnvC scope cl C X.env) fp) tg g) (ht : ∀ (s : Shared) (H : Hp) (C : Addr) (cl : List (Str × Addr)) (fp : List Addr), PTs (X.blk s H scope (compEnvC scope cl C X.env) fp) ifs tt)
    (hk : ∀ (s : Shared) (H : Hp) (C : Addr) (cl : List (Str × Addr)) (fp : List Addr), PE (X.blk s H scope (compEnvC scope cl C X.env) fp) kx tk)
    (he : ∀ (s : Shared) (H : Hp) (C : Addr) (cl : List (Str × Addr)) (fp : List Addr), PE (X.blk s H scope (compEnvC scope cl C X.env) fp) vx tv) (hs : ∀ x, foldedSetIterable iter X.env x = pure x := by intro _; rfl) :
    PS X (.Assign [.Name y py] (.DictComp kx vx [⟨tg, iter, ifs, 0⟩] scope pos) spos) (tAsg (tDc wi g tt tk tv (own.map (·.2))) (gName i)) := by
  refine ⟨fun pins s σ H D I h => ?_⟩
  rw [PySem.exec_Assign_Name_used _ _ _ _ hsw]
  refine wpAny_bind (wpAny_standAt (wpAny_bind ?_))
  show wpAny _ X.A (do let _ ← comprehension (.DictComp kx vx [⟨tg, iter, ifs, 0⟩] scope pos) scope X.env (firstIterPos [⟨tg, iter, ifs, 0⟩] pos) newDict false (eval iter X.env) (some (assign (.Name y py) X.env))) _ _ s
  have h : tDc wi g tt tk tv (own.map (·.2)) σ H (fun x H1 => gName i x σ H1 D.nx) := h
  refine wpAny_bind (thn (dc_core (Qf := fun _ s' => SP X pins D .next s') hc hN I hi ok hg ht hk he hs h fun L C s' m H' I' q hn f => ?_) fun _ s' hq => wpAny_pure (wpAny_pure hq))
  show wpAny _ _ (assign (.Name y py) X.env (.ref L)) _ _ _
  refine wpAny_assign_Name (store_ok2 (v := V.ref L) I' hN hy (.inl hyl) rfl (fun s2 I2 ⟨a, sb, ha⟩ => ?_) (.inr hyl))
  obtain ⟨f0, f1, f2, f3, f4, f5⟩ := f
  have haC : C ≠ a := by
    rcases ha with z | z
    · rw [z]; exact f1
    · exact fun e => f4 y a z e.symm
  refine ⟨m, hn.sameBut sb haC, fun h3 sb3 => ?_⟩
  exact ⟨_, H', I2.turned (t' := s2.toks) (fun b o hb e => (sb3.2 b hb).trans e) f0 f1 f3 f4 f5, q⟩
theorem sw_other {e tg : Expr} {l : Nat} {env : Env} (h : ∀ x p, tg ≠ .Name x p) : swapsWithSole [tg] e l env = pure false := by
  show swapsWith e (some tg) l env = _
  cases e <;> first | rfl | skip
  all_goals (cases tg <;> first | rfl | (exact absurd rfl (h _ _)))
theorem sw_none {e : Expr} {l : Nat} {env : Env} (h : isComp e = false) : swapsWith e none l env = pure false := by
  cases e <;> first | rfl | (exact noF (show true = true from rfl) h)
theorem fm_len {α β : Type} {f : α → Option β} : ∀ {l : List α}, (∃ a ∈ l, f a = none) → (l.filterMap f).length < l.length
  | [], h => by obtain ⟨a, h, _⟩ := h; cases h
  | x :: l, h => by
    have hle : (l.filterMap f).length ≤ l.length := List.length_filterMap_le f l
    rw [List.filterMap_cons]
    cases e : f x with
    | none => simp only [List.length_cons]; omega
    | some y =>
      obtain ⟨a, ha, hn⟩ := h
      rcases List.mem_cons.mp ha with rfl | ha
      · rw [e] at hn; cases hn
      · have := fm_len (l := l) ⟨a, ha, hn⟩
        simp only [List.length_cons]; omega
theorem noSwp_ok {ts : List Expr} {k : Nat} {p : Pos} {e : Expr} {env : Env} (hs : env.scope = sc) (h : noSwp sc ts e = true) : swappedStores [.Tuple ts k p] e env = pure none := by
  cases e <;> first | rfl | skip
  case Tuple vs k2 p2 =>
    have h : (vs.all (foldedForSure 8) || (!(ts.length == 2 || ts.length == 3)) || (vs.length != ts.length) || ts.any (notLoc sc)) = true := h
    unfold swappedStores
    cases h1 : (!(ts.length == 2 || ts.length == 3)) with
    | true => simp only [h1]; rfl
    | false =>
      cases h2 : (vs.length != ts.length) with
      | true => simp only [h1, h2]; rfl
      | false =>
        rw [h1, h2] at h
        have h3 : vs.all (foldedForSure 8) = true ∨ ts.any (notLoc sc) = true := by simpa using h
        rcases h3 with h3 | h3
        · simp only [h1, h2, h3]
          simp only [Bool.false_or, if_true]
          repeat (first | rfl | split)
        · have h4 : ((ts.filterMap fun
              | .Name id pos => if env.kindOf id == some .local && pos.line == (ts.head?.map (·.pos.line)).getD 0 then some id else none
              | _ => none).length != ts.length) = true := by
            rw [bne_iff_ne]
            refine Nat.ne_of_lt (fm_len ?_)
            obtain ⟨a, ha, hn⟩ := List.any_eq_true.mp h3
            refine ⟨a, ha, ?_⟩
            cases a <;> first | rfl | skip
            case Name x q =>
              have hn : sc.names.lookup x ≠ some .local := of_decide_eq_true hn
              have : (env.kindOf x == some NameKind.local) = false := by
                rw [beq_eq_false_iff_ne]
                unfold Env.kindOf
                rw [hs]; exact hn
              show (if (env.kindOf x == some NameKind.local && q.line == (ts.head?.map (·.pos.line)).getD 0) = true then some x else none) = none
              rw [this]; rfl
          simp only [h1, h2]
          simp only [Bool.false_or]
          split
          · rfl
          · split
            · rfl
            · refine if_pos ?_
              rw [Bool.or_eq_true]
              exact .inl h4
theorem locB_local {x : Str} (h : sc.names.lookup x = some .local) : locB sc x = true := by unfold locB; rw [h]
/-- a value stored -/
theorem asg_fin {i : Nat} {x : Str} {e : Expr} {w : DEnv → Mem → XQ → QD → Prop} {px p : Pos} (ok : COk Γ Φ X W sc sc) (hi : Γ.N[i]? = some x) (hl : locB sc x = true) (he : PE X e (tD Γ X W w)) (hs : swapsWith e (some (.Name x px)) p.line X.env = pure false) :
    PS X (.Assign [.Name x px] e p) (tS Γ X W fun ρ M Xd Z => w ρ M Xd fun d M1 => Z.nx (setD' ρ i d) M1) := by
  obtain ⟨l, f⟩ := ok.st x hl
  refine PS.mono (ps_set (i := i) (by rw [ok.N]; exact ok.nd) (by rw [ok.N]; exact hi) l he hs f) fun D σ H ⟨B, ρ, M, Xd, Z, s, er, hw, f⟩ => ?_
  exact mkD (s.s0 er) hw fun y v H1 M1 e1 s1 r1 q => f.nx _ _ _ _ e1 s1.good (s1.env.set r1) q
theorem tg_run (ok : COk Γ Φ X W sc sc) : ∀ (ts : List TgS) (es : List Expr), tgSs Γ sc ts es = true → PGs X es fun vs σ H Q => ∃ B ρ M ds Xd Qe, S1 Γ X W B H M Xd ∧ EnvR X.K H M B ρ σ ∧ Reps X.K H M B ds vs ∧ ds.length = ts.length ∧ tgSDs Φ ts ds ρ M Xd Qe ∧ ∀ σ' ρ' H' M', Ext H M H' M' → Good X.K H' M' B → EnvR X.K H' M' B ρ' σ' → Qe ρ' M' → Q σ' H'
  | [], [], h => by
    refine PGs.mono pgs_nil fun vs σ H Q q => ?_
    obtain ⟨B, ρ, M, ds, Xd, Qe, s, er, r, l, q, k⟩ := q
    have e : ds = [] := List.eq_nil_of_length_eq_zero l
    subst e
    exact ⟨r, k σ ρ H M (Ext.refl _ _) s.good er q⟩
  | [], _ :: _, h => noF h rfl
  | _ :: _, [], h => noF h rfl
  | t :: ts, e :: es, h => by
    obtain ⟨h1, h2⟩ := and2 h
    cases t with
    | nm i =>
      cases e <;> first | exact noF h1 rfl | skip
      case Name x p =>
        obtain ⟨h3, h4⟩ := and2 h1
        obtain ⟨l, f⟩ := ok.st x h4
        refine PGs.mono (pgs_cons (pg_name (i := i) (by rw [ok.N]; exact ok.nd) (by rw [ok.N]; exact of_decide_eq_true h3) l f) (tg_run ok ts es h2) rfl) fun vs σ H Q q => ?_
        obtain ⟨B, ρ, M, ds, Xd, Qe, s, er, r, l, q, k⟩ := q
        match ds, l, q, r with
        | d :: ds, l, q, r =>
          obtain ⟨v, vr, rfl, r1, r2⟩ := r
          exact ⟨v, vr, rfl, B, _, M, ds, Xd, Qe, s, er.set r1, r2, by simpa using l, q, k⟩
    | sub o i =>
      cases e <;> first | exact noF h1 rfl | skip
      case Subscript o' i' p =>
        cases o' <;> first | exact noF h1 rfl | skip
        case Name x p2 =>
          obtain ⟨h3, h4⟩ := and2 h1
          have hi := mE_head h4
          refine PGs.mono (pgs_cons (pg_sub (var_run (Φ := Φ) (W := W) ok h3) ((sA i).v X W sc sc ok i' h4) set_list ?_) (tg_run ok ts es h2) ?_) fun vs σ H Q q => ?_
          · intro v; cases i' <;> first | rfl | exact noF hi rfl
          · cases i' <;> first | rfl | exact noF hi rfl
          · obtain ⟨B, ρ, M, ds, Xd, Qe, s, er, r, l, q, k⟩ := q
            match ds, l, q, r with
            | d :: ds, l, q, r =>
              obtain ⟨v, vr, rfl, r1, r2⟩ := r
              refine ⟨v, vr, rfl, ?_⟩
              refine mkD (s.s0 er) (show wpE Φ (.var o) ρ M Xd (fun ov M1 => wpE Φ i ρ M1 Xd fun iv M2 => setIxD ov iv d M2 fun M3 => tgSDs Φ ts ds ρ M3 Xd Qe) from q) fun ov vo H1 M1 e1 s1 ro q => ?_
              refine mkD s1 q fun iv vi H2 M2 e2 s2 ri q => ?_
              cases ov <;> first | exact (show False from q).elim | skip
              case cell a _ =>
                cases iv <;> first | exact (show False from q).elim | skip
                case int j =>
                  obtain rfl := ro
                  obtain rfl := ri
                  have q : (match M2 a with
                    | some (.lst xs) => (match ixN xs.length j with
                      | some n => tgSDs Φ ts ds ρ (M2.set a (.lst (xs.set n d))) Xd Qe
                      | none => False)
                    | none => False) := q
                  split at q
                  · rename_i xs hc
                    split at q
                    · rename_i n hn
                      obtain ⟨us, hu, zu, ru⟩ := s2.good.cel a _ hc
                      have e12 := e1.trans e2
                      have rd : Rep X.K H2 M2 B d v := r1.ext s.good e12
                      refine ⟨a, us, j, n, rfl, rfl, hu, by rw [← ru.length]; exact hn, ?_⟩
                      have g3 : Good X.K (upd H2 a (.lst (us.set n v))) (M2.set a (.lst (xs.set n d))) B := s2.good.setC hc (Reps.setAt n ru rd) (by rw [List.length_set]; exact zu)
                      have e3 : Ext H2 M2 (upd H2 a (.lst (us.set n v))) (M2.set a (.lst (xs.set n d))) := Ext.setC hc
                      refine ⟨B, ρ, _, ds, Xd, Qe, s.step (e12.trans e3) g3, (s2.env.ext s2.good e3), (r2.ext s.good e12).ext s2.good e3, by simpa using l, q, fun σ' ρ' H' M' e' => k σ' ρ' H' M' ((e12.trans e3).trans e')⟩
                    · exact q.elim
                  · exact q.elim
theorem appB_of {c : Expr} {x : Str} {e : Expr} (h : appB c = some (x, e)) : ∃ p ap cp, c = .Call (.Attribute (.Name x p) "append" ap) [e] [] cp ∧ (ap.endLine == cp.line) = true := by
  unfold appB at h
  split at h
  · rename_i x' p f ap e' cp
    split at h
    · rename_i hf
      split at h
      · rename_i hl
        cases h
        subst hf
        exact ⟨p, ap, cp, rfl, hl⟩
      · cases h
    · cases h
  · cases h
theorem par_look {line : Nat} : ∀ {is : List Nat} {ts : List Expr} {seen : List Str}, parNm Γ sc line is ts seen = true → is.length = ts.length
  | [], [], _, _ => rfl
  | [], _ :: _, _, h => noF h rfl
  | _ :: _, [], _, h => noF h rfl
  | i :: is, t :: ts, seen, h => by
    cases t <;> first | exact noF h rfl | skip
    case Name x p =>
      have h := (and2 (and2 (and2 (and2 h).2).2).2).2
      simp [par_look h]
def BlkX (X : Cx) (sc : Scope) : Prop := X.env.scope = sc
theorem kind_fun (hs : X.env.scope = sc) (hf : funB sc = true) : (X.env.blockKind != ScopeKind.function) = false := by
  have : sc.kind = .function := by
    unfold funB at hf
    split at hf
    · assumption
    · cases hf
  unfold Env.blockKind
  rw [hs, this]; rfl
theorem vs_stars {m : Md} : ∀ {cs : List CE} {vs : List Expr}, mEs Γ m sc cs vs = true → (vs.any fun x => match x with | .Starred _ _ => true | _ => false) = false
  | [], [], _ => rfl
  | c :: cs, e :: es, h => by
    obtain ⟨h1, h2⟩ := and2 h
    have he := mE_head h1
    rw [List.any_cons, vs_stars h2]
    cases e <;> first | rfl | exact noF he rfl
  | [], _ :: _, h => noF h rfl
  | _ :: _, [], h => noF h rfl
theorem notT {b : Bool} (h : (!b) = true) : b = false := by cases b <;> first | rfl | cases h
theorem par2_ok {i j : Nat} {x y : Str} {px py : Pos} {kt k2 : Nat} {pt p2 : Pos} {a b : Expr} {cs : List CE} (hs : X.env.scope = sc) (hf : funB sc = true) (hp : parNm Γ sc (headLn [.Name x px, .Name y py]) [i, j] [.Name x px, .Name y py] [] = true) (h1 : (!([a, b] : List Expr).all (foldedForSure 8)) = true) (h2 : (!([a, b] : List Expr).all (constantsAlone 8)) = true) (hm : mEs Γ .v sc cs [a, b] = true) :
    swappedStores [.Tuple [.Name x px, .Name y py] kt pt] (.Tuple [a, b] k2 p2) X.env = pure (some [x, y]) ∧ (Γ.N[i]? = some x ∧ sc.names.lookup x = some .local) ∧ (Γ.N[j]? = some y ∧ sc.names.lookup y = some .local) ∧ x ≠ y := by
  obtain ⟨q1, hp⟩ := and2 hp
  obtain ⟨q2, hp⟩ := and2 hp
  obtain ⟨q3, hp⟩ := and2 hp
  obtain ⟨_, hp⟩ := and2 hp
  obtain ⟨q4, hp⟩ := and2 hp
  obtain ⟨q5, hp⟩ := and2 hp
  obtain ⟨q6, hp⟩ := and2 hp
  obtain ⟨q7, _⟩ := and2 hp
  have q1 := of_decide_eq_true q1
  have q2 := of_decide_eq_true q2
  have q4 := of_decide_eq_true q4
  have q5 := of_decide_eq_true q5
  have q7 : y ≠ x := by
    have := of_decide_eq_true q7
    simpa using this
  refine ⟨?_, ⟨q1, q2⟩, ⟨q4, q5⟩, q7.symm⟩
  have kx : X.env.kindOf x = some .local := by unfold Env.kindOf; rw [hs]; exact q2
  have ky : X.env.kindOf y = some .local := by unfold Env.kindOf; rw [hs]; exact q5
  have q6 : py.line = px.line := by simpa using (show (py.line == px.line) = true from q6)
  have h1 := notT h1
  have h2 := notT h2
  have h3 := vs_stars hm
  have h4 := kind_fun hs hf
  have ne1 : (y == x) = false := by simpa using q7
  have ne2 : (x == y) = false := by simpa using q7.symm
  unfold swappedStores
  have h3 : ∀ {α : Type} (p q : α), (if ([a, b].any fun x => match x with | .Starred _ _ => true | _ => false) = true then p else q) = q := fun p q => by rw [h3]; rfl
  simp only [h4, h1, h2]
  refine Eq.trans (h3 _ _) ?_
  simp [List.filterMap_cons, kx, ky, Expr.pos, q6, List.eraseDups_cons, ne1, ne2]
theorem par3_ok {i j l : Nat} {x y z : Str} {px py pz : Pos} {kt k2 : Nat} {pt p2 : Pos} {a b c : Expr} {cs : List CE} (hs : X.env.scope = sc) (hf : funB sc = true) (hp : parNm Γ sc (headLn [.Name x px, .Name y py, .Name z pz]) [i, j, l] [.Name x px, .Name y py, .Name z pz] [] = true) (h1 : (!([a, b, c] : List Expr).all (foldedForSure 8)) = true) (h2 : (!([a, b, c] : List Expr).all (constantsAlone 8)) = true) (hm : mEs Γ .v sc cs [a, b, c] = true) :
    swappedStores [.Tuple [.Name x px, .Name y py, .Name z pz] kt pt] (.Tuple [a, b, c] k2 p2) X.env = pure (some [x, y, z]) ∧ (Γ.N[i]? = some x ∧ sc.names.lookup x = some .local) ∧ (Γ.N[j]? = some y ∧ sc.names.lookup y = some .local) ∧ (Γ.N[l]? = some z ∧ sc.names.lookup z = some .local) ∧ x ≠ y ∧ x ≠ z ∧ y ≠ z := by
  obtain ⟨q1, hp⟩ := and2 hp
  obtain ⟨q2, hp⟩ := and2 hp
  obtain ⟨q3, hp⟩ := and2 hp
  obtain ⟨_, hp⟩ := and2 hp
  obtain ⟨q4, hp⟩ := and2 hp
  obtain ⟨q5, hp⟩ := and2 hp
  obtain ⟨q6, hp⟩ := and2 hp
  obtain ⟨q7, hp⟩ := and2 hp
  obtain ⟨q8, hp⟩ := and2 hp
  obtain ⟨q9, hp⟩ := and2 hp
  obtain ⟨q10, hp⟩ := and2 hp
  obtain ⟨q11, _⟩ := and2 hp
  have q1 := of_decide_eq_true q1
  have q2 := of_decide_eq_true q2
  have q4 := of_decide_eq_true q4
  have q5 := of_decide_eq_true q5
  have q8 := of_decide_eq_true q8
  have q9 := of_decide_eq_true q9
  have q7 : y ≠ x := by
    have := of_decide_eq_true q7
    simpa using this
  obtain ⟨q11, q12⟩ : z ≠ y ∧ z ≠ x := by
    have := of_decide_eq_true q11
    simpa using this
  refine ⟨?_, ⟨q1, q2⟩, ⟨q4, q5⟩, ⟨q8, q9⟩, q7.symm, q12.symm, q11.symm⟩
  have kx : X.env.kindOf x = some .local := by unfold Env.kindOf; rw [hs]; exact q2
  have ky : X.env.kindOf y = some .local := by unfold Env.kindOf; rw [hs]; exact q5
  have kz : X.env.kindOf z = some .local := by unfold Env.kindOf; rw [hs]; exact q9
  have q6 : py.line = px.line := by simpa using (show (py.line == px.line) = true from q6)
  have q10 : pz.line = px.line := by simpa using (show (pz.line == px.line) = true from q10)
  have h1 := notT h1
  have h2 := notT h2
  have h3 := vs_stars hm
  have h4 := kind_fun hs hf
  have ne1 : (y == x) = false := by simpa using q7
  have ne2 : (x == y) = false := by simpa using q7.symm
  have ne3 : (z == x) = false := by simpa using q12
  have ne4 : (z == y) = false := by simpa using q11
  have ne5 : (y == z) = false := by simpa using q11.symm
  have ne6 : (x == z) = false := by simpa using q12.symm
  unfold swappedStores
  have h3 : ∀ {α : Type} (p q : α), (if ([a, b, c].any fun x => match x with | .Starred _ _ => true | _ => false) = true then p else q) = q := fun p q => by rw [h3]; rfl
  simp only [h4, h1, h2]
  refine Eq.trans (h3 _ _) ?_
  simp [List.filterMap_cons, kx, ky, kz, Expr.pos, q6, q10, List.eraseDups_cons, ne1, ne2, ne3, ne4, ne5, ne6]
theorem reps3 {K : PySem.W.Frag} {H : Hp} {M : Mem} {B : Bad} {a b c : RF.D} {vs : List V} (h : Reps K H M B [a, b, c] vs) : ∃ u v w, vs = [u, v, w] ∧ Rep K H M B a u ∧ Rep K H M B b v ∧ Rep K H M B c w := by
  obtain ⟨u, r, rfl, h1, h⟩ := h
  obtain ⟨v, r, rfl, h2, h⟩ := h
  obtain ⟨w, r, rfl, h3, h⟩ := h
  have h : r = [] := h
  subst h
  exact ⟨u, v, w, rfl, h1, h2, h3⟩
theorem nth_ne {N : List Str} {i j : Nat} {x y : Str} (hi : N[i]? = some x) (hj : N[j]? = some y) (h : x ≠ y) : i ≠ j := fun e => by
  subst e
  rw [hi] at hj
  exact h (Option.some.inj hj)
theorem st_par (ok : COk Γ Φ X W sc sc) {is : List Nat} {es : List CE} {ts vs : List Expr} {k k2 : Nat} {p1 p2 p : Pos} (h : ((funB sc && Γ.calm) && (decide (vs.length = 2 ∨ vs.length = 3) && (decide (ts.length = vs.length) && (parNm Γ sc (headLn ts) is ts [] && ((!vs.all (foldedForSure 8) && !vs.all (constantsAlone 8)) && mEs Γ .v sc es vs))))) = true) :
    PS X (.Assign [.Tuple ts k p1] (.Tuple vs k2 p2) p) (tS Γ X W (wpS Φ (.par is es))) := by
  obtain ⟨h0, h⟩ := and2 h
  obtain ⟨hf, hc⟩ := and2 h0
  obtain ⟨h1, h⟩ := and2 h
  obtain ⟨h2, h⟩ := and2 h
  obtain ⟨h3, h⟩ := and2 h
  obtain ⟨h4, h5⟩ := and2 h
  obtain ⟨h4, h6⟩ := and2 h4
  have h1 := of_decide_eq_true h1
  have h2 := of_decide_eq_true h2
  have hl := par_look h3
  have he := mEs_len h5
  match vs, ts, is, h1, h2, hl with
  | [a, b, c], [t1, t2, t3], [i, j, l], _, _, _ =>
    cases t1 <;> first | exact noF h3 rfl | skip
    case Name x px =>
      have h32 := (and2 (and2 (and2 (and2 h3).2).2).2).2
      cases t2 <;> first | (exact noF h32 rfl) | skip
      case Name y py =>
        have h33 := (and2 (and2 (and2 (and2 h32).2).2).2).2
        cases t3 <;> first | (exact noF h33 rfl) | skip
        case Name z pz =>
          obtain ⟨sw, ⟨n1, l1⟩, ⟨n2, l2⟩, ⟨n3, l3⟩, ne1, ne2, ne3⟩ := par3_ok (kt := k) (k2 := k2) (pt := p1) (p2 := p2) ok.sc hf h3 h4 h6 h5
          have ha := ves_run (Φ := Φ) (W := W) (fun c _ => (sA c).v) ok [a, b, c] h5
          refine PS.mono (ps_par3 (i := i) (j := j) (l := l) (ok.calm hc) (by rw [ok.N]; exact ok.nd) (by rw [ok.N]; exact n1) (by rw [ok.N]; exact n2) (by rw [ok.N]; exact n3) (nth_ne n1 n2 ne1) (nth_ne n1 n3 ne2) (nth_ne n2 n3 ne3) (by rw [ok.sc]; exact l1) (by rw [ok.sc]; exact l2) (by rw [ok.sc]; exact l3) ha sw) fun D σ H ⟨B, ρ, M, Xd, Z, s, er, hw, f⟩ => ?_
          refine mkL (s.s0 er) hw fun ds ws H1 M1 e1 s1 r1 le q => ?_
          have le : ds.length = 3 := by rw [le, he]; rfl
          match ds, le, q, r1 with
          | [d1, d2, d3], _, q, r1 =>
            obtain ⟨v1, v2, v3, rfl, rv1, rv2, rv3⟩ := reps3 r1
            exact ⟨v1, v2, v3, rfl, f.nx _ _ _ _ e1 s1.good (((s1.env.set rv1).set rv2).set rv3) q⟩
  | [a, b], [t1, t2], [i, j], _, _, _ =>
    cases t1 <;> first | exact noF h3 rfl | skip
    case Name x px =>
      cases t2 <;> first | (exact noF ((and2 (and2 (and2 (and2 h3).2).2).2).2) rfl) | skip
      case Name y py =>
        obtain ⟨sw, ⟨n1, l1⟩, ⟨n2, l2⟩, ne⟩ := par2_ok (kt := k) (k2 := k2) (pt := p1) (p2 := p2) ok.sc hf h3 h4 h6 h5
        have ha := ves_run (Φ := Φ) (W := W) (fun c _ => (sA c).v) ok [a, b] h5
        refine PS.mono (ps_par (i := i) (j := j) (ok.calm hc) (by rw [ok.N]; exact ok.nd) (by rw [ok.N]; exact n1) (by rw [ok.N]; exact n2) (nth_ne n1 n2 ne) (by rw [ok.sc]; exact l1) (by rw [ok.sc]; exact l2) ha sw) fun D σ H ⟨B, ρ, M, Xd, Z, s, er, hw, f⟩ => ?_
        refine mkL (s.s0 er) hw fun ds ws H1 M1 e1 s1 r1 le q => ?_
        have le : ds.length = 2 := by rw [le, he]; rfl
        match ds, le, q, r1 with
        | [d1, d2], _, q, r1 =>
          obtain ⟨v1, v2, rfl, rv1, rv2⟩ := reps2 r1
          exact ⟨v1, v2, rfl, f.nx _ _ _ _ e1 s1.good ((s1.env.set rv1).set rv2) q⟩
/-- a frozen list -/
theorem EnvR.reset {i : Nat} {d : RF.D} {v : V} {K : PySem.W.Frag} (h : EnvR K H M B ρ σ) (hv : σ[i]? = some (some v)) (r : Rep K H M B d v) : EnvR K H M B (setD' ρ i d) σ := by
  have := h.set (i := i) r
  rwa [show σ.set i (some v) = σ from List.ext_getElem? fun j => by
    by_cases hj : i = j
    · subst hj
      have hl : i < σ.length := by
        rcases Nat.lt_or_ge i σ.length with h | h
        · exact h
        · rw [List.getElem?_eq_none h] at hv; cases hv
      rw [List.getElem?_set_self hl, hv]
    · rw [List.getElem?_set_ne hj]] at this
theorem tgS_ns {env : Env} : ∀ {ts : List TgS} {es : List Expr}, tgSs Γ sc ts es = true → (assignEach es env).length = ts.length ∧ (assignEach es env).findIdx? (·.1) = none
  | [], [], _ => ⟨rfl, rfl⟩
  | t :: ts, e :: es, h => by
    obtain ⟨h1, h2⟩ := and2 h
    obtain ⟨i1, i2⟩ := tgS_ns (env := env) h2
    have : assignEach (e :: es) env = (false, assign e env) :: assignEach es env := by
      cases t <;> cases e <;> first | rfl | (exact absurd h1 Bool.false_ne_true)
    rw [this]
    exact ⟨by simp [i1], by simp [List.findIdx?_cons, i2]⟩
  | [], _ :: _, h => absurd h Bool.false_ne_true
  | _ :: _, [], h => absurd h Bool.false_ne_true
theorem tyl {K : PySem.W.Frag} {a : Addr} {us : List V} (h : H a = some (.lst us)) : tyV K "list" (.ref a) H := .inl ⟨rfl, us, SqL.of h⟩
theorem for_read {t : Tg} {it : CE} {body : List CS} (s : S1 Γ X W B H M Xd) (er : EnvR X.K H M B ρ σ) (hw : wpS Φ (.for_ t it body) ρ M Xd Z) (f : Fin X B H M D Z) : tFor (tI Γ X W (wpI Φ it)) (gD X t) (tS Γ X W (wpSs Φ body)) D σ H := by
  refine ⟨B, ρ, M, Xd, _, s.s0 er, hw, fun xs J H1 M1 e1 g1 wk len q => ?_⟩
  refine ⟨fun i m σ2 H2 => ∃ M2 ρ2, m = xs.length - i ∧ i ≤ xs.length ∧ Good X.K H2 M2 B ∧ EnvR X.K H2 M2 B ρ2 σ2 ∧ Ext H1 M1 H2 M2 ∧
      forGo (fun d ρ' k => tgD t d ρ' k) (fun ρ' M' k => wpSs Φ body ρ' M' Xd { nx := k, rt := Z.rt, bk := Z.nx, ct := k }) (xs.drop i) ρ2 M2 Z.nx,
    ⟨xs.length, M1, ρ, by omega, Nat.zero_le _, g1, er.ext s.good e1, Ext.refl _ _, q⟩, ?_⟩
  rintro i m σ2 H2 ⟨M2, ρ2, rfl, hi, g2, er2, e2, q2⟩
  obtain ⟨w1, w2, w3⟩ := wk H2 M2 B e2.mv g2
  by_cases hlt : i < xs.length
  · refine .inr ⟨w1 i hlt, fun σ3 H3 => ∃ M3 ρ3, i + 1 ≤ xs.length ∧ Good X.K H3 M3 B ∧ EnvR X.K H3 M3 B ρ3 σ3 ∧ Ext H1 M1 H3 M3 ∧
      forGo (fun d ρ' k => tgD t d ρ' k) (fun ρ' M' k => wpSs Φ body ρ' M' Xd { nx := k, rt := Z.rt, bk := Z.nx, ct := k }) (xs.drop (i + 1)) ρ3 M3 Z.nx, ?_, ?_⟩
    · rintro σ3 H3 ⟨M3, ρ3, p1, p2, p3, p4, p5⟩
      exact ⟨xs.length - (i + 1), by omega, M3, ρ3, rfl, p1, p2, p3, p4, p5⟩
    · intro x H' yl
      obtain ⟨ex, gx, rx, kx⟩ := w3 i xs[i] x H' (by simp [hlt]) yl
      have hd : xs.drop i = xs[i] :: xs.drop (i + 1) := List.drop_eq_getElem_cons hlt
      rw [hd] at q2
      refine ⟨B, ρ2, M2, xs[i], _, gx, er2.ext g2 ex, rx, q2, fun σ3 ρ3 er3 so q3 => ?_⟩
      have eA : Ext H M H' M2 := (e1.trans e2).trans ex
      refine ⟨B, ρ3, M2, Xd, _, s.step eA gx, er3, q3, fun σ4 ρ4 H4 M4 e4 g4 er4 q4 => ?_, f.rt.step eA, fun σ4 ρ4 H4 M4 e4 => f.nx σ4 ρ4 H4 M4 (eA.trans e4), fun σ4 ρ4 H4 M4 e4 g4 er4 q4 => ?_⟩
      · exact ⟨M4, ρ4, hlt, g4, er4, (e2.trans ex).trans e4, q4⟩
      · exact ⟨M4, ρ4, hlt, g4, er4, (e2.trans ex).trans e4, q4⟩
  · have hi2 : i = xs.length := by omega
    subst hi2
    rw [List.drop_length] at q2
    exact .inl ⟨w2, f.nx _ _ _ _ (e1.trans e2) g2 er2 q2⟩
theorem whl_read {c : CE} {body : List CS} (s : S1 Γ X W B H M Xd) (er : EnvR X.K H M B ρ σ) (hw : wpS Φ (.while_ c body) ρ M Xd Z) (f : Fin X B H M D Z) : tWhile (tT Γ X W (wpT Φ c)) (tS Γ X W (wpSs Φ body)) D σ H := by
  obtain ⟨n, hw⟩ := hw
  refine ⟨fun m σ2 H2 => ∃ M2 ρ2, Good X.K H2 M2 B ∧ EnvR X.K H2 M2 B ρ2 σ2 ∧ Ext H M H2 M2 ∧
      whlGo (fun ρ' M' k => wpT Φ c ρ' M' Xd k) (fun ρ' M' k => wpSs Φ body ρ' M' Xd { nx := k, rt := Z.rt, bk := Z.nx, ct := k }) m ρ2 M2 Z.nx,
    ⟨n, M, ρ, s.good, er, Ext.refl _ _, hw⟩, ?_⟩
  rintro m σ2 H2 ⟨M2, ρ2, g2, er2, e2, q2⟩
  cases m with
  | zero => exact q2.elim
  | succ m =>
    refine mkT ((s.step e2 g2).s0 er2) q2 fun k H3 M3 e3 s3 q3 => ?_
    have eA : Ext H M H3 M3 := e2.trans e3
    cases k with
    | true =>
      simp only [if_true] at q3 ⊢
      refine ⟨fun σ4 H4 => ∃ M4 ρ4, Good X.K H4 M4 B ∧ EnvR X.K H4 M4 B ρ4 σ4 ∧ Ext H M H4 M4 ∧
        whlGo (fun ρ' M' k => wpT Φ c ρ' M' Xd k) (fun ρ' M' k => wpSs Φ body ρ' M' Xd { nx := k, rt := Z.rt, bk := Z.nx, ct := k }) m ρ4 M4 Z.nx, fun σ4 H4 ⟨M4, ρ4, p1, p2, p3, p4⟩ => ⟨m, Nat.lt_succ_self m, M4, ρ4, p1, p2, p3, p4⟩, ?_⟩
      refine ⟨B, ρ2, M3, Xd, _, s.step eA s3.good, s3.env, q3, fun σ4 ρ4 H4 M4 e4 g4 er4 q4 => ⟨M4, ρ4, g4, er4, eA.trans e4, q4⟩, f.rt.step eA, fun σ4 ρ4 H4 M4 e4 => f.nx σ4 ρ4 H4 M4 (eA.trans e4), fun σ4 ρ4 H4 M4 e4 g4 er4 q4 => ⟨M4, ρ4, g4, er4, eA.trans e4, q4⟩⟩
    | false =>
      simp only [Bool.false_eq_true, if_false] at q3 ⊢
      exact f.nx _ _ _ _ eA s3.good s3.env q3
/-- what a raise and a try ask of the context -/
structure TOk (Γ : Cfg) (X : Cx) (W : WX) : Prop where
  hs : Γ.calm = true → X.stack = X.env :: X.outer
  hf : Γ.calm = true → X.env.frame = some X.env.locals
  tk : Γ.calm = true → Takes X W
theorem noCalm {b : Bool} {P : Prop} (h : b = true) (z : b = false) : P := absurd (h.symm.trans z) (by decide)
theorem raise_run (ok : COk Γ Φ X W sc sc) (ot : TOk Γ X W) {c : Nat} {e1 : CE} (ve : VE Γ Φ e1) {x : Str} {e' : Expr} {p p2 pos : Pos} (h : (Γ.calm && (glB sc x && ((match Γ.exs.lookup c with | some p => decide (p.1 = x) && decide (p.2 ≠ "") | none => false) && mE Γ .v sc e1 e'))) = true) :
    PS X (.Raise (some (.Call (.Name x p) [e'] [] p2)) none pos) (tS Γ X W (wpS Φ (.raise_ c e1))) := by
  obtain ⟨hc, h⟩ := and2 h
  obtain ⟨h1, h⟩ := and2 h
  obtain ⟨h2, h3⟩ := and2 h
  cases q : Γ.exs.lookup c with
  | none => rw [q] at h2; cases h2
  | some p' =>
    rw [q] at h2
    obtain ⟨h2, h20⟩ := and2 h2
    obtain rfl : p'.1 = x := of_decide_eq_true h2
    obtain ⟨db, C, k1, k2, k3⟩ := ok.exc.cls (_, p') (look_mem q)
    obtain ⟨fI, k3⟩ := k3.resolve_right fun z => of_decide_eq_true h20 z.1
    refine PS.mono (ps_raiseX (k := Γ.lvl) (ok.calm hc) k3 k1 (ok.room hc) (ot.tk hc) (pa_cons (ve X W sc sc ok e' h3) pa_nil (star_of (mE_head h3))) (ok.gl h1) db (star_of (mE_head h3)) rfl) fun D σ H ⟨B, ρ, M, Xd, Z, s, er, hw, f⟩ => ?_
    refine mkD (s.s0 er) (show wpE Φ e1 ρ M Xd (fun d M1 => Xd ⟨c, some d⟩ M1) from hw) fun dv v H1 M1 e1 s1 r1 q1 => ?_
    exact ⟨v, rfl, fun d hd => s1.xl.go hc ⟨c, some dv⟩ (.ref C) (some d) _ M1 (Ext.new s1.good hd) (s1.good.new hd) ⟨p', q, k1, ⟨d, v, rfl, upd_same, (s1.good.none_of hd).1, r1.ext s1.good (Ext.new s1.good hd)⟩⟩ q1⟩
theorem blank_len : ∀ ρ : DEnv, (blankE ρ).length = ρ.length
  | [] => rfl
  | _ :: r => congrArg (· + 1) (blank_len r)
theorem blank_get : ∀ (ρ : DEnv) (j : Nat), getD' (blankE ρ) j = none
  | [], _ => rfl
  | _ :: _, 0 => rfl
  | _ :: r, j + 1 => blank_get r j
theorem EnvR.blank {K : PySem.W.Frag} {σ : SV} (h : ρ.length = σ.length) : EnvR K H M B (blankE ρ) σ := ⟨(blank_len ρ).trans h, fun i d e => by rw [blank_get] at e; cases e⟩
theorem EnvR.unset {K : PySem.W.Frag} {i : Nat} (h : EnvR K H M B ρ σ) : EnvR K H M B (setO ρ i none) (σ.set i none) := by
  refine ⟨by rw [setO_eq, List.length_set, List.length_set]; exact h.1, fun j e hj => ?_⟩
  rw [getD'_eq, setO_eq] at hj
  by_cases hi : i = j
  · subst hi
    by_cases hl : i < ρ.length
    · rw [List.getElem?_set_self hl] at hj; cases hj
    · rw [List.getElem?_eq_none (by simpa using hl)] at hj; cases hj
  · rw [List.getElem?_set_ne hi, ← getD'_eq] at hj
    rw [List.getElem?_set_ne hi]
    exact h.2 j e hj
/-- an except clause's suite: what it starts with -/
def tHd (Γ : Cfg) (Φ : Nat → Spec) (X : Cx) (hd : List CS) (a : Addr) (cls : Value) (d : Option Addr) : TS := fun D σ H => σ.length = X.N.length → ∃ B ρ M xd Z, Good X.K H M B ∧ EnvR X.K H M B ρ σ ∧ XRel X.K X.mg Γ.exs H M B xd cls d ∧ wpSs Φ hd ρ M (curX a xd) Z ∧ Fin X B H M D Z
theorem try_run (ok : COk Γ Φ X W sc sc) (ot : TOk Γ X W) {i : Nat} {x : Str} {cs : List Nat} {body hd : List CS} {y n : Str} {b₀ : Stmt} {su body' : List Stmt} {p hp pos : Pos}
    (h : (Γ.calm && (decide (x = y) && (glB sc y && (decide ((x, cs) ∈ Γ.eis) && (decide (Γ.N[i]? = some n) && (decide (sc.names.lookup n = some .local) && (mSs Γ sc body body' && mSs { Γ with calm := false } sc hd (b₀ :: su)))))))) = true)
    (rb : ∀ (X' : Cx) (W' : WX), COk Γ Φ X' W' sc sc → TOk Γ X' W' → mSs Γ sc body body' = true → PSs X' body' (tS Γ X' W' (wpSs Φ body)))
    (rh : ∀ (X' : Cx) (W' : WX), COk { Γ with calm := false } Φ X' W' sc sc → TOk { Γ with calm := false } X' W' → mSs { Γ with calm := false } sc hd (b₀ :: su) = true → PSs X' (b₀ :: su) (tS { Γ with calm := false } X' W' (wpSs Φ hd))) :
    PS X (.Try body' [.ExceptHandler (some (.Name y p)) (some n) (b₀ :: su) hp] [] [] pos) (tS Γ X W (wpS Φ (.tryAs i x cs body hd))) := by
  obtain ⟨hc, h⟩ := and2 h
  obtain ⟨h1, h⟩ := and2 h
  obtain ⟨h2, h⟩ := and2 h
  obtain ⟨h3, h⟩ := and2 h
  obtain ⟨h4, h⟩ := and2 h
  obtain ⟨h5, h⟩ := and2 h
  obtain ⟨h6, h7⟩ := and2 h
  obtain rfl := of_decide_eq_true h1
  have h4 := of_decide_eq_true h4
  have h5 := of_decide_eq_true h5
  obtain ⟨db, cv0, cv, rc, uc, hn, hsub⟩ := ok.exc.is _ (of_decide_eq_true h3)
  have hln : X.env.kindOf n = some .local := by unfold Env.kindOf; rw [ok.sc]; exact h5
  have hbody : ∀ (W' : WX) (pn : List (Addr × Obj)) (xe : Value → Shared → Prop), Takes (X.tr pn xe) W' → PassesOwn (model X.prog X.w) X.A X.env xe → PSs (X.tr pn xe) body' (tS Γ X W' (wpSs Φ body)) := fun W' pn xe tk po => by
    have okT : COk Γ Φ (X.tr pn xe) W' sc sc := { sc := ok.sc, N := ok.N, nd := ok.nd, calm := ok.calm, room := ok.room, units := ok.units, gd := ok.gd, fns := ok.fns, blt := ok.blt, gls := ok.gls, pass := fun σ => passAt tk σ, own := fun _ => po, gts := ok.gts, mth := ok.mth, exc := ok.exc, st := ok.st }
    refine PSs.mono (rb (X.tr pn xe) W' okT ⟨ot.hs, ot.hf, fun _ => tk⟩ h6) fun D σ H ⟨B, ρ, M, Xd, Z, s, er, hw, f⟩ => ?_
    exact ⟨B, ρ, M, Xd, Z, ⟨s.good, fun σ => ⟨(s.xl σ).go, fun z => noCalm hc z⟩⟩, er, hw, ⟨f.nx, f.rt, f.bk, f.ct⟩⟩
  have hsuite : ∀ (a : Addr) (oe : Obj) (cls : Value) (d : Option Addr) (pn : List (Addr × Obj)), Zc cls d oe → (∃ vs, oe.data = .fields vs) → PSs (X.suite a ((a, oe) :: pn)) (b₀ :: su) (tHd Γ Φ X hd a cls d) := fun a oe cls d pn hz hf => by
    have okS : COk { Γ with calm := false } Φ (X.suite a ((a, oe) :: pn)) noW sc sc := { sc := ok.sc, N := ok.N, nd := ok.nd, calm := fun z => (nomatch z), room := fun z => (nomatch z), units := ok.units, gd := ok.gd, fns := ok.fns, blt := ok.blt, gls := ok.gls, pass := fun σ pins H s e s' I c => passL pins σ H s e s' I c, own := fun z => (nomatch z), gts := ok.gts, mth := ok.mth, exc := ok.exc, st := ok.st }
    refine ⟨fun pins s σ H D I hw => (rh (X.suite a ((a, oe) :: pn)) noW okS ⟨fun z => (nomatch z), fun z => (nomatch z), fun z => (nomatch z)⟩ h7).run pins s σ H D I ?_⟩
    obtain ⟨B, ρ, M, xd, Z, g, er, xr, hw, f⟩ := hw I.len
    refine ⟨B, ρ, M, curX a xd, Z, ⟨g, fun σ => ⟨fun z => (nomatch z), fun _ a' xd' he => ?_⟩⟩, er, hw, ⟨f.nx, f.rt, f.bk, f.ct⟩⟩
    obtain ⟨rfl, rfl⟩ := curX_inj he
    exact ⟨oe, cls, d, List.mem_cons_self, hz, hf, xr⟩
  refine ⟨fun pins s σ H D I hw => (ps_try_as (i := i) (n := n) (c := cv) (tb := fun W' => tS Γ X W' (wpSs Φ body)) (ts := tHd Γ Φ X hd) (Wout := W) (ot.hs hc) (ot.hf hc) (by rw [ok.N]; exact ok.nd) (by rw [ok.N]; exact h4) hln ⟨ok.gl h2, db, hn⟩ (ot.tk hc) hbody hsuite).run pins s σ H D I ?_⟩
  obtain ⟨B, ρ, M, Xd, Z, s1, er, hw, f⟩ := hw
  have hlen : ρ.length = X.N.length := er.1.trans I.len
  refine ⟨B, ρ, M, tryX Φ i cs hd ρ Xd Z, Z, ⟨s1.good, fun σ' => ⟨fun _ xd C dd H' M' e' g' xr q => ?_, fun z => noCalm hc z⟩⟩, er, hw, f⟩
  obtain ⟨p', x1, x2, x3⟩ := id xr
  refine ⟨cs.contains xd.cls, (hsub _ _ _ x1 x2).2, fun hb a ha hl => ?_, fun hb => ?_⟩
  · have q := (Eq.mp (if_pos hb)) (show (if cs.contains xd.cls = true then ∀ a, M' a = none → wpSs Φ hd (setD' (blankE ρ) i (.cell a)) M' (curX a xd) (excZ Z i) else Xd xd M') from q)
    rw [List.length_set] at hl
    refine ⟨B, _, M', xd, excZ Z i, g', (EnvR.blank (hlen.trans hl.symm)).set (i := i) (d := .cell a) (v := .ref a) rfl, xr, q a (g'.none_of ha).1, ⟨fun σ2 ρ2 H2 M2 e2 g2 er2 q2 => f.nx _ _ _ _ (e'.trans e2) g2 er2.unset q2, f.rt.step e', fun σ2 ρ2 H2 M2 e2 g2 er2 q2 => f.bk _ _ _ _ (e'.trans e2) g2 er2.unset q2, fun σ2 ρ2 H2 M2 e2 g2 er2 q2 => f.ct _ _ _ _ (e'.trans e2) g2 er2.unset q2⟩⟩
  · refine (s1.xl σ').go hc xd C dd H' M' e' g' xr ?_
    have hb' : ¬ cs.contains xd.cls = true := by rw [hb]; decide
    exact (Eq.mp (if_neg hb')) (show (if cs.contains xd.cls = true then ∀ a, M' a = none → wpSs Φ hd (setD' (blankE ρ) i (.cell a)) M' (curX a xd) (excZ Z i) else Xd xd M') from q)
mutual
theorem sS : ∀ (c : CS) (Γ : Cfg) (X : Cx) (W : WX) (sc : Scope), COk Γ Φ X W sc sc → TOk Γ X W → ∀ (e : Stmt), mS Γ sc c e = true → PS X e (tS Γ X W (wpS Φ c))
  | .expr c, Γ, X, W, sc, ok, ot, e, h => by
    cases e <;> first | exact noF h rfl | skip
    case Expr e' pos =>
      obtain ⟨h1, h2⟩ := and2 h
      refine PS.mono (ps_expr ((sA c).v X W sc sc ok e' h2) (sw_none (notT h1))) fun D σ H ⟨B, ρ, M, Xd, Z, s, er, hw, f⟩ => ?_
      exact mkD (s.s0 er) hw fun y v H1 M1 e1 s1 r1 q => f.nx _ _ _ _ e1 s1.good s1.env q
  | .asg i c, Γ, X, W, sc, ok, ot, e, h => by
    cases e <;> first | exact noF h rfl | skip
    case Assign ts e' pos =>
      cases ts with
      | nil => exact noF h rfl
      | cons t ts =>
        cases ts with
        | cons _ _ => exact noF h (by cases t <;> rfl)
        | nil =>
          cases t <;> first | exact noF h rfl | skip
          case Name x px =>
            obtain ⟨h1, h⟩ := and2 h
            obtain ⟨h2, h⟩ := and2 h
            obtain ⟨h3, h4⟩ := and2 h
            have h1 := of_decide_eq_true h1
            cases hs : swB sc x px e' with
            | false => exact asg_fin ok h1 h2 ((sA c).v X W sc sc ok e' h3) (swB_no ok.sc hs)
            | true =>
              rw [hs] at h4
              obtain ⟨h5, h6⟩ := and2 (show (isLc c && funB sc) = true from h4)
              cases c <;> first | exact noF h5 rfl | skip
              case lc own tg it ifs elt _ _ =>
                cases e' <;> first | exact noF h3 rfl | skip
                case ListComp elt' gens scope p2 _ _ =>
                  cases gens with
                  | nil => exact noF h3 rfl
                  | cons g gs =>
                    obtain ⟨tg', it', ifs', n⟩ := g
                    cases gs with
                    | cons _ _ => exact noF h3 rfl
                    | nil =>
                      have k1 := (and2 h3).2
                      have k0 := (and2 k1).1
                      have k2 := (and2 k1).2
                      obtain rfl := of_decide_eq_true k0
                      obtain ⟨hc, k3⟩ := and2 k2
                      obtain ⟨g1, k4⟩ := and2 k3
                      obtain ⟨g2, k5⟩ := and2 k4
                      obtain ⟨g3, k6⟩ := and2 k5
                      obtain ⟨g4, k7⟩ := and2 k6
                      obtain ⟨g5, k8⟩ := and2 k7
                      obtain ⟨g6, g7⟩ := and2 k8
                      have hsub : ∀ i ∈ tgIx tg, i ∈ own.map (·.2) := by simpa using g4
                      have hB : BlkOk X.N X.env.scope scope own := by rw [ok.N, ok.sc]; exact blkOk_by g2
                      obtain ⟨hy, hsw⟩ := swB_yes (l := pos.line) ok.sc h6 hs
                      refine PS.mono (ps_setLc (i := i) (g := gD X tg) (tt := tT Γ X noW (wpTs Φ ifs)) (te := tD Γ X noW (wpE Φ elt)) (ok.calm hc) (by rw [ok.N]; exact ok.nd) (by rw [ok.N]; exact h1) (by rw [ok.sc]; exact hy) hsw ((sA it).i X W sc sc ok it' tg' g1) hB ?_ ?_ ?_ (notSet_of (mE_head g1))) fun D σ H ⟨B, ρ, M, Xd, Z, s, er, hw, f⟩ => ?_
                      · intro s H C cl fp
                        have okb := ok.blk s H scope cl C fp
                        exact PG.mono (pg_ok okb.stok okb.calm tg tg' g3) fun v σ H Q q => q
                      · intro s H C cl fp
                        have okb := ok.blk s H scope cl C fp
                        exact ⟨fun pins s σ H Q I q => (pts_run (fun c _ => (sA c).t) (of_decide_eq_true g5) okb ifs' g6).run pins s σ H Q I (tT_blk hc q)⟩
                      · intro s H C cl fp
                        have okb := ok.blk s H scope cl C fp
                        exact PE.mono ((sA elt).v _ _ _ _ okb elt' g7) fun σ H Q q => tD_blk hc q
                      · rw [← snds_eq]
                        refine lc_read (by rw [snds_eq]; exact hsub) ⟨B, ρ, M, Xd, (fun d M1 => Z.nx (setD' ρ i d) M1), s.s0 er, hw, fun d v H' M' e1 g1 r1 q => ?_⟩
                        exact f.nx _ _ _ _ e1 g1 ((er.ext s.good e1).set r1) q
              case dc own tg it ifs ke el _ _ =>
                cases e' <;> first | exact noF h3 rfl | skip
                case DictComp ke' elt' gens scope p2 _ _ =>
                  cases gens with
                  | nil => exact noF h3 rfl
                  | cons g gs =>
                    obtain ⟨tg', it', ifs', n⟩ := g
                    cases gs with
                    | cons _ _ => exact noF h3 rfl
                    | nil =>
                      have k1 := (and2 h3).2
                      have k0 := (and2 k1).1
                      have k2 := (and2 k1).2
                      obtain rfl := of_decide_eq_true k0
                      obtain ⟨hc, k3⟩ := and2 k2
                      obtain ⟨g1, k4⟩ := and2 k3
                      obtain ⟨g2, k5⟩ := and2 k4
                      obtain ⟨g3, k6⟩ := and2 k5
                      obtain ⟨g4, k7⟩ := and2 k6
                      obtain ⟨g5, k8⟩ := and2 k7
                      obtain ⟨g6, g7⟩ := and2 k8
                      obtain ⟨g7, g8⟩ := and2 g7
                      have hsub : ∀ i ∈ tgIx tg, i ∈ own.map (·.2) := by simpa using g4
                      have hB : BlkOk X.N X.env.scope scope own := by rw [ok.N, ok.sc]; exact blkOk_by g2
                      obtain ⟨hy, hsw⟩ := swB_yesD (l := pos.line) ok.sc h6 hs
                      refine PS.mono (ps_setDc (i := i) (g := gD X tg) (tt := tT Γ X noW (wpTs Φ ifs)) (tk := tD Γ X noW (wpE Φ ke)) (tv := tD Γ X noW (wpE Φ el)) (ok.calm hc) (by rw [ok.N]; exact ok.nd) (by rw [ok.N]; exact h1) (by rw [ok.sc]; exact hy) hsw ((sA it).i X W sc sc ok it' tg' g1) hB ?_ ?_ ?_ ?_ (notSet_of (mE_head g1))) fun D σ H ⟨B, ρ, M, Xd, Z, s, er, hw, f⟩ => ?_
                      · intro s H C cl fp
                        have okb := ok.blk s H scope cl C fp
                        exact PG.mono (pg_ok okb.stok okb.calm tg tg' g3) fun v σ H Q q => q
                      · intro s H C cl fp
                        have okb := ok.blk s H scope cl C fp
                        exact ⟨fun pins s σ H Q I q => (pts_run (fun c _ => (sA c).t) (of_decide_eq_true g5) okb ifs' g6).run pins s σ H Q I (tT_blk hc q)⟩
                      · intro s H C cl fp
                        have okb := ok.blk s H scope cl C fp
                        exact PE.mono ((sA ke).v _ _ _ _ okb ke' g7) fun σ H Q q => tD_blk hc q
                      · intro s H C cl fp
                        have okb := ok.blk s H scope cl C fp
                        exact PE.mono ((sA el).v _ _ _ _ okb elt' g8) fun σ H Q q => tD_blk hc q
                      · rw [← snds_eq]
                        refine dc_read (by rw [snds_eq]; exact hsub) ⟨B, ρ, M, Xd, (fun d M1 => Z.nx (setD' ρ i d) M1), s.s0 er, hw, fun d v H' M' e1 g1 r1 q => ?_⟩
                        exact f.nx _ _ _ _ e1 g1 ((er.ext s.good e1).set r1) q
              case live c0 _ _ =>
                cases c0 <;> first | exact noF h5 rfl | skip
                case lc own tg it ifs elt _ _ =>
                  replace h3 := (and2 (and2 (show (Md.v.isV && (isNewL (.lc own tg it ifs elt) && mE Γ .v sc (.lc own tg it ifs elt) e')) = true from h3)).2).2
                  cases e' <;> first | exact noF h3 rfl | skip
                  case ListComp elt' gens scope p2 _ _ =>
                    cases gens with
                    | nil => exact noF h3 rfl
                    | cons g gs =>
                      obtain ⟨tg', it', ifs', n⟩ := g
                      cases gs with
                      | cons _ _ => exact noF h3 rfl
                      | nil =>
                        have k1 := (and2 h3).2
                        have k0 := (and2 k1).1
                        have k2 := (and2 k1).2
                        obtain rfl := of_decide_eq_true k0
                        obtain ⟨hc, k3⟩ := and2 k2
                        obtain ⟨g1, k4⟩ := and2 k3
                        obtain ⟨g2, k5⟩ := and2 k4
                        obtain ⟨g3, k6⟩ := and2 k5
                        obtain ⟨g4, k7⟩ := and2 k6
                        obtain ⟨g5, k8⟩ := and2 k7
                        obtain ⟨g6, g7⟩ := and2 k8
                        have hsub : ∀ i ∈ tgIx tg, i ∈ own.map (·.2) := by simpa using g4
                        have hB : BlkOk X.N X.env.scope scope own := by rw [ok.N, ok.sc]; exact blkOk_by g2
                        obtain ⟨hy, hsw⟩ := swB_yes (l := pos.line) ok.sc h6 hs
                        refine PS.mono (ps_setLc (i := i) (g := gD X tg) (tt := tT Γ X noW (wpTs Φ ifs)) (te := tD Γ X noW (wpE Φ elt)) (ok.calm hc) (by rw [ok.N]; exact ok.nd) (by rw [ok.N]; exact h1) (by rw [ok.sc]; exact hy) hsw ((sA it).i X W sc sc ok it' tg' g1) hB ?_ ?_ ?_ (notSet_of (mE_head g1))) fun D σ H ⟨B, ρ, M, Xd, Z, s, er, hw, f⟩ => ?_
                        · intro s H C cl fp
                          have okb := ok.blk s H scope cl C fp
                          exact PG.mono (pg_ok okb.stok okb.calm tg tg' g3) fun v σ H Q q => q
                        · intro s H C cl fp
                          have okb := ok.blk s H scope cl C fp
                          exact ⟨fun pins s σ H Q I q => (pts_run (fun c _ => (sA c).t) (of_decide_eq_true g5) okb ifs' g6).run pins s σ H Q I (tT_blk hc q)⟩
                        · intro s H C cl fp
                          have okb := ok.blk s H scope cl C fp
                          exact PE.mono ((sA elt).v _ _ _ _ okb elt' g7) fun σ H Q q => tD_blk hc q
                        · rw [← snds_eq]
                          refine lc_readL (by rw [snds_eq]; exact hsub) ⟨B, ρ, M, Xd, (fun d M1 => Z.nx (setD' ρ i d) M1), s.s0 er, hw, fun d v H' M' e1 g1 r1 q => ?_⟩
                          exact f.nx _ _ _ _ e1 g1 ((er.ext s.good e1).set r1) q
              case lc2 own tg it ifs vs1 tg1 it1 ifs1 elt _ _ =>
                cases e' <;> first | exact noF h3 rfl | skip
                case ListComp elt' gens scope p2 _ _ =>
                  cases gens with
                  | nil => exact noF h3 rfl
                  | cons g gs =>
                    obtain ⟨tg', it', ifs', n⟩ := g
                    cases gs with
                    | nil => exact noF h3 rfl
                    | cons g gs =>
                      obtain ⟨tg1', it1', ifs1', n1⟩ := g
                      cases gs with
                      | cons _ _ => exact noF h3 rfl
                      | nil =>
                      have k1 := (and2 h3).2
                      have k0 := (and2 k1).1
                      have k2 := (and2 k1).2
                      have k00 := (and2 k0).1
                      have k01 := (and2 k0).2
                      obtain rfl := of_decide_eq_true k00
                      obtain rfl := of_decide_eq_true k01
                      obtain ⟨hc, k3⟩ := and2 k2
                      obtain ⟨g1, k4⟩ := and2 k3
                      obtain ⟨g2, k5⟩ := and2 k4
                      obtain ⟨g3, k6⟩ := and2 k5
                      obtain ⟨g4, k7⟩ := and2 k6
                      obtain ⟨g5, k8⟩ := and2 k7
                      obtain ⟨g6, k9⟩ := and2 k8
                      obtain ⟨g7, k10⟩ := and2 k9
                      obtain ⟨j1, k11⟩ := and2 k10
                      obtain ⟨j2, k12⟩ := and2 k11
                      obtain ⟨j3, k13⟩ := and2 k12
                      obtain ⟨j3, j4⟩ := and2 j3
                      obtain ⟨j5, j6⟩ := and2 k13
                      have hsub : ∀ i ∈ tgIx tg, i ∈ own.map (·.2) := by simpa using g4
                      have hs1 : ∀ i ∈ tgIx tg1, i ∈ vs1 := by simpa using j3
                      have hv1 : ∀ i ∈ vs1, i ∈ own.map (·.2) := by simpa using j4
                      have hB : BlkOk X.N X.env.scope scope own := by rw [ok.N, ok.sc]; exact blkOk_by g2
                      obtain ⟨hy, hsw⟩ := swB_yes (l := pos.line) ok.sc h6 hs
                      refine PS.mono (ps_setLc2 (i := i) (g := gD X tg) (tt := tT Γ X noW (wpTs Φ ifs)) (wi1 := tI Γ X noW (wpI Φ it1)) (g1 := gD X tg1) (tt1 := tT Γ X noW (wpTs Φ ifs1)) (te := tD Γ X noW (wpE Φ elt)) (vs1 := vs1) (ok.calm hc) (by rw [ok.N]; exact ok.nd) (by rw [ok.N]; exact h1) (by rw [ok.sc]; exact hy) hsw ((sA it).i X W sc sc ok it' tg' g1) hB hv1 ?_ ?_ ?_ ?_ ?_ ?_ (notSet_of (mE_head g1)) (fun env => notSet_of (mE_head j1))) fun D σ H ⟨B, ρ, M, Xd, Z, s, er, hw, f⟩ => ?_
                      · intro s H C cl fp
                        have okb := ok.blk s H scope cl C fp
                        exact PG.mono (pg_ok okb.stok okb.calm tg tg' g3) fun v σ H Q q => q
                      · intro s H C cl fp
                        have okb := ok.blk s H scope cl C fp
                        exact ⟨fun pins s σ H Q I q => (pts_run (fun c _ => (sA c).t) (of_decide_eq_true g5) okb ifs' g6).run pins s σ H Q I (tT_blk hc q)⟩
                      · intro s H C cl fp
                        have okb := ok.blk s H scope cl C fp
                        exact PI.mono ((sA it1).i _ _ _ _ okb it1' tg1' j1) fun σ H Q q => tI_blk hc q
                      · intro s H C cl fp
                        have okb := ok.blk s H scope cl C fp
                        exact PG.mono (pg_ok okb.stok okb.calm tg1 tg1' j2) fun v σ H Q q => q
                      · intro s H C cl fp
                        have okb := ok.blk s H scope cl C fp
                        exact ⟨fun pins s σ H Q I q => (pts_run (fun c _ => (sA c).t) (of_decide_eq_true j5) okb ifs1' j6).run pins s σ H Q I (tT_blk hc q)⟩
                      · intro s H C cl fp
                        have okb := ok.blk s H scope cl C fp
                        exact PE.mono ((sA elt).v _ _ _ _ okb elt' g7) fun σ H Q q => tD_blk hc q
                      · rw [← snds_eq]
                        refine lc2_read (by rw [snds_eq]; exact hsub) hs1 ⟨B, ρ, M, Xd, (fun d M1 => Z.nx (setD' ρ i d) M1), s.s0 er, hw, fun d v H' M' e1 g1 r1 q => ?_⟩
                        exact f.nx _ _ _ _ e1 g1 ((er.ext s.good e1).set r1) q
  | .asgT t c, Γ, X, W, sc, ok, ot, e, h => by
    cases e <;> first | exact noF h rfl | skip
    case Assign ts e' pos =>
      cases ts with
      | nil => exact noF h rfl
      | cons t' ts =>
        cases ts with
        | cons _ _ => exact noF h (by cases t' <;> rfl)
        | nil =>
          cases t' <;> first | exact noF h rfl | skip
          case Tuple tgs k p =>
            obtain ⟨h1, h⟩ := and2 h
            obtain ⟨h2, h3⟩ := and2 h
            refine PS.mono (ps_asg ((sA c).v X W sc sc ok e' h3) (pg_ok ok.stok ok.calm t _ h2) (sw_other (fun _ _ z => nomatch z)) (noSwp_ok ok.sc h1) rfl) fun D σ H ⟨B, ρ, M, Xd, Z, s, er, hw, f⟩ => ?_
            exact mkD (s.s0 er) hw fun y v H1 M1 e1 s1 r1 q => ⟨B, ρ, M1, y, _, s1.good, s1.env, r1, q, fun σ' ρ' er' so q' => f.nx _ _ _ _ e1 s1.good er' q'⟩
  | .par is es, Γ, X, W, sc, ok, ot, e, h => by
    cases e <;> first | exact noF h rfl | skip
    case Assign ts e' pos =>
      cases ts with
      | nil => exact noF h rfl
      | cons t' ts =>
        cases ts with
        | cons _ _ => exact noF h (by cases t' <;> rfl)
        | nil =>
          cases t' <;> first | exact noF h rfl | skip
          case Tuple tgs k p =>
            cases e' <;> first | exact noF h rfl | skip
            case Tuple vs k2 p2 => exact st_par ok h
  | .setix o i c, Γ, X, W, sc, ok, ot, e, h => by
    cases e <;> first | exact noF h rfl | skip
    case Assign ts e' pos =>
      cases ts with
      | nil => exact noF h rfl
      | cons t' ts =>
        cases ts with
        | cons _ _ => exact noF h (by cases t' <;> rfl)
        | nil =>
          cases t' <;> first | exact noF h rfl | skip
          case Subscript o' i' p =>
            obtain ⟨h1, h⟩ := and2 h
            obtain ⟨h2, h3⟩ := and2 h
            have hi := mE_head h2
            refine PS.mono (ps_asg ((sA c).v X W sc sc ok e' h3) (pg_sub ((sA o).v X W sc sc ok o' h1) ((sA i).v X W sc sc ok i' h2) set_list ?_) (sw_other (fun _ _ z => nomatch z)) rfl rfl) fun D σ H ⟨B, ρ, M, Xd, Z, s, er, hw, f⟩ => ?_
            · intro v; cases i' <;> first | rfl | exact noF hi rfl
            · refine mkD (s.s0 er) hw fun d v H1 M1 e1 s1 r1 q => mkD s1 q fun ov vo H2 M2 e2 s2 ro q => mkD s2 q fun iv vi H3 M3 e3 s3 ri q => ?_
              cases ov <;> first | exact (show False from q).elim | skip
              case cell a _ =>
                cases iv <;> first | exact (show False from q).elim | skip
                case int j =>
                  have ro : vo = .ref a := ro
                  obtain rfl := ro
                  obtain rfl := ri
                  have q : (match M3 a with
                    | some (.lst xs) => (match ixN xs.length j with
                      | some n => Z.nx ρ (M3.set a (.lst (xs.set n d)))
                      | none => False)
                    | none => False) := q
                  split at q
                  · rename_i xs hc
                    split at q
                    · rename_i n hn
                      obtain ⟨us, hu, zu, ru⟩ := s3.good.cel a _ hc
                      have rd : Rep X.K H3 M3 B d v := r1.ext s1.good (e2.trans e3)
                      have g4 : Good X.K (upd H3 a (.lst (us.set n v))) (M3.set a (.lst (xs.set n d))) B := s3.good.setC hc (Reps.setAt n ru rd) (by rw [List.length_set]; exact zu)
                      have e4 : Ext H3 M3 (upd H3 a (.lst (us.set n v))) (M3.set a (.lst (xs.set n d))) := Ext.setC hc
                      exact ⟨a, us, j, n, rfl, rfl, hu, by rw [← ru.length]; exact hn, f.nx _ _ _ _ (((e1.trans e2).trans e3).trans e4) g4 (s3.env.ext s3.good e4) q⟩
                    · exact q.elim
                  · exact q.elim
  | .asgM tgs c, Γ, X, W, sc, ok, ot, e, h => by
    cases e <;> first | exact noF h rfl | skip
    case Assign ts e' pos =>
      cases ts with
      | nil => exact noF h rfl
      | cons t' ts =>
        cases ts with
        | cons _ _ => exact noF h (by cases t' <;> rfl)
        | nil =>
          cases t' <;> first | exact noF h rfl | skip
          case Tuple es k p =>
            obtain ⟨h1, h⟩ := and2 h
            obtain ⟨h1, hc⟩ := and2 h1
            obtain ⟨h2, h3⟩ := and2 h
            obtain ⟨i1, i2⟩ := tgS_ns (env := X.env) h2
            refine PS.mono (ps_asg ((sA c).v X W sc sc ok e' h3) (pg_tup (ok.calm hc) (tg_run (Φ := Φ) (W := W) ok tgs es h2) i1 i2) (sw_other (fun _ _ z => nomatch z)) (noSwp_ok ok.sc h1) rfl) fun D σ H ⟨B, ρ, M, Xd, Z, s, er, hw, f⟩ => ?_
            refine mkD (s.s0 er) hw fun y v H1 M1 e1 s1 r1 q => ?_
            cases y <;> first | exact (show False from q).elim | skip
            case tup ds =>
              obtain ⟨a, vs, rfl, h1, _, rr⟩ := tupF r1
              obtain ⟨q1, q2⟩ : ds.length = tgs.length ∧ tgSDs Φ tgs ds ρ M1 Xd Z.nx := q
              exact ⟨a, vs, rfl, h1, by rw [← rr.length]; exact q1, B, ρ, M1, ds, Xd, _, s.step e1 s1.good, s1.env, rr, q1, q2, fun σ' ρ' H' M' e' g' er' q' => f.nx _ _ _ _ (e1.trans e') g' er' q'⟩
  | .append o c, Γ, X, W, sc, ok, ot, e, h => by
    cases o <;> cases e <;> first | exact noF h rfl | skip
    case var.Expr o ce pos =>
        have h : (match appB ce with
          | some (x, e') => varB Γ sc o x && mE Γ .v sc c e'
          | none => false) = true := h
        cases q : appB ce with
        | none => rw [q] at h; cases h
        | some xe =>
          obtain ⟨x, e'⟩ := xe
          rw [q] at h
          obtain ⟨h1, h2⟩ := and2 (show (varB Γ sc o x && mE Γ .v sc c e') = true from h)
          obtain ⟨p1, ap, cp, rfl, hl⟩ := appB_of q
          have he := mE_head h2
          refine PS.mono (ps_expr (pe_bm PySem.F.plainAttrs_list PySem.F.slot_list_append PySem.F.type_list_append mt_append (var_run (Φ := Φ) (W := W) ok h1) (pa_cons ((sA c).v X W sc sc ok e' h2) pa_nil (star_of he)) rfl ?_ hl (star_of he) ?_) rfl) fun D σ H ⟨B, ρ, M, Xd, Z, s, er, hw, f⟩ => ?_
          · rw [star_of he]; rfl
          · rfl
          · refine mkD (s.s0 er) (show wpE Φ (.var o) ρ M Xd (fun ov M1 => cellD ov M1 fun _ => wpE Φ c ρ M1 Xd fun d M2 => appD ov d M2 fun M3 => Z.nx ρ M3) from hw) fun ov vo H1 M1 e1 s1 ro q => ?_
            obtain ⟨a, rfl⟩ : ∃ a, ov = .cell a := by cases ov <;> first | exact ⟨_, rfl⟩ | exact (show False from q).elim
            · have ro : vo = .ref a := ro
              obtain rfl := ro
              have q : (match M1 a with
                | some (.lst xs) => wpE Φ c ρ M1 Xd fun d M2 => appD (.cell a) d M2 fun M3 => Z.nx ρ M3
                | none => False) := q
              split at q
              · rename_i xs hc
                obtain ⟨us, hu, zu, ru⟩ := s1.good.cel a _ hc
                refine ⟨tyl hu, mkD s1 q fun d v H2 M2 e2 s2 r2 q => ?_⟩
                have q : (match M2 a with
                  | some (.lst xs) => xs.length < sizeLine ∧ Z.nx ρ (M2.set a (.lst (xs ++ [d])))
                  | none => False) := q
                split at q
                · rename_i ys hc2
                  obtain ⟨ws, hw2, zw, rw2⟩ := s2.good.cel a _ hc2
                  have rr : Reps X.K H2 M2 B (ys ++ [d]) (ws ++ [v]) := rw2.append ⟨v, [], rfl, r2, rfl⟩
                  have g4 : Good X.K (upd H2 a (.lst (ws ++ [v]))) (M2.set a (.lst (ys ++ [d]))) B := s2.good.setC hc2 rr (by rw [List.length_append]; exact q.1)
                  have e4 : Ext H2 M2 (upd H2 a (.lst (ws ++ [v]))) (M2.set a (.lst (ys ++ [d]))) := Ext.setC hc2
                  exact ⟨a, ws, v, rfl, rfl, hw2, by rw [← rw2.length]; exact q.1, f.nx _ _ _ _ ((e1.trans e2).trans e4) g4 (s2.env.ext s2.good e4) q.2⟩
                · exact q.elim
              · exact q.elim
  | .ret c, Γ, X, W, sc, ok, ot, e, h => by
    cases e <;> first | exact noF h rfl | skip
    case Return o pos =>
      cases o with
      | none => exact noF h rfl
      | some e' =>
        refine PS.mono (ps_ret ((sA c).v X W sc sc ok e' h)) fun D σ H ⟨B, ρ, M, Xd, Z, s, er, hw, f⟩ => ?_
        exact ⟨B, ρ, M, Xd, _, s.s0 er, hw, f.rt⟩
  | .iff c a b, Γ, X, W, sc, ok, ot, e, h => by
    cases e <;> first | exact noF h rfl | skip
    case If c' a' b' pos =>
      obtain ⟨h1, h⟩ := and2 h
      obtain ⟨h2, h3⟩ := and2 h
      refine PS.mono (ps_if ((sA c).t X W sc sc ok c' h1) (sSs a Γ X W sc ok ot a' h2) (sSs b Γ X W sc ok ot b' h3)) fun D σ H ⟨B, ρ, M, Xd, Z, s, er, hw, f⟩ => ?_
      refine mkT (s.s0 er) hw fun k H1 M1 e1 s1 q => ?_
      cases k with
      | true =>
        simp only [if_true] at q ⊢
        exact ⟨B, ρ, M1, Xd, Z, s.step e1 s1.good, s1.env, q, f.step e1⟩
      | false =>
        simp only [Bool.false_eq_true, if_false] at q ⊢
        exact ⟨B, ρ, M1, Xd, Z, s.step e1 s1.good, s1.env, q, f.step e1⟩
  | .for_ t it body, Γ, X, W, sc, ok, ot, e, h => by
    cases e <;> first | exact noF h rfl | skip
    case For tg it' body' orelse pos =>
      cases orelse with
      | cons _ _ => exact noF h rfl
      | nil =>
        obtain ⟨hc, h⟩ := and2 h
        obtain ⟨h1, h⟩ := and2 h
        obtain ⟨h2, h3⟩ := and2 h
        refine PS.mono (ps_for (ok.own hc) (ok.calm hc) ((sA it).i X W sc sc ok it' tg h1) (pg_ok ok.stok ok.calm t tg h2) (sSs body Γ X W sc ok ot body' h3) (notSet_of (mE_head h1))) fun D σ H ⟨B, ρ, M, Xd, Z, s, er, hw, f⟩ => for_read s er hw f
  | .while_ c body, Γ, X, W, sc, ok, ot, e, h => by
    cases e <;> first | exact noF h rfl | skip
    case While c' body' orelse pos =>
      cases orelse with
      | cons _ _ => exact noF h rfl
      | nil =>
        obtain ⟨hc, h⟩ := and2 h
        obtain ⟨h1, h2⟩ := and2 h
        refine PS.mono (ps_while (ok.own hc) ((sA c).t X W sc sc ok c' h1) (sSs body Γ X W sc ok ot body' h2)) fun D σ H ⟨B, ρ, M, Xd, Z, s, er, hw, f⟩ => whl_read s er hw f
  | .brk, Γ, X, W, sc, ok, ot, e, h => by
    cases e <;> first | exact noF h rfl | skip
    case Break pos => exact PS.mono ps_break fun D σ H ⟨B, ρ, M, Xd, Z, s, er, hw, f⟩ => f.bk _ _ _ _ (Ext.refl _ _) s.good er hw
  | .cont, Γ, X, W, sc, ok, ot, e, h => by
    cases e <;> first | exact noF h rfl | skip
    case Continue pos => exact PS.mono ps_continue fun D σ H ⟨B, ρ, M, Xd, Z, s, er, hw, f⟩ => f.ct _ _ _ _ (Ext.refl _ _) s.good er hw
  | .pass, Γ, X, W, sc, ok, ot, e, h => by
    cases e <;> first | exact noF h rfl | skip
    case Pass pos => exact PS.mono ps_pass fun D σ H ⟨B, ρ, M, Xd, Z, s, er, hw, f⟩ => f.nx _ _ _ _ (Ext.refl _ _) s.good er hw
  | .never, Γ, X, W, sc, ok, ot, e, h => PS.mono ps_never fun D σ H ⟨B, ρ, M, Xd, Z, s, er, hw, f⟩ => hw
  | .gfrz _, Γ, X, W, sc, ok, ot, e, h => noF h (by cases e <;> rfl)
  | .raise_ c e1, Γ, X, W, sc, ok, ot, e, h => by
    cases e <;> first | exact noF h rfl | skip
    case Raise o o2 pos =>
      cases o with
      | none => exact noF h rfl
      | some ce =>
        cases ce <;> first | exact noF h rfl | skip
        case Call fn as kws p2 =>
          cases fn <;> first | exact noF h rfl | skip
          case Name x p =>
            rcases as with _ | ⟨e', _ | ⟨_, _⟩⟩ <;> first | exact noF h rfl | skip
            cases kws with
            | cons _ _ => exact noF h rfl
            | nil =>
              cases o2 with
              | some _ => exact noF h rfl
              | none => exact raise_run ok ot ((sA e1).v) h
  | .raise0 c, Γ, X, W, sc, ok, ot, e, h => by
    cases e <;> first | exact noF h rfl | skip
    case Raise o o2 pos =>
      cases o with
      | none => exact noF h rfl
      | some ce =>
        cases ce <;> first | exact noF h rfl | skip
        case Call fn as kws p2 =>
          cases fn <;> first | exact noF h rfl | skip
          case Name x p =>
            cases as with
            | cons _ _ => exact noF h rfl
            | nil =>
              cases kws with
              | cons _ _ => exact noF h rfl
              | nil =>
                cases o2 with
                | some _ => exact noF h rfl
                | none =>
                  obtain ⟨hc, h⟩ := and2 h
                  obtain ⟨h1, h2⟩ := and2 h
                  have h2 := of_decide_eq_true h2
                  obtain ⟨db, C, k1, k2, k3⟩ := ok.exc.cls (_, (x, "")) (look_mem h2)
                  have k4 : ExcN X.K C := by
                    rcases k3 with ⟨fI, z⟩ | ⟨_, z⟩
                    · exact absurd z.nm (show ¬ (("" : Str) = "given" ∨ ("" : Str) = "index") by decide)
                    · exact z
                  refine PS.mono (ps_raise0 (ok.calm hc) k4 k1 (ot.tk hc) (ok.gl h1) db) fun D σ H ⟨B, ρ, M, Xd, Z, s, er, hw, f⟩ => ?_
                  exact (s.xl σ).go hc ⟨c, none⟩ (.ref C) none H M (Ext.refl _ _) s.good ⟨_, h2, k1, rfl⟩ hw
  | .tryAs i x cs body hd, Γ, X, W, sc, ok, ot, e, h => by
    cases e <;> first | exact noF h rfl | skip
    case Try body' hs els fin pos =>
      rcases hs with _ | ⟨⟨t, n, su, hp⟩, _ | ⟨_, _⟩⟩ <;> first | exact noF h rfl | skip
      · cases t with
        | none => exact noF h rfl
        | some t =>
          cases t <;> first | exact noF h rfl | skip
          case Name y p =>
            cases n with
            | none => exact noF h rfl
            | some n =>
              cases su with
              | nil => exact noF h rfl
              | cons b₀ su =>
                cases els with
                | cons _ _ => exact noF h rfl
                | nil =>
                  cases fin with
                  | cons _ _ => exact noF h rfl
                  | nil => exact try_run ok ot h (fun X' W' ok' ot' => sSs body Γ X' W' sc ok' ot' body') (fun X' W' ok' ot' => sSs hd { Γ with calm := false } X' W' sc ok' ot' (b₀ :: su))
      · exact noF h (by cases t <;> first | rfl | (rename_i t; cases t <;> cases n <;> cases su <;> rfl))
theorem sSs : ∀ (cs : List CS) (Γ : Cfg) (X : Cx) (W : WX) (sc : Scope), COk Γ Φ X W sc sc → TOk Γ X W → ∀ (es : List Stmt), mSs Γ sc cs es = true → PSs X es (tS Γ X W (wpSs Φ cs))
  | [], Γ, X, W, sc, ok, ot, es, h => by
    cases es with
    | cons _ _ => exact noF h rfl
    | nil => exact PSs.mono pss_nil fun D σ H ⟨B, ρ, M, Xd, Z, s, er, hw, f⟩ => f.nx _ _ _ _ (Ext.refl _ _) s.good er hw
  | c :: cs, Γ, X, W, sc, ok, ot, es, h => by
    by_cases hg : ∃ i, c = .gfrz i
    · obtain ⟨i, rfl⟩ := hg
      have h : mSs Γ sc cs es = true := by cases es <;> exact h
      refine PSs.mono (sSs cs Γ X W sc ok ot es h) fun D σ H ⟨B, ρ, M, Xd, Z, s, er, hw, f⟩ => ?_
      obtain ⟨d, hd, q⟩ := withV_some (show withV (getD' ρ i) _ from hw)
      obtain ⟨a, rfl⟩ : ∃ a, d = .cell a := by cases d <;> first | exact ⟨_, rfl⟩ | exact (show False from q).elim
      · have q : (match M a with
          | some (.lst xs) => wpSs Φ cs (setD' ρ i (.lst xs)) (M.del a) Xd Z
          | none => False) := q
        split at q
        · rename_i xs hc
          obtain ⟨v, hv, rv⟩ := er.2 i _ hd
          have rv : v = .ref a := rv
          obtain rfl := rv
          have e1 : Ext H M H (M.del a) := Ext.sub Sub.del_self
          have g1 := s.good.sub (M' := M.del a) Sub.del_self
          exact ⟨B, _, _, Xd, Z, s.step e1 g1, (er.ext s.good e1).reset hv (Rep.freeze s.good hc), q, f.step e1⟩
        · exact q.elim
    · by_cases hn : c = .never
      · subst hn
        exact PSs.mono pss_never fun D σ H ⟨B, ρ, M, Xd, Z, s, er, hw, f⟩ => hw
      · cases es with
        | nil => exact noF h (by cases c <;> first | rfl | exact absurd ⟨_, rfl⟩ hg | exact absurd rfl hn)
        | cons e es =>
          have h : (mS Γ sc c e && mSs Γ sc cs es) = true := by cases c <;> first | exact h | exact absurd ⟨_, rfl⟩ hg | exact absurd rfl hn
          obtain ⟨h1, h2⟩ := and2 h
          refine PSs.mono (pss_cons (sS c Γ X W sc ok ot e h1) (sSs cs Γ X W sc ok ot es h2)) fun D σ H ⟨B, ρ, M, Xd, Z, s, er, hw, f⟩ => ?_
          refine ⟨B, ρ, M, Xd, { Z with nx := fun ρ' M' => wpSs Φ cs ρ' M' Xd Z }, s, er, hw, fun σ' ρ' H' M' e' g' er' q => ?_, f.rt, f.bk, f.ct⟩
          exact ⟨B, ρ', M', Xd, Z, s.step e' g', er', q, f.step e'⟩
end
end
end RF
namespace RF
open PySem PySem.Spec PyProof.Rows L2
/-! ### a def keeps its promise -/
def subQ (Q : QD) : QD := fun d M1 => ∃ M2, Sub M2 M1 ∧ Q d M2
def subX (X : XQ) : XQ := fun x M1 => ∃ M2, Sub M2 M1 ∧ X x M2
def startD (n : Nat) (ds : List D) : DEnv := ds.map some ++ List.replicate (n - ds.length) none
/-- what a body does -/
@[reducible] def wpF (Φ : Nat → Spec) (n : Nat) (cs : List CS) : Spec := fun ds M X Q => wpSs Φ cs (startD n ds) M (subX X) { nx := fun _ M1 => subQ Q .non M1, rt := subQ Q }
structure Def0 (exs : List (Nat × (Str × Str))) (kws : List KW) (fns : List FI) (P : Program) (w : World) (K : PySem.W.Frag) (mg : Str → Option Value) (base : Heap) (fi : FI) (S : Spec) : Prop where
  ok : ∃ fd, mg fi.name = some (.ref (He.ga K fi.name)) ∧ PySem.W.keepIn K (.ref (He.ga K fi.name)) = true ∧ FnG P w K mg base (L2.CX P w) fi.lvl (He.ga K fi.name) fd fi.ps (spOf K mg exs fi.ps.length S) ∧ Binds K fd fi.ps [] ∧ ∀ kw ∈ kws, fns[kw.f]? = some fi → KB K fd fi.ps kw
section
variable {Γ : Cfg} {Φ : Nat → Spec} {P : Program} {w : World} {K : PySem.W.Frag} {mg : Str → Option Value} {base : Heap}
theorem reps_len {H : Hp} {M : Mem} {B : Bad} {ds : List D} {vs : List V} (r : Reps K H M B ds vs) : ds.length = vs.length := r.length
theorem env_start {N : List Str} {H : Hp} {M : Mem} {B : Bad} {ds : List D} {vs : List V} (r : Reps K H M B ds vs) : EnvR K H M B (startD N.length ds) (L2.start N vs) := by
  have l := r.length
  refine ⟨by unfold startD L2.start; simp [l], fun i d h => ?_⟩
  rw [getD'_eq] at h
  unfold startD at h
  unfold L2.start
  by_cases hi : i < ds.length
  · rw [List.getElem?_append_left (by simpa using hi), List.getElem?_map] at h
    cases e : ds[i]? with
    | none => rw [e] at h; cases h
    | some d' =>
      rw [e] at h
      have : d' = d := by simpa using h
      subst this
      obtain ⟨v, hv, rv⟩ := r.get e
      refine ⟨v, ?_, rv⟩
      rw [List.getElem?_append_left (by simpa [← l] using hi), List.getElem?_map, hv]
      rfl
  · rw [List.getElem?_append_right (by simpa using hi), List.getElem?_replicate] at h
    split at h <;> cases h
theorem XRel.sub {mg : Str → Option Value} {exs : List (Nat × (Str × Str))} {H : Hp} {M M2 : Mem} {B : Bad} {xd : XD} {C : Value} {dd : Option Addr} (g : Good K H M B) (s : Sub M2 M) (h : XRel K mg exs H M B xd C dd) : XRel K mg exs H M2 B xd C dd := by
  obtain ⟨p, h1, h2, h3⟩ := h
  refine ⟨p, h1, h2, ?_⟩
  cases e : xd.val with
  | none => rw [e] at h3; exact h3
  | some dv =>
    rw [e] at h3
    obtain ⟨a, v, h4, h5, h6, h7⟩ := h3
    have e2 : Ext H M H M2 := Ext.sub s
    exact ⟨a, v, h4, h5, (e2 a _ h5 h6).2, h7.ext g e2⟩
theorem def_ok {cs : List CS} {x qual : Str} {params : Arguments} {body : List Stmt} {scope : Scope} {f : Addr} {fd : FuncData} {ps : List Str} {S : Spec} (F : FunD K x qual params body scope [] [] f fd) (sc : FnScope Γ.N ps scope)
    (hm : mSs Γ scope cs body = true) (hc : Γ.calm = true) (fns : ∀ i fi, Γ.fns[i]? = some fi → fi.lvl ≤ Γ.lvl → Def0 Γ.exs Γ.kws Γ.fns P w K mg base fi (Φ i)) (blt : ∀ x ∈ Γ.blt, mg x = none) (gls : ∀ g ∈ Γ.gls, ∃ u, mg g.name = some u ∧ RelV g.val u) (gts : ∀ p ∈ Γ.gts, ∃ a, mg p.1 = some (.ref a) ∧ SqT K (fun _ => none) a p.2) (mth : ∀ x ∈ Γ.mth, mg x = some (.builtin (mthI x))) (exc : ExAll K mg Γ.exs Γ.eis)
    (hS : ∀ ds M X Q, ds.length = ps.length → S ds M X Q → wpF Φ Γ.N.length cs ds M X Q) : FnG P w K mg base (L2.CX P w) (Γ.lvl + 1) f fd ps (spOf K mg Γ.exs ps.length S) := by
  refine FunD.okG F sc (fun vs H Q E h => ?_) (fun cdv A outer s H vs Q E hr hgd h => ?_)
  · obtain ⟨ds, M, B, Xd, Qd, l, r, _⟩ := h
    rw [← r.length, l]
  · have tk : Takes (cxOf (L2.CX P w) P w K mg base Γ.N qual scope f cdv A outer s H E) (fun cls d _ H => E cls d H) := takes_of rfl rfl rfl rfl
    have ok : COk Γ Φ (cxOf (L2.CX P w) P w K mg base Γ.N qual scope f cdv A outer s H E) (fun cls d _ H => E cls d H) scope scope := by
      refine ⟨rfl, rfl, sc.nd, fun _ => rfl, fun _ => hr, ?_, hgd, fun i fi h1 h2 => (fns i fi h1 h2).ok, blt, gls, fun σ => passAt tk σ, fun _ => passes_of rfl, gts, mth, exc, fun x hx => ⟨?_, .inl rfl⟩⟩
      · have := hr.un
        show (A.deeper _).units + 65 < cLine
        omega
      · rcases locB_cases hx with h | h
        · exact .inl h
        · exact .inr h
    refine ⟨_, sSs cs _ _ _ _ ok ⟨fun _ => rfl, fun _ => rfl, fun _ => tk⟩ body hm, ?_⟩
    obtain ⟨ds, M, B, Xd, Qd, l, r, g, hs, hq, he⟩ := h
    refine ⟨B, startD Γ.N.length ds, M, subX Xd, _, ⟨g, fun σ => ⟨fun _ xd C dd H' M' e' g' xr q => ?_, fun z => noCalm hc z⟩⟩, env_start r, hS ds M Xd Qd l hs, ?_, ?_, fun _ _ _ _ _ _ _ z => z.elim, fun _ _ _ _ _ _ _ z => z.elim⟩
    · obtain ⟨M2, s2, q⟩ := q
      exact he xd C dd H' M2 (e'.trans (Ext.sub s2)) (g'.sub s2) (xr.sub g' s2) q
    · intro σ' ρ' H' M' e' g' _ q
      obtain ⟨M2, s2, q⟩ := q
      exact hq .non .non H' M2 (e'.trans (Ext.sub s2)) (g'.sub s2) rfl q
    · intro d v H' M' e' g' rv q
      obtain ⟨M2, s2, q⟩ := q
      exact hq d v H' M2 (e'.trans (Ext.sub s2)) (g'.sub s2) (rv.ext g' (Ext.sub s2)) q
theorem chain {fns : List FI} {Pr : Nat → FI → Prop} (step : ∀ i fi, fns[i]? = some fi → (∀ j fj, fns[j]? = some fj → fj.lvl < fi.lvl → Pr j fj) → Pr i fi) : ∀ i fi, fns[i]? = some fi → Pr i fi := by
  have go : ∀ n i fi, fi.lvl ≤ n → fns[i]? = some fi → Pr i fi := by
    intro n
    induction n with
    | zero => exact fun i fi hl h => step i fi h fun j fj hj hlt => absurd hlt (by omega)
    | succ n ih => exact fun i fi hl h => step i fi h fun j fj hj hlt => ih j fj (by omega) hj
  exact fun i fi h => go fi.lvl i fi (Nat.le_refl _) h
theorem nodup_at {α : Type} {l : List α} (nd : l.Nodup) {i j : Nat} {a : α} (h : l[i]? = some a) (h' : l[j]? = some a) : i = j := by
  obtain ⟨hi, e1⟩ := List.getElem?_eq_some_iff.mp h
  obtain ⟨hj, e2⟩ := List.getElem?_eq_some_iff.mp h'
  have pw := List.pairwise_iff_getElem.mp nd
  rcases Nat.lt_trichotomy i j with hl | hl | hl
  · exact absurd (e1.trans e2.symm) (pw i j hi hj hl)
  · exact hl
  · exact absurd (e2.trans e1.symm) (pw j i hj hi hl)
theorem kws_at {fns : List FI} {kws : List KW} {i : Nat} {fi : FI} {fd : FuncData} (nd : fns.Nodup) (h : fns[i]? = some fi) (hk : ∀ kw ∈ kws.filter (fun kw => kw.f == i), KB K fd fi.ps kw) : ∀ kw ∈ kws, fns[kw.f]? = some fi → KB K fd fi.ps kw := fun kw hm hf =>
  hk kw (List.mem_filter.mpr ⟨hm, by rw [nodup_at nd hf h]; exact beq_self_eq_true _⟩)
theorem kb_of {x qual : Str} {params : Arguments} {body : List Stmt} {scope : Scope} {f : Addr} {fd : FuncData} {ps : List Str} {kw : KW} (F : FunD K x qual params body scope [] [] f fd)
    (h : ∀ (kV doc pm : Value) (an : Option Addr) (cdv ct : Value) (us ws zs : List Value), us.length = kw.n → ws.length = kw.ks.length → permV ws kw.perm = some zs → bindArgs (PySem.W.fnOf x qual params body scope .none kV doc pm an cdv ct) ⟨us, kw.ks.zip ws⟩ = pure (ps.zip (us ++ zs))) : KB K fd ps kw := by
  obtain ⟨oc, od, dV, kV, doc, pm, an, cdv, ct, osl, rfl, lk, hcd, hD, hK⟩ := F.ex
  rcases hD with ⟨_, rfl⟩ | ⟨e, _⟩
  · exact fun s us ws zs _ h1 h2 h3 _ => .of_eq (h kV doc pm an cdv ct us ws zs h1 h2 h3)
  · exact absurd rfl e
theorem def0_ok {cs : List CS} {x y qual : Str} {params : Arguments} {body : List Stmt} {scope : Scope} {fd : FuncData} {ps : List Str} {l : Nat} {S : Spec} (F : FunD K y qual params body scope [] [] (He.ga K x) fd) (hx : mg x = some (.ref (He.ga K x))) (sc : FnScope Γ.N ps scope) (hl : Γ.lvl + 1 = l)
    (hm : mSs Γ scope cs body = true) (hc : Γ.calm = true) (fns : ∀ i fi, Γ.fns[i]? = some fi → fi.lvl < l → Def0 Γ.exs Γ.kws Γ.fns P w K mg base fi (Φ i)) (blt : ∀ x ∈ Γ.blt, mg x = none) (gls : ∀ g ∈ Γ.gls, ∃ u, mg g.name = some u ∧ RelV g.val u) (gts : ∀ p ∈ Γ.gts, ∃ a, mg p.1 = some (.ref a) ∧ SqT K (fun _ => none) a p.2) (mth : ∀ x ∈ Γ.mth, mg x = some (.builtin (mthI x))) (exc : ExAll K mg Γ.exs Γ.eis)
    (hS : ∀ ds M X Q, ds.length = ps.length → S ds M X Q → wpF Φ Γ.N.length cs ds M X Q) (hb : Binds K fd ps []) (hk : ∀ kw ∈ Γ.kws, Γ.fns[kw.f]? = some ⟨x, ps, l⟩ → KB K fd ps kw) : Def0 Γ.exs Γ.kws Γ.fns P w K mg base ⟨x, ps, l⟩ S := by
  subst hl
  exact ⟨fd, hx, F.kp, def_ok F sc hm hc (fun i fi h1 h2 => fns i fi h1 (Nat.lt_succ_of_le h2)) blt gls gts mth exc hS, hb, hk⟩
theorem blt_ok {fa : List He.Fa} {fn : List He.DefD} {h : Heap} {bs : List Str} (X : K.In h) (G : h.Ns mainGlobals mg) (c : He.SaysD fa fn K) (hb : ∀ x ∈ bs, He.Fa.free x ∈ fa) : ∀ x ∈ bs, mg x = none := fun x hx => He.free_ok X G (c.facts (hb x hx))
theorem gls_ok {fa : List He.Fa} {fn : List He.DefD} {h : Heap} {is : List (Str × Int)} (X : K.In h) (G : h.Ns mainGlobals mg) (c : He.SaysD fa fn K) (hb : ∀ p ∈ is, He.Fa.int p.1 p.2 ∈ fa) : ∀ g ∈ is.map (fun p => (⟨p.1, .int p.2⟩ : GL)), ∃ u, mg g.name = some u ∧ RelV g.val u := fun g hg => by
  obtain ⟨p, hp, rfl⟩ := List.mem_map.mp hg
  obtain ⟨t, e⟩ := He.int_ok X G (c.facts (hb p hp))
  exact ⟨_, e, t, rfl⟩
/-! ### a head's facts with one more Bool -/
structure SaysY (fa : List He.Fa) (fn : List He.DefD) (ex : PySem.W.Frag → Bool) (K : PySem.W.Frag) : Prop where
  d : He.SaysD fa fn K
  more : ex K = true
def obsYG (n : Nat) (fa : List He.Fa) (fn : List He.DefD) (ex : PySem.W.Frag → Bool) (g : Addr → Option Obj) : He.AlD × Bool := (He.obsDG n fa fn g, ex (He.frG g (He.asD g n)))
def hookY (n : Nat) (fa : List He.Fa) (fn : List He.DefD) (ex : PySem.W.Frag → Bool) : PySem.W.Hook where
  α := He.AlD × Bool
  obs := fun s => obsYG n fa fn ex s.heap.get?
  val := fun _ => (He.valD fn, true)
  says := fun _ h => ∃ K : PySem.W.Frag, K.In h ∧ SaysY fa fn ex K
  of := fun _ _ e => ⟨_, He.frG_in, congrArg (fun z : He.AlD × Bool => z.1) e, congrArg (fun z : He.AlD × Bool => z.2) e⟩
  keeps := fun _ _ _ ⟨K, hK, c⟩ k => ⟨K, PySem.W.Frag.In.keeps hK k, c⟩
theorem obsYG_eq {n : Nat} {fa : List He.Fa} {fn : List He.DefD} {ex : PySem.W.Frag → Bool} {g : Addr → Option Obj} {s : Shared} (h : ∀ a, g a = s.heap.get? a) : obsYG n fa fn ex g = (hookY n fa fn ex).obs s := by
  have e : g = s.heap.get? := funext h
  rw [e] <;> rfl
/-- constants that are tuples of plain values -/
def gtB (K : PySem.W.Frag) (l : List (Str × List He.Dv)) : Bool := l.all fun p => He.eqO (PySem.W.nsIn K mainGlobals p.1) (some (some (.ref (He.ga K p.1)))) && He.tupB K p.1 p.2
def Dvf : He.Dv → V
  | .non => .non
  | .bl b => .bl b
  | .int i => .int i
  | .str x => .str x
  | .byt b => .byt b
  | .flt b => .flt b
  | .ty n => .ty n
  | .glo _ => .non
  | .adr _ => .non
def dvPlain : He.Dv → Bool
  | .glo _ => false
  | .adr _ => false
  | _ => true
theorem dvf_eq {K : PySem.W.Frag} {l : List He.Dv} (h : l.all dvPlain = true) : l.map (He.Dv.v K) = l.map Dvf := by
  refine List.map_congr_left fun d hd => ?_
  have := List.all_eq_true.mp h d hd
  cases d <;> first | rfl | cases this
def gtsOf (l : List (Str × List He.Dv)) : List (Str × List V) := l.map fun p => (p.1, p.2.map Dvf)
theorem gts_ok {h : Heap} {l : List (Str × List He.Dv)} (X : K.In h) (G : h.Ns mainGlobals mg) (c : gtB K l = true) (hp : (l.all fun p => p.2.all dvPlain) = true) : ∀ p ∈ gtsOf l, ∃ a, mg p.1 = some (.ref a) ∧ SqT K (fun _ => none) a p.2 := fun p hm => by
  obtain ⟨q, hq, rfl⟩ := List.mem_map.mp hm
  obtain ⟨c1, c2⟩ := He.ba (List.all_eq_true.mp c q hq)
  refine ⟨He.ga K q.1, PySem.W.mg_of X G (He.eqO_ok c1), ?_⟩
  rw [← dvf_eq (K := K) (List.all_eq_true.mp hp q hq)]
  exact He.tupB_ok c2 _
def mtB (K : PySem.W.Frag) (l : List Str) : Bool := l.all fun x => He.eqO (PySem.W.nsIn K mainGlobals x) (some (some (.builtin (mthI x))))
theorem mth_ok {h : Heap} {l : List Str} (X : K.In h) (G : h.Ns mainGlobals mg) (c : mtB K l = true) : ∀ x ∈ l, mg x = some (.builtin (mthI x)) := fun x hm =>
  PySem.W.mg_of X G (He.eqO_ok (List.all_eq_true.mp c x hm))
theorem gls2_ok {fa : List He.Fa} {fn : List He.DefD} {h : Heap} {is : List (Str × Int)} {ss : List (Str × Str)} (X : K.In h) (G : h.Ns mainGlobals mg) (c : He.SaysD fa fn K) (hb : ∀ p ∈ is, He.Fa.int p.1 p.2 ∈ fa) (hs : ∀ p ∈ ss, He.Fa.str p.1 p.2 ∈ fa) :
    ∀ g ∈ is.map (fun p => (⟨p.1, .int p.2⟩ : GL)) ++ ss.map (fun p => (⟨p.1, .str p.2⟩ : GL)), ∃ u, mg g.name = some u ∧ RelV g.val u := fun g hg => by
  rcases List.mem_append.mp hg with hg | hg
  · exact gls_ok X G c hb g hg
  · obtain ⟨p, hp, rfl⟩ := List.mem_map.mp hg
    obtain ⟨t, e⟩ := He.str_ok X G (c.facts (hs p hp))
    exact ⟨_, e, t, rfl⟩
/-! ### the law's def -/
def lawX (S : Prop → Prop) : Prop := S True
/-- a script's numbers, nothing else; it tells True -/
def lawS : Spec := fun ds M _ Q => ∃ ns : List Int, ns.length ≤ 63 ∧ ds = [.scr (ns.map D.int)] ∧ M = (fun _ => none) ∧ ∀ M', Q (.bl true) M'
theorem ints_rep {H : Hp} {M : Mem} {B : Bad} : ∀ ns : List Int, Reps K H M B (ns.map D.int) (ns.map V.int)
  | [] => rfl
  | n :: ns => ⟨.int n, ns.map V.int, rfl, rfl, ints_rep ns⟩
theorem scr_rep {H : Hp} {B : Bad} {a : Addr} {ns : List Int} (o : Only H) (l : ns.length ≤ 63) (h : SqL K H a (ns.map V.int)) : Rep K H (fun _ => none) B (.scr (ns.map D.int)) (.ref a) := by
  refine ⟨a, ns.map V.int, rfl, ?_, ?_, ints_rep ns⟩
  · rcases h with (h | ⟨ob, h⟩) | h
    · rcases o a with z | ⟨_, _, z⟩
      · rw [z] at h; cases h
      · rw [z] at h; cases h
    · exact .inl ⟨⟨ob, h⟩, rfl⟩
    · exact .inr (.inr h)
  · have := sizeLine_eq
    simp only [List.length_map]
    omega
theorem law_go {exs : List (Nat × (Str × Str))} {H : Hp} {a : Addr} {ns : List Int} (l : ns.length ≤ 63) (o : Only H) (h : SqL K H a (ns.map V.int)) : spOf K mg exs 1 lawS [.ref a] H (fun v _ => v = .bl true) (fun _ _ _ => False) := by
  refine ⟨[.scr (ns.map D.int)], fun _ => none, fun _ => False, fun _ _ => False, fun d _ => d = .bl true, rfl, ⟨_, [], rfl, scr_rep o l h, rfl⟩, ⟨fun a b => b.elim, fun a c e => nomatch e⟩, ⟨ns, l, rfl, rfl, fun _ => rfl⟩, fun d v H' M' _ _ r q => ?_, fun _ _ _ _ _ _ _ _ z => z⟩
  subst q
  exact r
end
/-- the law's call, of a promise that asks that no repr is under way -/
theorem law_callG {P : Program} {w : World} {K : PySem.W.Frag} {mg mb : Str → Option Value} {CX : CXT} {k : Nat} {fa a : Addr} {fd : FuncData} {x : Str} {sp : Sp} {s₁ : Shared} {vs : List Value} {ns : List Int} (KX : K.In s₁.heap) (hns : s₁.heap.Ns mainGlobals mg) (hb : s₁.heap.Ns builtinsNs mb)
    (hbb : ∀ x : Str, x ≠ Str.ofString "__name__" → mb x = bootBuiltins x) (hlim : s₁.heap.NoLimit) (hg : s₁.gens = #[]) (ha : s₁.heap.get? a = some { cls := .type "list", data := .seq vs.toArray }) (hi : IntsAre vs ns) (hl : ns.length ≤ sizeLine) (hr : Room k callerA)
    (F : ∀ base : Heap, K.In base → base.Ns mainGlobals mg → FnG P w K mg base CX k fa fd [x] sp) (hbind : ∀ (s : Shared) (u : Value), BindsTo s fd ⟨[u], []⟩ [(x, u)]) (hsp : ∀ H : Hp, Only H → SqL K H a (ns.map V.int) → sp [.ref a] H (fun v _ => v = .bl true) fun _ _ _ => False)
    (hCX : ∀ (H : Hp) (e : Value) (s' : Shared), CX [] H s₁ (fun _ _ _ => False) e s' → False) :
    codeAny (model P w) callerA (.call (.ref fa) ⟨[.ref a], []⟩) (fun r s' => r = .ok (.ret (.bool true)) ∧ OldK s₁.heap s'.heap ∧ s'.os = s₁.os ∧ AllBare s'.gens) s₁ := by
  have rv := vals_ints hi
  have lenV := hi.length
  have core : ∀ H : Hp, Only H → SqL K H a (ns.map V.int) → HOk P w H s₁.heap → (∀ b, H b ≠ none → b = a) → (H a ≠ none → List.lookup a K = none) →
      codeAny (model P w) callerA (.call (.ref fa) ⟨[.ref a], []⟩) (fun r s' => r = .ok (.ret (.bool true)) ∧ OldK s₁.heap s'.heap ∧ s'.os = s₁.os ∧ AllBare s'.gens) s₁ := by
    intro H hO hS hok hA hK
    have noA : ∀ {b : Addr} {o : Obj} {es : Array DictEntry} {ep : Nat}, s₁.heap.get? b = some o → o.data = .dict es ep → H b = none := by
      intro b o es ep e d
      cases q : H b with
      | none => rfl
      | some u =>
        have e' := hA b (by rw [q]; exact fun z => by cases z)
        subst e'
        rw [ha] at e; cases e; cases d
    have nsK : ∀ {b : Addr} {m : Str → Option Value}, s₁.heap.Ns b m → (hidT s₁.heap H).Ns b m := by
      rintro b m ⟨o, es, ep, e, d, r⟩
      exact ⟨o, es, ep, hidT_get e (noA e d), d, r⟩
    have hKb : K.In (hidT s₁.heap H) := fun b o e => by
      refine hidT_get (KX b o e) ?_
      cases q : H b with
      | none => rfl
      | some u =>
        have e' := hA b (by rw [q]; exact fun z => by cases z)
        subst e'
        rw [hK (by rw [q]; exact fun z => by cases z)] at e; cases e
    have hM : Mod K mg (hidT s₁.heap H) := ⟨hKb, nsK hns, ⟨mb, nsK hb, hbb⟩, by
      obtain ⟨mc, h1, h2⟩ := hlim
      exact ⟨mc, nsK h1, h2⟩⟩
    have e0 : Env0 P w K mg (hidT s₁.heap H) callerA [] s₁ H := ⟨rfl, hM, fun b o e => of_hidT e, Nat.le_of_eq (hidT_size s₁.heap H), trivial, fun b hb => (nomatch hb), hok, AllBare.of_eq hg⟩
    refine codeAny_mono ((F _ hKb (nsK hns)).run callerA [] s₁ H ⟨[.ref a], []⟩ [.ref a] [.ref a] (fun v _ => v = .bl true) (fun _ _ _ => False) hr rfl e0 (hbind s₁ (.ref a)) (.cons rfl .nil) (hsp H hO hS)) fun r s' h => ?_
    cases r with
    | error e => exact (hCX H e s' h).elim
    | ok fl =>
      cases fl with
      | next => exact h.elim
      | brk => exact h.elim
      | cont => exact h.elim
      | ret u =>
        obtain ⟨v, H', os, bare, un, hok', r', q⟩ := h
        have q : v = .bl true := q
        subst q
        obtain rfl : u = .bool true := r'
        refine ⟨rfl, OldK.of_keep fun b o e => ?_, os, bare⟩
        rcases hO b with q | ⟨ob, xs, q⟩
        · exact un.keep b o e q (fun z => nomatch z) fun z => nomatch z
        · have h1 := hok b _ q
          have h2 := hok' b _ (un.frzs b _ _ q)
          have e1 : s₁.heap.get? b = some ob := h1.1
          rw [e] at e1; cases e1
          exact h2.1
  cases hk : List.lookup a K with
  | some o =>
    have e := KX a o hk
    rw [ha] at e; cases e
    refine core (fun _ => none) (fun _ => .inl rfl) (.inr ⟨_, vs.toArray, 0, hk, rfl, rfl, rfl, ?_, rv⟩) (fun b u z => nomatch z) (fun b z => (z rfl).elim) fun z => (z rfl).elim
    rw [List.size_toArray, lenV]; exact hl
  | none =>
    refine core (fun b => if b = a then some (.frz { cls := .type "list", data := .seq vs.toArray } (.lst (ns.map V.int))) else none) (fun b => ?_) (.inl (.inr ⟨_, if_pos rfl⟩)) (fun b u z => ?_) (fun b z => ?_) fun _ => hk
    · by_cases hb : b = a
      · exact .inr ⟨_, _, if_pos hb⟩
      · exact .inl (if_neg hb)
    · by_cases hb : b = a
      · have z' := (if_pos hb).symm.trans z
        cases z'
        subst hb
        exact ⟨ha, by rw [List.length_map]; exact hl, vs, 0, rv, ha⟩
      · have z' := (if_neg hb).symm.trans z
        cases z'
    · by_cases hb : b = a
      · exact hb
      · exact absurd (if_neg hb) z
/-- the walk's end -/
theorem walk_rf {l : PySem.W.OpenLaw} {n k : Nat} {q : Program} {loose : List Str} {XP : (Str → Option Value) → Heap → Prop} {YP : World → Heap → Prop} {d : DefRec} {CX : World → CXT} {x : Str}
    (hn : l.most = some n) (hn2 : n ≤ sizeLine) (hdf : d.params.defaults = []) (hr : Room k callerA)
    (F : ∀ (w : World) (mg : Str → Option Value) (fa : Addr) (h : Heap), YP w h → h.Ns mainGlobals mg → mg d.name = some (.ref fa) →
      ∃ (K : PySem.W.Frag) (fd : FuncData) (sp : Sp), K.In h ∧ (∀ (s : Shared) (u : Value), BindsTo s fd ⟨[u], []⟩ [(x, u)]) ∧
        (∀ (H : Hp) (a : Addr) (ns : List Int), ns.length ≤ n → Only H → SqL K H a (ns.map V.int) → sp [.ref a] H (fun v _ => v = .bl true) fun _ _ _ => False) ∧
        ∀ base : Heap, K.In base → base.Ns mainGlobals mg → FnG l.prog w K mg base (CX w) k fa fd [x] sp)
    (hCX : ∀ (w : World) (H : Hp) (s : Shared) (e : Value) (s' : Shared), CX w [] H s (fun _ _ _ => False) e s' → False) :
    PySem.W.WalkO q loose XP YP l.row.toRowW d [] (fun f vs => PySem.call f vs) := by
  refine Att.attach_call hn hdf fun w s₀ s₁ mg mb fa o pm cd doc a vs ns G Y ho hd hcd hmg hobj hints hlen hg => ?_
  obtain ⟨K, fd, sp, KX, hb, hsp, hF⟩ := F w mg fa _ Y G.T.g hmg
  exact law_callG KX G.T.g G.T.b G.T.builtins G.T.nolimit hg hobj hints (Nat.le_trans hlen hn2) hr hF hb (fun H hO hS => hsp H a ns hlen hO hS) fun H e s' => hCX w H s₁ e s'
theorem cx_no {P : Program} (w : World) (H : Hp) (s : Shared) (e : Value) (s' : Shared) (h : L2.CX P w [] H s (fun _ _ _ => False) e s') : False := by
  obtain ⟨_, _, _, _, _, _, _, _, _, _, _, _, z⟩ := h
  exact z
/-! ### the classes of errors, looked at in the head -/
/-- an own class of errors: its name, its attribute, the positions in its __init__ -/
structure ED where
  x : Str
  y : Str
  qual : Str
  p1 : Pos
  p2 : Pos
  q1 : Pos
  q2 : Pos
  q3 : Pos
  q4 : Pos
def ED.d (e : ED) : He.DefD := ⟨(e.x, some "__init__"), "__init__", e.qual, iA e.y e.p1 e.p2, iB e.y e.q1 e.q2 e.q3 e.q4, iS e.y, [], []⟩
def ED.p (e : Nat × ED) : Nat × (Str × Str) := (e.1, (e.2.x, e.2.y))
def exObjB (K : PySem.W.Frag) (C : Addr) : Bool := match K.lookup C with
  | some ⟨.type "type", _, .cls cd, sl⟩ => (match cd.mro, sl.toList with
    | .ref C' :: bm, [_, _, _, _, some (.builtin n), _] => C' == C && (n == "ValueError.__new__" && (!cd.hasDel && (cd.hasDict && PySem.HandSPX.refsVE bm)))
    | _, _ => false)
  | _ => false
theorem exObj_of {K : PySem.W.Frag} {C : Addr} (q : exObjB K C = true) : ∃ nm q N bs bm sn sub ab col dd k0 k1 k2 k3 k5, K.lookup C = some (excClassObj nm q C N bs bm true sn sub ab col dd k0 k1 k2 k3 k5 "ValueError.__new__") ∧ PySem.HandSPX.refsVE bm = true := by
  unfold exObjB at q
  split at q
  · rename_i dd cd sl ho
    split at q
    · rename_i C' bm k0 k1 k2 k3 n k5 hm hs
      simp only [Bool.and_eq_true, beq_iff_eq, Bool.not_eq_true'] at q
      obtain ⟨rfl, rfl, hdel, hdict, ht⟩ := q
      obtain ⟨nm, bs, mro, ns, qn, hd, sn, sub, ab, col, del⟩ := cd
      dsimp only at hm hdel hdict
      subst hm hdel hdict
      have hsl : sl = #[k0, k1, k2, k3, some (.builtin "ValueError.__new__"), k5] := by
        obtain ⟨l⟩ := sl
        simp only at hs
        rw [hs]
      subst hsl
      exact ⟨nm, qn, ns, bs, bm, sn, sub, ab, col, dd, k0, k1, k2, k3, k5, ho, ht⟩
    · cases q
  · cases q
def edB (K : PySem.W.Frag) (p : Str × Str) : Bool :=
  !(p.1 == ("__debug__" : Str)) && (He.eqO (PySem.W.nsIn K mainGlobals p.1) (some (some (.ref (He.ga K p.1)))) && (exObjB K (He.ga K p.1) &&
  (He.eqO (PySem.W.findIn K (.ref (He.ga K p.1)) "__setattr__") (some (some (.builtin "object.__setattr__"))) &&
  (He.eqO (PySem.W.findIn K (.ref (He.ga K p.1)) "__getattribute__") (some (some (.builtin "BaseException.__getattribute__"))) &&
  (He.eqO (PySem.W.findIn K (.ref (He.ga K p.1)) "__getattr__") (some none) &&
  (He.eqO (PySem.W.findIn K (.ref (He.ga K p.1)) p.2) (some none) &&
  (He.eqO (PySem.W.findIn K (.ref (He.ga K p.1)) "__init__") (some (some (.ref (He.ma K (He.ga K p.1) "__init__")))) &&
  (decide (PySem.W.typeIn K (.ref (He.ma K (He.ga K p.1) "__init__")) = some (.type "function")) &&
  (PySem.W.keepIn K (.ref (He.ga K p.1)) &&
  (decide (PySem.W.subIn K (.ref (He.ga K p.1)) (.type "BaseException") = some true) &&
  (decide (PySem.W.typeIn K (.ref (He.ga K p.1)) = some (.type "type")) &&
  (PySem.W.hasDictIn K (He.ga K p.1) &&
  (decide (p.2 = "given" ∨ p.2 = "index") &&
  (He.eqO (PySem.W.findIn K (.ref (He.ga K p.1)) "__class__") (some (some (.builtin "object.__class__"))) &&
  (He.eqO (PySem.W.specialIn K (.builtin "object.__class__") "__get__") (some (some (.builtin "getset_descriptor.__get__"))) &&
  (decide (PySem.W.takesIn K (.builtin "object.__class__") = some true) &&
  decide (PySem.W.mroIn K (He.ga K p.1) (.type "object") = some true)))))))))))))))))
def ednB (K : PySem.W.Frag) (x : Str) : Bool :=
  !(x == ("__debug__" : Str)) && (He.eqO (PySem.W.nsIn K mainGlobals x) (some (some (.ref (He.ga K x)))) && (PySem.W.excIn K (He.ga K x) PySem.HandSPX.veTail "ValueError.__new__" &&
  (He.eqO (PySem.W.findIn K (.ref (He.ga K x)) "__getattribute__") (some (some (.builtin "BaseException.__getattribute__"))) &&
  (He.eqO (PySem.W.findIn K (.ref (He.ga K x)) "__getattr__") (some none) &&
  (PySem.W.keepIn K (.ref (He.ga K x)) &&
  (decide (PySem.W.subIn K (.ref (He.ga K x)) (.type "BaseException") = some true) &&
  (decide (PySem.W.typeIn K (.ref (He.ga K x)) = some (.type "type")) &&
  (PySem.W.hasDictIn K (He.ga K x) &&
  (He.eqO (PySem.W.findIn K (.ref (He.ga K x)) "__class__") (some (some (.builtin "object.__class__"))) &&
  (He.eqO (PySem.W.specialIn K (.builtin "object.__class__") "__get__") (some (some (.builtin "getset_descriptor.__get__"))) &&
  (decide (PySem.W.takesIn K (.builtin "object.__class__") = some true) &&
  decide (PySem.W.mroIn K (He.ga K x) (.type "object") = some true))))))))))))
def ED.p0 (e : Nat × Str) : Nat × (Str × Str) := (e.1, (e.2, ""))
def clsV (K : PySem.W.Frag) (x : Str) : Option (V × Value) :=
  if He.eqO (PySem.W.nsIn K mainGlobals x) (some (some (.ref (He.ga K x)))) = true then some (.ref (He.ga K x), .ref (He.ga K x))
  else if (He.eqO (PySem.W.nsIn K mainGlobals x) (some none) && decide (x = "ValueError")) = true then some (.ty "ValueError", .type "ValueError") else none
def subB (K : PySem.W.Frag) (cv : Value) (cs : List Nat) (exs : List (Nat × (Str × Str))) : Bool := exs.all fun q => decide (PySem.W.kitOne K (.ref (He.ga K q.2.1)) cv = some (cs.contains q.1)) && decide (PySem.W.exmOne K (.ref (He.ga K q.2.1)) cv = some (cs.contains q.1))
def eiB (K : PySem.W.Frag) (exs : List (Nat × (Str × Str))) (e : Str × List Nat) : Bool := !(e.1 == ("__debug__" : Str)) && (match clsV K e.1 with
  | some c => subB K c.2 e.2 exs
  | none => false)
def exB (K : PySem.W.Frag) (exs : List (Nat × (Str × Str))) (eis : List (Str × List Nat)) : Bool := exs.all (fun q => if q.2.2 = "" then ednB K q.2.1 else edB K q.2) && eis.all (eiB K exs)
theorem exAll_ok {fa : List He.Fa} {fn : List He.DefD} {K : PySem.W.Frag} {mg : Str → Option Value} {h : Heap} {l : List (Nat × ED)} {l0 : List (Nat × Str)} {eis : List (Str × List Nat)} (X : K.In h) (G : h.Ns mainGlobals mg) (c : He.SaysD fa fn K) (hb : exB K (l.map ED.p ++ l0.map ED.p0) eis = true) (hl : ∀ e ∈ l, e.2.d ∈ fn) : ExAll K mg (l.map ED.p ++ l0.map ED.p0) eis := by
  obtain ⟨h1, h2⟩ := He.ba hb
  have hm : ∀ p ∈ l.map ED.p ++ l0.map ED.p0, mg p.2.1 = some (.ref (He.ga K p.2.1)) := fun p hp => by
    have := List.all_eq_true.mp h1 p hp
    skip
    split at this
    · exact PySem.W.mg_of X G (He.eqO_ok (He.ba (He.ba this).2).1)
    · exact PySem.W.mg_of X G (He.eqO_ok (He.ba (He.ba this).2).1)
  refine ⟨fun p hp => ?_, fun e he => ?_⟩
  · have q := List.all_eq_true.mp h1 p hp
    skip
    split at q
    · rename_i hy
      obtain ⟨a1, q⟩ := He.ba q
      obtain ⟨a2, q⟩ := He.ba q
      obtain ⟨a3, q⟩ := He.ba q
      obtain ⟨a4, q⟩ := He.ba q
      obtain ⟨a5, q⟩ := He.ba q
      obtain ⟨a6, q⟩ := He.ba q
      obtain ⟨a7, q⟩ := He.ba q
      obtain ⟨a8, q⟩ := He.ba q
      obtain ⟨a9, q⟩ := He.ba q
      obtain ⟨a10, q⟩ := He.ba q
      obtain ⟨a11, q⟩ := He.ba q
      obtain ⟨a12, a13⟩ := He.ba q
      exact ⟨by simpa using a1, He.ga K p.2.1, hm p hp, ⟨He.eqO_ok a4, He.eqO_ok a5, of_decide_eq_true a7, a9, He.eqO_ok a10, He.eqO_ok a11, of_decide_eq_true a12, of_decide_eq_true a13⟩, .inr ⟨hy, ⟨a3, a6, of_decide_eq_true a7, of_decide_eq_true a8⟩⟩⟩
    rename_i hy
    obtain ⟨a1, q⟩ := He.ba q
    obtain ⟨a2, q⟩ := He.ba q
    obtain ⟨a3, q⟩ := He.ba q
    obtain ⟨a4, q⟩ := He.ba q
    obtain ⟨a5, q⟩ := He.ba q
    obtain ⟨a6, q⟩ := He.ba q
    obtain ⟨a7, q⟩ := He.ba q
    obtain ⟨a8, q⟩ := He.ba q
    obtain ⟨a9, q⟩ := He.ba q
    obtain ⟨a10, q⟩ := He.ba q
    obtain ⟨a11, q⟩ := He.ba q
    obtain ⟨a12, q⟩ := He.ba q
    obtain ⟨a13, q⟩ := He.ba q
    obtain ⟨a14, q⟩ := He.ba q
    obtain ⟨a15, q⟩ := He.ba q
    obtain ⟨a16, q⟩ := He.ba q
    obtain ⟨a17, a18⟩ := He.ba q
    refine ⟨by simpa using a1, He.ga K p.2.1, hm p hp, ⟨He.eqO_ok a5, He.eqO_ok a6, of_decide_eq_true a11, a13, He.eqO_ok a15, He.eqO_ok a16, of_decide_eq_true a17, of_decide_eq_true a18⟩, .inl ⟨He.ma K (He.ga K p.2.1) "__init__",
      ⟨exObj_of a3, He.eqO_ok a4, He.eqO_ok a5, He.eqO_ok a6, He.eqO_ok a7, He.eqO_ok a8, of_decide_eq_true a9, a10, of_decide_eq_true a11, of_decide_eq_true a12, a13, of_decide_eq_true a14, ?_⟩⟩⟩
    rcases List.mem_append.mp hp with hp | hp
    · obtain ⟨e, he, rfl⟩ := List.mem_map.mp hp
      obtain ⟨k, hk⟩ := List.getElem?_of_mem (hl e he)
      obtain ⟨fd, F⟩ := c.def_ k hk
      obtain ⟨oc, od, dV, kV, doc, pm, an, cdv, ct, osl, rfl, lk, hcd, hD, hK⟩ := F.ex
      have hD : dV = .none := by
        rcases hD with ⟨_, z⟩ | ⟨z, _⟩
        · exact z
        · exact absurd rfl z
      subst hD
      exact ⟨oc, od, e.2.qual, kV, doc, pm, an, cdv, ct, osl, e.2.p1, e.2.p2, e.2.q1, e.2.q2, e.2.q3, e.2.q4, lk, hcd⟩
    · obtain ⟨e, he, rfl⟩ := List.mem_map.mp hp
      exact absurd rfl hy
  · have q := List.all_eq_true.mp h2 e he
    obtain ⟨a1, a2⟩ := He.ba q
    cases hc : clsV K e.1 with
    | none => rw [hc] at a2; cases a2
    | some c =>
      rw [hc] at a2
      have a2 : subB K c.2 e.2 (l.map ED.p ++ l0.map ED.p0) = true := a2
      have hs : ∀ i p C, (l.map ED.p ++ l0.map ED.p0).lookup i = some p → mg p.1 = some C → PySem.W.kitOne K C c.2 = some (e.2.contains i) ∧ PySem.W.exmOne K C c.2 = some (e.2.contains i) := fun i p C hp hC => by
        have hp := look_mem hp
        have e1 := hm _ hp
        rw [e1] at hC
        cases hC
        obtain ⟨z1, z2⟩ := He.ba (List.all_eq_true.mp a2 _ hp)
        exact ⟨of_decide_eq_true z1, of_decide_eq_true z2⟩
      refine ⟨by simpa using a1, ?_⟩
      unfold clsV at hc
      split at hc
      · rename_i z
        cases hc
        exact ⟨.ref (He.ga K e.1), .ref (He.ga K e.1), rfl, fun u r => r, .inl (PySem.W.mg_of X G (He.eqO_ok z)), hs⟩
      · split at hc
        · rename_i z
          cases hc
          obtain ⟨z1, z2⟩ := He.ba z
          have z2 := of_decide_eq_true z2
          exact ⟨.ty "ValueError", .type "ValueError", rfl, fun u r => r, .inr ⟨PySem.W.mg_none_of X G (He.eqO_ok z1), by rw [z2]; decide +kernel, by rw [z2]; decide⟩, hs⟩
        · cases hc
end RF
namespace RF
open PySem PySem.Spec PyProof.Rows L2
/-! ### tools for the plain part -/
section
variable {Φ : Nat → Spec} {ρ : DEnv} {M M1 : Mem} {X : XQ} {Q : QD} {p q : Prop} {c : Bool}
theorem ite_t (h : c = true) (hp : p) : if c = true then p else q := by rw [if_pos h]; exact hp
theorem ite_f (h : c = false) (hq : q) : if c = true then p else q := by rw [if_neg (by rw [h]; exact Bool.false_ne_true)]; exact hq
theorem ite_b (ht : c = true → p) (hf : c = false → q) : if c = true then p else q := by
  cases c with
  | true => exact ite_t rfl (ht rfl)
  | false => exact ite_f rfl (hf rfl)
theorem ite_p {a : Prop} [Decidable a] (ht : a → p) (hf : ¬ a → q) : if decide a = true then p else q := ite_b (fun h => ht (of_decide_eq_true h)) fun h => hf (of_decide_eq_false h)
theorem ite_pt {a : Prop} [Decidable a] (h : a) (hp : p) : if decide a = true then p else q := ite_t (decide_eq_true h) hp
theorem ite_pf {a : Prop} [Decidable a] (h : ¬ a) (hq : q) : if decide a = true then p else q := ite_f (decide_eq_false h) hq
theorem cellL_of {a : Addr} {xs : List D} {k : List D → Prop} (h : M a = some (.lst xs)) (hk : k xs) : cellL M a k := by unfold cellL; rw [h]; exact hk
theorem ixL_of {xs : List D} {i : Int} {d : D} {k : D → Prop} (h : atI xs i = some d) (hk : k d) : ixL xs i k := by unfold ixL; rw [h]; exact hk
theorem ixP_of {n : Nat} {i : Int} {j : Nat} {k : Nat → Prop} (h : ixN n i = some j) (hk : k j) : ixP n i k := by unfold ixP; rw [h]; exact hk
theorem subQ_here {d : D} (h : Q d M) : subQ Q d M := ⟨M, Sub.refl M, h⟩
theorem subQ_set {d : D} {a : Addr} {e : Cell} (n : M a = none) (h : Q d M) : subQ Q d (M.set a e) := ⟨M, (Sub.refl M).set n, h⟩
theorem atI_map {α β : Type} (f : α → β) (xs : List α) (i : Int) : atI (xs.map f) i = (atI xs i).map f := by
  unfold atI
  rw [List.length_map]
  cases ixN xs.length i with
  | none => rfl
  | some j => simp
theorem atI_get' {α : Type} {xs : List α} {i : Nat} (h : i < xs.length) : atI xs (i : Int) = some xs[i] := atI_nat (by simp [h])
theorem ixN_nat {n i : Nat} (h : i < n) : ixN n (i : Int) = some i := by
  unfold ixN
  rw [if_pos (by omega), if_pos (by omega)]
  simp
theorem asInts_map : ∀ ts : List Int, asInts (ts.map D.int) = some ts
  | [] => rfl
  | t :: ts => by show (asInts (ts.map D.int)).map _ = _; rw [asInts_map ts]; rfl
/-- a function that tells -/
def FnS (f : List D → Option D) : Spec := fun ds M _ Q => ∃ r, f ds = some r ∧ Q r M
theorem FnS_use {f : List D → Option D} {ds : List D} {r : D} (h : f ds = some r) (hq : Q r M) : FnS f ds M X Q := ⟨r, h, hq⟩
/-- comprehensions: what each turn tells by itself -/
theorem lcGo_pure {g : D → (DEnv → Prop) → Prop} {t : DEnv → Mem → (Bool → Mem → Prop) → Prop} {e : DEnv → Mem → QD → Prop} {QL' : QL} (f : D → Option D) : ∀ {xs acc : List D}, (∀ x ∈ xs, ∀ (K : QD) (K' : Mem → Prop), (match f x with | some y => K y M | none => K' M) → g x fun ρ => t ρ M fun b M1 => if b = true then e ρ M1 K else K' M1) →
    QL' (acc ++ xs.filterMap f) M → lcGo g t e xs acc M QL'
  | [], acc, _, hq => by
    show QL' acc M
    simpa using hq
  | x :: xs, acc, hs, hq => by
    refine hs x (by simp) (fun y M2 => lcGo g t e xs (acc ++ [y]) M2 QL') (fun M1 => lcGo g t e xs acc M1 QL') ?_
    have hs' := fun z (hz : z ∈ xs) => hs z (by simp [hz])
    cases hf : f x with
    | some y => exact lcGo_pure f hs' (by simpa [List.filterMap_cons, hf] using hq)
    | none => exact lcGo_pure f hs' (by simpa [List.filterMap_cons, hf] using hq)
/-- the same by what stays true -/
theorem lcGo_inv {g : D → (DEnv → Prop) → Prop} {t : DEnv → Mem → (Bool → Mem → Prop) → Prop} {e : DEnv → Mem → QD → Prop} {QL' : QL} (I : List D → List D → Mem → Prop)
    (step : ∀ x xs acc M, I (x :: xs) acc M → ∀ (K : QD) (K' : Mem → Prop), (∀ y M2, I xs (acc ++ [y]) M2 → K y M2) → (∀ M2, I xs acc M2 → K' M2) → g x fun ρ => t ρ M fun b M1 => if b = true then e ρ M1 K else K' M1)
    (fin : ∀ acc M, I [] acc M → QL' acc M) : ∀ {xs acc : List D} {M : Mem}, I xs acc M → lcGo g t e xs acc M QL'
  | [], acc, M, h => fin acc M h
  | x :: xs, acc, M, h => step x xs acc M h (fun y M2 => lcGo g t e xs (acc ++ [y]) M2 QL') (fun M1 => lcGo g t e xs acc M1 QL') (fun _ _ h => lcGo_inv I step fin h) fun _ h => lcGo_inv I step fin h
theorem forGo_nil {g : D → DEnv → (DEnv → Prop) → Prop} {b : DEnv → Mem → (DEnv → Mem → Prop) → Prop} {Qn : DEnv → Mem → Prop} {ρ : DEnv} {M : Mem} (h : Qn ρ M) : forGo g b [] ρ M Qn := h
theorem forGo_inv {g : D → DEnv → (DEnv → Prop) → Prop} {b : DEnv → Mem → (DEnv → Mem → Prop) → Prop} {Qn : DEnv → Mem → Prop} (I : List D → DEnv → Mem → Prop)
    (step : ∀ x xs ρ M, I (x :: xs) ρ M → ∀ (K : DEnv → Mem → Prop), (∀ ρ' M', I xs ρ' M' → K ρ' M') → g x ρ fun ρ1 => b ρ1 M K)
    (fin : ∀ ρ M, I [] ρ M → Qn ρ M) : ∀ {xs : List D} {ρ : DEnv} {M : Mem}, I xs ρ M → forGo g b xs ρ M Qn
  | [], ρ, M, h => fin ρ M h
  | x :: xs, ρ, M, h => step x xs ρ M h (fun ρ' M' => forGo g b xs ρ' M' Qn) fun _ _ h => forGo_inv I step fin h
theorem whlGo_inv {c : DEnv → Mem → (Bool → Mem → Prop) → Prop} {b : DEnv → Mem → (DEnv → Mem → Prop) → Prop} {Qn : DEnv → Mem → Prop} (I : Nat → DEnv → Mem → Prop)
    (step : ∀ n ρ M, I n ρ M → ∀ (K : DEnv → Mem → Prop), (∀ m ρ' M', m < n → I m ρ' M' → K ρ' M') → c ρ M fun k M1 => if k = true then b ρ M1 K else Qn ρ M1) : ∀ n {ρ : DEnv} {M : Mem}, I n ρ M → ∃ n, whlGo c b n ρ M Qn := by
  have mono : ∀ n m ρ M, n ≤ m → I n ρ M → whlGo c b (m + 1) ρ M Qn := by
    intro n
    induction n using Nat.strongRecOn with
    | ind n ih =>
      intro m ρ M hm h
      refine step n ρ M h (fun ρ' M' => whlGo c b m ρ' M' Qn) fun k ρ' M' hk h' => ?_
      obtain ⟨m', rfl⟩ : ∃ m', m = m' + 1 := ⟨m - 1, by omega⟩
      exact ih k hk m' ρ' M' (by omega) h'
  exact fun n ρ M h => ⟨n + 1, mono n n ρ M (Nat.le_refl n) h⟩
end
end RF
namespace RF
open PySem PySem.Spec PyProof.Rows L2
/-! ### tables, lots -/
def okV : D → Bool
  | .cell _ => false
  | .fn _ => false
  | .rng _ _ => false
  | _ => true
def whB : D → Bool
  | .int _ => true
  | _ => false
def btB (d : D) (lo hi : Int) : Bool := match d with
  | .int i => decide (lo ≤ i) && decide (i ≤ hi)
  | _ => false
/-- as many people as a length tells -/
def polF (k : Int) : List D := ([1, 2, 3, 4, 5, 6] : List Int).filterMap fun n => if 2 ^ n.toNat = k then some (.int n) else none
/-- a table of n people -/
structure Tab (n : Nat) (ts : List Int) : Prop where
  one : 1 ≤ n
  six : n ≤ 6
  len : ts.length = 2 ^ n
  no : ts[0]? = some 0
  wor : ∀ t ∈ ts, -9999 ≤ t ∧ t ≤ 9999
abbrev tabD (ts : List Int) : D := .tup (ts.map D.int)
theorem polF_pow {n : Nat} (h1 : 1 ≤ n) (h6 : n ≤ 6) : polF ((2 ^ n : Nat) : Int) = [.int n] := by
  rcases n with _ | _ | _ | _ | _ | _ | _ | n <;> first | omega | rfl
theorem Tab.le {n : Nat} {ts : List Int} (h : Tab n ts) : ts.length ≤ 64 := by
  rw [h.len]
  exact Nat.le_trans (Nat.pow_le_pow_right (by decide) h.six) (by decide)
theorem Tab.ge {n : Nat} {ts : List Int} (h : Tab n ts) : 2 ≤ ts.length := by
  rw [h.len]
  exact Nat.le_trans (by decide) (Nat.pow_le_pow_right (by decide) h.one)
/-- the bits of a lot -/
def bitB (l p : Nat) : Bool := (l >>> p) % 2 == 1
def memL (l : Nat) : List Nat := (List.range 6).filter (bitB l)
def natsD (l : List Nat) : List D := l.map fun (n : Nat) => D.int n
theorem flat_ints (ts : List Int) : flatDs (ts.map D.int) = some (ts.map V.int) := by
  induction ts with
  | nil => rfl
  | cons t ts ih => show (some (V.int t)).bind _ = _; simp [ih]
theorem rng_nat {a : Nat} {b : Nat} : rngD (a : Int) (b : Int) = ((List.range (b - a)).map fun (i : Nat) => D.int ((a + i : Nat) : Int)) := by
  unfold rngD
  rw [show ((b : Int) - (a : Int)).toNat = b - a by omega]
  refine List.map_congr_left fun i _ => ?_
  simp
theorem rng0 {b : Nat} : rngD 0 (b : Int) = natsD (List.range b) := by
  have := rng_nat (a := 0) (b := b)
  simp only [Nat.sub_zero, Nat.zero_add] at this
  exact this
theorem rngOk0 {b : Nat} (h : b ≤ 1000) : rngOk 0 (b : Int) := by
  unfold rngOk
  have := sizeLine_eq
  omega
theorem mul_r {i j : Int} (h1 : -(2 ^ 64) < j) (h2 : j < 2 ^ 64) : mulOk i j := .inl (.inr ⟨h1, h2⟩)
theorem mul_l {i j : Int} (h1 : -(2 ^ 64) < i) (h2 : i < 2 ^ 64) : mulOk i j := .inl (.inl ⟨h1, h2⟩)
theorem rngOk_s {a b : Int} (h1 : -1000 ≤ a) (h2 : a ≤ 10000) (h3 : -1000 ≤ b) (h4 : b ≤ 10000) : rngOk a b := by
  unfold rngOk
  have := sizeLine_eq
  omega
theorem pow_s {i j : Int} (h1 : 0 ≤ j) (h2 : j ≤ 10000) (h3 : -1000 ≤ i) (h4 : i ≤ 1000) : CPow i j := by
  unfold CPow
  omega
/-! ### equality of plain things -/
mutual
def nice : Nat → D → Bool
  | _, .non => true
  | _, .bl _ => true
  | _, .int _ => true
  | _, .str x => PyData.strOk x
  | n + 1, .tup xs => nices n xs
  | n + 1, .lst xs => nices n xs
  | _, _ => false
def nices : Nat → List D → Bool
  | _, [] => true
  | n, d :: ds => nice n d && nices n ds
end
mutual
def eqB : D → D → Bool
  | .non, .non => true
  | .bl a, .bl b => a == b
  | .bl a, .int j => (if a then 1 else 0) == j
  | .int i, .bl b => i == (if b then 1 else 0)
  | .int i, .int j => i == j
  | .str x, .str y => x == y
  | .tup xs, .tup ys => eqBs xs ys
  | .lst xs, .lst ys => eqBs xs ys
  | _, _ => false
def eqBs : List D → List D → Bool
  | [], [] => true
  | x :: xs, y :: ys => eqB x y && eqBs xs ys
  | _, _ => false
end
mutual
theorem nice_py : ∀ (n : Nat) (d : D), nice n d = true → ∃ p, py d = some p ∧ p.canLay0 = true ∧ p.depth ≤ n
  | n, .non, h => ⟨_, rfl, by simp [PyData.canLay0], by simp [PyData.depth]⟩
  | n, .bl _, h => ⟨_, rfl, by simp [PyData.canLay0], by simp [PyData.depth]⟩
  | n, .int _, h => ⟨_, rfl, by simp [PyData.canLay0], by simp [PyData.depth]⟩
  | n, .str x, h => ⟨_, rfl, by simpa [PyData.canLay0, nice] using h, by simp [PyData.depth]⟩
  | n + 1, .tup xs, h => by
    obtain ⟨ps, e, c, l⟩ := nices_py n xs (by simpa [nice] using h)
    exact ⟨.tuple ps, by show (pys xs).map _ = _; rw [e]; rfl, by simpa [PyData.canLay0] using c, by simpa [PyData.depth] using l⟩
  | n + 1, .lst xs, h => by
    obtain ⟨ps, e, c, l⟩ := nices_py n xs (by simpa [nice] using h)
    exact ⟨.list ps, by show (pys xs).map _ = _; rw [e]; rfl, by simpa [PyData.canLay0] using c, by simpa [PyData.depth] using l⟩
  | 0, .tup _, h => by simp [nice] at h
  | 0, .lst _, h => by simp [nice] at h
  | n, .dct _ _, h => by cases n <;> simp [nice] at h
  | n, .scr _, h => by cases n <;> simp [nice] at h
  | n, .cell _, h => by cases n <;> simp [nice] at h
  | n, .fn _, h => by cases n <;> simp [nice] at h
  | n, .rng _ _, h => by cases n <;> simp [nice] at h
theorem nices_py : ∀ (n : Nat) (ds : List D), nices n ds = true → ∃ ps, pys ds = some ps ∧ PyData.canLayAll0 ps = true ∧ PyData.depthAll ps ≤ n
  | n, [], h => ⟨[], rfl, by simp [PyData.canLayAll0], by simp [PyData.depthAll]⟩
  | n, d :: ds, h => by
    obtain ⟨h1, h2⟩ := and2 (by simpa [nices] using h : (nice n d && nices n ds) = true)
    obtain ⟨p, e1, c1, l1⟩ := nice_py n d h1
    obtain ⟨ps, e2, c2, l2⟩ := nices_py n ds h2
    refine ⟨p :: ps, ?_, by simp [PyData.canLayAll0, c1, c2], by simp [PyData.depthAll]; omega⟩
    show ((py d).bind fun p => (pys ds).map fun ps => p :: ps) = _
    rw [e1, e2]; rfl
end
mutual
theorem eqB_py : ∀ {x y : D} {p q : PyData}, py x = some p → py y = some q → PyData.eqv p q = eqB x y := by
  intro x y p q hx hy
  cases x <;> first | (cases hx; done) | skip
  case tup xs =>
    obtain ⟨ps, e, rfl⟩ := Option.map_eq_some_iff.mp (show (pys xs).map PyData.tuple = some p from hx)
    cases y <;> first | (cases hy; done) | skip
    case tup ys =>
      obtain ⟨qs, e2, rfl⟩ := Option.map_eq_some_iff.mp (show (pys ys).map PyData.tuple = some q from hy)
      simp only [PyData.eqv, eqB]
      exact eqBs_py e e2
    case lst ys =>
      obtain ⟨qs, e2, rfl⟩ := Option.map_eq_some_iff.mp (show (pys ys).map PyData.list = some q from hy)
      simp [PyData.eqv, eqB]
    all_goals (cases hy; simp [PyData.eqv, eqB])
  case lst xs =>
    obtain ⟨ps, e, rfl⟩ := Option.map_eq_some_iff.mp (show (pys xs).map PyData.list = some p from hx)
    cases y <;> first | (cases hy; done) | skip
    case tup ys =>
      obtain ⟨qs, e2, rfl⟩ := Option.map_eq_some_iff.mp (show (pys ys).map PyData.tuple = some q from hy)
      simp [PyData.eqv, eqB]
    case lst ys =>
      obtain ⟨qs, e2, rfl⟩ := Option.map_eq_some_iff.mp (show (pys ys).map PyData.list = some q from hy)
      simp only [PyData.eqv, eqB]
      exact eqBs_py e e2
    all_goals (cases hy; simp [PyData.eqv, eqB])
  all_goals
    cases hx
    cases y <;> first | (cases hy; done) | skip
    case tup ys =>
      obtain ⟨qs, e2, rfl⟩ := Option.map_eq_some_iff.mp (show (pys ys).map PyData.tuple = some q from hy)
      simp [PyData.eqv, eqB]
    case lst ys =>
      obtain ⟨qs, e2, rfl⟩ := Option.map_eq_some_iff.mp (show (pys ys).map PyData.list = some q from hy)
      simp [PyData.eqv, eqB]
    all_goals (cases hy; simp [PyData.eqv, eqB])
theorem eqBs_py : ∀ {xs ys : List D} {ps qs : List PyData}, pys xs = some ps → pys ys = some qs → PyData.eqvAll ps qs = eqBs xs ys := by
  intro xs ys ps qs hx hy
  cases xs with
  | nil =>
    cases hx
    cases ys with
    | nil => cases hy; simp [PyData.eqvAll, eqBs]
    | cons y ys =>
      obtain ⟨p, e1, h⟩ := Option.bind_eq_some_iff.mp (show ((py y).bind fun p => (pys ys).map fun ps => p :: ps) = some qs from hy)
      obtain ⟨r, e2, rfl⟩ := Option.map_eq_some_iff.mp h
      simp [PyData.eqvAll, eqBs]
  | cons x xs =>
    obtain ⟨p, e1, h⟩ := Option.bind_eq_some_iff.mp (show ((py x).bind fun p => (pys xs).map fun ps => p :: ps) = some ps from hx)
    obtain ⟨r, e2, rfl⟩ := Option.map_eq_some_iff.mp h
    cases ys with
    | nil => cases hy; simp [PyData.eqvAll, eqBs]
    | cons y ys =>
      obtain ⟨p2, e3, h2⟩ := Option.bind_eq_some_iff.mp (show ((py y).bind fun p => (pys ys).map fun ps => p :: ps) = some qs from hy)
      obtain ⟨r2, e4, rfl⟩ := Option.map_eq_some_iff.mp h2
      simp only [PyData.eqvAll, eqBs]
      rw [eqB_py e1 e3, eqBs_py e2 e4]
end
theorem eqOk_nice {x y : D} (hx : nice 64 x = true) (hy : nice 64 y = true) : eqOk x y (eqB x y) := by
  obtain ⟨p, e1, c1, l1⟩ := nice_py 64 x hx
  obtain ⟨q, e2, c2, l2⟩ := nice_py 64 y hy
  exact .inl ⟨p, q, e1, e2, by unfold SeqAt.shaped; rw [c1]; simpa using l1, by unfold SeqAt.shaped; rw [c2]; simpa using l2, eqB_py e1 e2⟩
theorem eqD_nice {x y : D} {k : Bool → Prop} (hx : nice 64 x = true) (hy : nice 64 y = true) (hk : k (eqB x y)) : eqD x y k := by
  obtain ⟨p, e1, c1, l1⟩ := nice_py 64 x hx
  obtain ⟨q, e2, c2, l2⟩ := nice_py 64 y hy
  have h : ∃ b, eqOk x y b ∧ k b := ⟨eqB x y, .inl ⟨p, q, e1, e2, by unfold SeqAt.shaped; rw [c1]; simpa using l1, by unfold SeqAt.shaped; rw [c2]; simpa using l2, eqB_py e1 e2⟩, hk⟩
  cases x <;> cases y <;> first | exact h | skip
  case non.non => exact hk
  case bl.bl a b => exact (show k (decide (a = b)) from by simp only [eqB, Bool.beq_eq_decide_eq] at hk; exact hk)
  case int.int a b => exact (show k (decide (a = b)) from by simp only [eqB, Bool.beq_eq_decide_eq] at hk; exact hk)
  case str.str a b => exact (show k (decide (a = b)) from by simp only [eqB, Bool.beq_eq_decide_eq] at hk; exact hk)
theorem nices_map {α : Type} {f : α → D} {n : Nat} : ∀ {l : List α}, (∀ a ∈ l, nice n (f a) = true) → nices n (l.map f) = true
  | [], _ => by simp [nices]
  | a :: l, h => by simp [nices, h a (by simp), nices_map (l := l) fun b hb => h b (by simp [hb])]
theorem nices_of {n : Nat} : ∀ {l : List D}, (∀ a ∈ l, nice n a = true) → nices n l = true
  | [], _ => by simp [nices]
  | a :: l, h => by simp [nices, h a (by simp), nices_of (l := l) fun b hb => h b (by simp [hb])]
theorem nice_int {n : Nat} {i : Int} : nice n (.int i) = true := by cases n <;> simp [nice]
theorem nice_ints {n : Nat} (l : List Int) : nices n (l.map D.int) = true := nices_map fun _ _ => nice_int
theorem nice_nats {n : Nat} (l : List Nat) : nices n (natsD l) = true := nices_map fun _ _ => nice_int
theorem eqBs_ints : ∀ {a b : List Int}, eqBs (a.map D.int) (b.map D.int) = decide (a = b)
  | [], [] => by simp [eqBs]
  | [], _ :: _ => by simp [eqBs]
  | _ :: _, [] => by simp [eqBs]
  | x :: a, y :: b => by
    simp only [List.map_cons, eqBs, eqB]
    rw [eqBs_ints (a := a) (b := b), Bool.eq_iff_iff]
    simp
theorem eqBs_nats {a b : List Nat} : eqBs (natsD a) (natsD b) = decide (a = b) := by
  have h : ∀ l : List Nat, natsD l = (l.map (fun n : Nat => (n : Int))).map D.int := fun l => by unfold natsD; rw [List.map_map]; rfl
  rw [h, h, eqBs_ints]
  have : (a.map (fun n : Nat => (n : Int)) = b.map (fun n : Nat => (n : Int))) ↔ a = b := by
    constructor
    · intro h
      have := congrArg (List.map Int.toNat) h
      simpa [List.map_map, Function.comp_def] using this
    · rintro rfl; rfl
  simp only [this]
theorem eqB_nil {xs : List D} : eqB (.lst xs) (.lst []) = xs.isEmpty := by
  simp only [eqB]
  cases xs <;> simp [eqBs]
end RF
namespace RF
open PySem PySem.Spec PyProof.Rows L2
theorem Mem.set_set {M : Mem} {a : Addr} {c d : Cell} : (M.set a c).set a d = M.set a d := by
  funext b
  by_cases h : b = a
  · subst h; rw [Mem.set_same, Mem.set_same]
  · rw [Mem.set_ne h, Mem.set_ne h, Mem.set_ne h]
theorem Mem.set_comm {M : Mem} {a b : Addr} {c d : Cell} (h : a ≠ b) : (M.set a c).set b d = (M.set b d).set a c := by
  funext x
  by_cases h1 : x = a
  · subst h1; rw [Mem.set_ne h, Mem.set_same, Mem.set_same]
  · by_cases h2 : x = b
    · subst h2; rw [Mem.set_same, Mem.set_ne h1, Mem.set_same]
    · rw [Mem.set_ne h2, Mem.set_ne h1, Mem.set_ne h1, Mem.set_ne h2]
/-! bits -/
theorem rsh_nat (l p : Nat) : (l : Int) / 2 ^ ((p : Int)).toNat = ((l / 2 ^ p : Nat) : Int) := by
  rw [Int.toNat_natCast]
  push_cast
  rfl
theorem lsh_nat (l p : Nat) : (l : Int) * 2 ^ ((p : Int)).toNat = ((l * 2 ^ p : Nat) : Int) := by
  rw [Int.toNat_natCast]
  push_cast
  rfl
theorem bit_int (l p : Nat) : decide (Builtin.bitAnd ((l : Int) / 2 ^ ((p : Int)).toNat) 1 = 1) = bitB l p := by
  rw [rsh_nat, PyProof.Rows.bitAnd_m1, Bool.eq_iff_iff]
  unfold bitB
  rw [Nat.shiftRight_eq_div_pow]
  simp only [decide_eq_true_eq, beq_iff_eq]
  omega
def subL (a b : Nat) : Bool := decide (a &&& b = a)
theorem sub_int (a b : Nat) : decide (Builtin.bitAnd (a : Int) (b : Int) = (a : Int)) = subL a b := by
  rw [PySem.W.os_band]
  unfold subL
  rw [Bool.eq_iff_iff]
  simp only [decide_eq_true_eq]
  omega
/-- the lots within a lot -/
def lotsL (l : Nat) : List Nat := (List.range (l + 1)).filter fun e => subL e l
theorem natsD_filterMap (l : List Nat) (b : Nat → Bool) (f : D → Option D) (h : ∀ n ∈ l, f (.int (n : Nat)) = if b n = true then some (.int (n : Nat)) else none) : (natsD l).filterMap f = natsD (l.filter b) := by
  induction l with
  | nil => rfl
  | cons x l ih =>
    have ih := ih fun n hn => h n (by simp [hn])
    show (D.int x :: natsD l).filterMap f = _
    rw [List.filterMap_cons, h x (by simp), List.filter_cons, ih]
    cases b x <;> simp [natsD]
theorem mem_natsD {l : List Nat} {x : D} (h : x ∈ natsD l) : ∃ n, n ∈ l ∧ x = .int (n : Nat) := by
  obtain ⟨n, hn, rfl⟩ := List.mem_map.mp h
  exact ⟨n, hn, rfl⟩
theorem rng6 : rngD 0 6 = natsD (List.range 6) := rng0 (b := 6)
/-- a comprehension over numbers that keeps some of them -/
def keepF (b : Nat → Bool) (d : D) : Option D := match d with
  | .int i => if b i.toNat = true then some (.int i) else none
  | _ => none
theorem keepF_nat (b : Nat → Bool) (n : Nat) : keepF b (.int (n : Nat)) = if b n = true then some (.int (n : Nat)) else none := by
  unfold keepF; simp
theorem keepF_all (b : Nat → Bool) (l : List Nat) : (natsD l).filterMap (keepF b) = natsD (l.filter b) := natsD_filterMap l b _ fun n _ => keepF_nat b n
theorem atI_nats {l : List Nat} {i : Nat} (h : i < l.length) : atI (natsD l) (i : Int) = some (.int (l[i] : Nat)) := by
  unfold natsD
  rw [atI_map, atI_get' h]; rfl
theorem atI_ints {l : List Int} {i : Nat} (h : i < l.length) : atI (l.map D.int) (i : Int) = some (.int l[i]) := by
  rw [atI_map, atI_get' h]; rfl
theorem natsD_len (l : List Nat) : (natsD l).length = l.length := by unfold natsD; simp
/-- a number from 0 up to .. is told by btB -/
theorem btB_nat {l : Nat} {a b : Int} (h1 : a ≤ l) (h2 : (l : Int) ≤ b) : btB (.int (l : Nat)) a b = true := by
  unfold btB; simp [h1, h2]
theorem cutD_map {α β : Type} (f : α → β) (xs : List α) (lo hi : Option Int) : cutD (xs.map f) lo hi = (cutD xs lo hi).map f := by
  unfold cutD
  rw [List.length_map, List.map_take, List.map_drop]
theorem emod_b {a b : Int} (h : 0 < b) : 0 ≤ a % b ∧ a % b < b := ⟨Int.emod_nonneg _ (by omega), Int.emod_lt_of_pos _ h⟩
theorem div_s {i j : Int} (h : 0 < j) (h2 : j < 1073741824) : divOk i j := .inl ⟨h, h2⟩
theorem div_40 {i j : Int} (h : 0 < j) (h2 : j < 10000000000000000000000000000000000000000) : divOk i j := .inr ⟨h, by
  have := (Nat.log2_lt (by omega : j.natAbs ≠ 0)).mpr (show j.natAbs < 2 ^ 200 by
    have : (2 : Nat) ^ 200 = 1606938044258990275541962092341162602522202993782792835301376 := by decide
    omega)
  omega⟩
/-- plain things of tuples up to j deep -/
def smB : Nat → D → Bool
  | 0, .tup _ => false
  | j + 1, .tup xs => decide (xs.length ≤ 5000) && xs.all (smB j)
  | _, d => nice 60 d
theorem memL_ok : ∀ p, p ≤ 6 → ∀ l, l < 2 ^ p → memL l = (List.range p).filter (bitB l) := by
  have h : ∀ p ∈ List.range 7, ∀ l ∈ List.range (2 ^ p), memL l = (List.range p).filter (bitB l) := by decide +kernel
  exact fun p hp l hl => h p (List.mem_range.mpr (by omega)) l (List.mem_range.mpr hl)
def withinB (a b : Nat) : Bool := ((memL a).filter fun p => decide (p ∉ memL b)).isEmpty
theorem eqB_refl : ∀ (n : Nat) (d : D), nice n d = true → eqB d d = true := by
  have key : ∀ n, (∀ d, nice n d = true → eqB d d = true) ∧ ∀ ds, nices n ds = true → eqBs ds ds = true := by
    intro n
    have one : ∀ n, (∀ d, nice n d = true → eqB d d = true) → ∀ ds, nices n ds = true → eqBs ds ds = true := by
      intro n h ds
      induction ds with
      | nil => intro _; simp [eqBs]
      | cons d ds ih =>
        intro hn
        obtain ⟨h1, h2⟩ := and2 (by simpa [nices] using hn : (nice n d && nices n ds) = true)
        simp [eqBs, h d h1, ih h2]
    induction n with
    | zero =>
      have : ∀ d, nice 0 d = true → eqB d d = true := fun d hd => by cases d <;> first | (simp [nice] at hd; done) | simp [eqB]
      exact ⟨this, one 0 this⟩
    | succ n ih =>
      have : ∀ d, nice (n + 1) d = true → eqB d d = true := fun d hd => by
        cases d <;> first | (simp [nice] at hd; done) | skip
        case tup xs => simp only [eqB]; exact ih.2 xs (by simpa [nice] using hd)
        case lst xs => simp only [eqB]; exact ih.2 xs (by simpa [nice] using hd)
        all_goals simp [eqB]
      exact ⟨this, one _ this⟩
  exact fun n => (key n).1
theorem nice_mono : ∀ (d : D) {n m : Nat}, n ≤ m → nice n d = true → nice m d = true := by
  have key : ∀ n, (∀ d m, n ≤ m → nice n d = true → nice m d = true) ∧ ∀ ds m, n ≤ m → nices n ds = true → nices m ds = true := by
    intro n
    have one : ∀ n, (∀ d m, n ≤ m → nice n d = true → nice m d = true) → ∀ ds m, n ≤ m → nices n ds = true → nices m ds = true := by
      intro n h ds
      induction ds with
      | nil => intro m _ _; simp [nices]
      | cons d ds ih =>
        intro m hm hn
        obtain ⟨h1, h2⟩ := and2 (by simpa [nices] using hn : (nice n d && nices n ds) = true)
        simp [nices, h d m hm h1, ih m hm h2]
    induction n with
    | zero =>
      have : ∀ d m, 0 ≤ m → nice 0 d = true → nice m d = true := fun d m _ hd => by cases d <;> first | (simp [nice] at hd; done) | (cases m <;> simpa [nice] using hd)
      exact ⟨this, one 0 this⟩
    | succ n ih =>
      have : ∀ d m, n + 1 ≤ m → nice (n + 1) d = true → nice m d = true := fun d m hm hd => by
        obtain ⟨m, rfl⟩ : ∃ k, m = k + 1 := ⟨m - 1, by omega⟩
        cases d <;> first | (simp [nice] at hd; done) | skip
        case tup xs => simp only [nice] at hd ⊢; exact ih.2 xs m (by omega) hd
        case lst xs => simp only [nice] at hd ⊢; exact ih.2 xs m (by omega) hd
        all_goals simpa [nice] using hd
      exact ⟨this, one _ this⟩
  exact fun d n m h => (key n).1 d m h
theorem inV_nats {p : Nat} {l : List Nat} : inV (.int (p : Nat)) (l.map fun (n : Nat) => V.int n) = decide (p ∈ l) := by
  unfold inV
  rw [Bool.eq_iff_iff]
  simp only [List.any_map, List.any_eq_true, decide_eq_true_eq]
  constructor
  · rintro ⟨n, hn, h⟩
    have : ((n : Nat) : Int) = p := by simpa [eqV] using h
    have : n = p := by omega
    exact this ▸ hn
  · intro h
    exact ⟨p, h, by simp [eqV]⟩
theorem flat_nats (l : List Nat) : flatDs (natsD l) = some (l.map fun (n : Nat) => V.int n) := by
  induction l with
  | nil => rfl
  | cons n l ih =>
    show (some (V.int n)).bind (fun v => (flatDs (natsD l)).map fun vs => v :: vs) = _
    rw [ih]; rfl
theorem inSeq_nats {n : Nat} {l : List Nat} {k : Bool → Prop} (h : k (decide (n ∈ l))) : inSeq (.int (n : Nat)) (natsD l) k := by
  unfold inSeq
  rw [flat_nats]
  show k (inV (.int (n : Nat)) (l.map fun (n : Nat) => V.int n))
  rw [inV_nats]; exact h
theorem filterMap_no {l : List D} : l.filterMap (fun _ => (none : Option D)) = [] := List.filterMap_eq_nil_iff.mpr fun _ _ => rfl
theorem rngN {a b : Nat} : rngD (a : Int) (b : Int) = natsD (List.range' a (b - a)) := by
  rw [rng_nat]
  unfold natsD
  rw [List.range'_eq_map_range, List.map_map]
  rfl
theorem smB_nats {j : Nat} {l : List Nat} (h : l.length ≤ 5000) : smB (j + 1) (.tup (natsD l)) = true := by
  show (decide ((natsD l).length ≤ 5000) && (natsD l).all (smB j)) = true
  rw [Bool.and_eq_true, natsD_len]
  refine ⟨decide_eq_true h, List.all_eq_true.mpr fun x hx => ?_⟩
  obtain ⟨n, _, rfl⟩ := mem_natsD hx
  cases j <;> rfl
theorem smB_int {j : Nat} {i : Int} : smB j (.int i) = true := by cases j <;> rfl
theorem mem_set2 {M : Mem} {a p : Addr} {c c2 l : Cell} (h : a ≠ p) : ((M.set a c).set p l).set a c2 = (M.set a c2).set p l := by
  rw [Mem.set_comm h, Mem.set_set, Mem.set_comm (Ne.symm h)]
theorem memL_lt {n l p : Nat} (hn : n ≤ 6) (hl : l < 2 ^ n) (hp : p ∈ memL l) : p < n := by
  rw [memL_ok n hn l hl] at hp
  exact List.mem_range.mp (List.mem_filter.mp hp).1
theorem memL_len {n l : Nat} (hn : n ≤ 6) (hl : l < 2 ^ n) : (memL l).length ≤ n := by
  rw [memL_ok n hn l hl]
  have := List.length_filter_le (bitB l) (List.range n)
  simpa using this
theorem memL_up (l : Nat) : (memL l).Pairwise (· < ·) := List.Pairwise.filter _ List.pairwise_lt_range
theorem pow64 {n : Nat} (h : n ≤ 6) : 2 ^ n ≤ 64 := Nat.le_trans (Nat.pow_le_pow_right (by decide) h) (by decide)
theorem fin64 {P : Nat → Prop} [DecidablePred P] (h : ∀ l ∈ List.range 64, P l) {l : Nat} (hl : l < 64) : P l := h l (List.mem_range.mpr hl)
theorem memL_sum {l : Nat} (h : l < 64) : ((memL l).map (2 ^ ·)).sum = l := fin64 (P := fun l => ((memL l).map (2 ^ ·)).sum = l) (by decide +kernel) h
theorem lotsL_in {n l : Nat} (hn : n ≤ 6) (hl : l < 2 ^ n) : (List.range (2 ^ n)).filter (fun e => withinB e l) = lotsL l := by
  have h : ∀ n ∈ List.range 7, ∀ l ∈ List.range (2 ^ n), (List.range (2 ^ n)).filter (fun e => withinB e l) = lotsL l := by decide +kernel
  exact h n (List.mem_range.mpr (by omega)) l (List.mem_range.mpr hl)
theorem lotsL_len {l : Nat} (h : l < 64) : (lotsL l).length = 2 ^ (memL l).length := fin64 (P := fun l => (lotsL l).length = 2 ^ (memL l).length) (by decide +kernel) h
theorem lotsL_0 {l : Nat} (h : l < 64) : atI (lotsL l) 0 = some 0 := fin64 (P := fun l => atI (lotsL l) 0 = some 0) (by decide +kernel) h
theorem lotsL_1 {l : Nat} (h : l < 64) : atI (lotsL l) (-1) = some l := fin64 (P := fun l => atI (lotsL l) (-1) = some l) (by decide +kernel) h
theorem lotsL_sub {l e : Nat} (h : l < 64) (he : e ∈ lotsL l) : withinB e l = true ∧ ((lotsL e).filter fun x => decide (x ∉ lotsL l)) = [] := fin64 (P := fun l => ∀ e ∈ lotsL l, withinB e l = true ∧ ((lotsL e).filter fun x => decide (x ∉ lotsL l)) = []) (by decide +kernel) h e he
theorem lotsL_le {l e : Nat} (he : e ∈ lotsL l) : e ≤ l := by
  have := List.mem_range.mp (List.mem_filter.mp he).1
  omega
theorem atI_natsD {l : List Nat} {i : Int} {n : Nat} (h : atI l i = some n) : atI (natsD l) i = some (.int (n : Nat)) := by
  unfold natsD
  rw [atI_map, h]; rfl
/-- the sum of some of a list's numbers -/
def gsum (gs : List Int) (l : Nat) : Int := ((memL l).map fun p => gs.getD p 0).sum
theorem sum_le {b : Int} : ∀ {l : List Int}, (∀ x ∈ l, 0 ≤ x ∧ x ≤ b) → 0 ≤ l.sum ∧ l.sum ≤ l.length * b
  | [], _ => by simp
  | x :: l, h => by
    have h1 := h x (by simp)
    have h2 := sum_le (l := l) fun y hy => h y (by simp [hy])
    have e : ((l.length + 1 : Nat) : Int) * b = l.length * b + b := by push_cast; rw [Int.add_mul, Int.one_mul]
    rw [List.sum_cons, List.length_cons, e]
    omega
theorem gsum_b {gs : List Int} {n l : Nat} {most : Int} (hn : n ≤ 6) (h1 : 1 ≤ n) (hl : l < 2 ^ n) (hg : ∀ g ∈ gs, 0 ≤ g ∧ g ≤ most / n) (h0 : 0 ≤ most) (hlen : gs.length = n) : 0 ≤ gsum gs l ∧ gsum gs l ≤ most := by
  have hd : 0 ≤ most / (n : Int) := Int.ediv_nonneg h0 (by omega)
  have s := sum_le (b := most / n) (l := (memL l).map fun p => gs.getD p 0) fun x hx => by
    obtain ⟨p, hp, rfl⟩ := List.mem_map.mp hx
    have hp := memL_lt hn hl hp
    rw [List.getD_eq_getElem?_getD, List.getElem?_eq_getElem (by omega)]
    exact hg _ (List.getElem_mem _)
  rw [List.length_map] at s
  refine ⟨s.1, Int.le_trans s.2 ?_⟩
  have hm := memL_len hn hl
  have e1 : ((memL l).length : Int) * (most / n) ≤ (n : Int) * (most / n) := Int.mul_le_mul_of_nonneg_right (by omega) hd
  have e2 : (n : Int) * (most / n) ≤ most := by rw [Int.mul_comm]; exact Int.ediv_mul_le most (by omega)
  omega
/-! ### the pool of the first laws -/
def PoolC (c : Cell) : Prop := ∃ p0 p1 p2 : Int, c = .lst [.int p0, .int p1, .int p2] ∧ 0 ≤ p0 ∧ p0 < 2147483648 ∧ 0 ≤ p1
@[reducible] def S_draw : Spec := fun ds M _ Q => ∃ a c, ∃ m : Int, ds = [.cell a, .int m] ∧ 0 < m ∧ m < 10000000000000000000000000000000000000000 ∧ M a = some c ∧ PoolC c ∧ ∀ (r : Int) c', 0 ≤ r → r < m → PoolC c' → Q (.int r) (M.set a c')
@[reducible] def S_pool : Spec := fun ds M _ Q => ∃ (ns : List Int) (lap : Nat), ns.length ≤ 63 ∧ lap ≤ 100 ∧ ds = [.scr (ns.map D.int), .int lap] ∧ ∀ p c, M p = none → PoolC c → Q (.cell p) (M.set p c)
@[reducible] def S_pick : Spec := fun ds M _ Q => ∃ a c, ∃ xs : List D, (ds = [.cell a, .lst xs] ∨ ds = [.cell a, .tup xs]) ∧ xs ≠ [] ∧ xs.length < 1073741824 ∧ M a = some c ∧ PoolC c ∧ ∀ x c', x ∈ xs → PoolC c' → Q x (M.set a c')
/-- a law's whole right: a pool, True -/
@[reducible] def S_right : Spec := fun ds M _ Q => ∃ a c, ds = [.cell a] ∧ M a = some c ∧ PoolC c ∧ ∀ c', PoolC c' → Q (.bl true) (M.set a c')
end RF
namespace RF
open PySem PySem.Spec PyProof.Rows L2
section
variable {g : D → (DEnv → Prop) → Prop} {t : DEnv → Mem → (Bool → Mem → Prop) → Prop} {e : DEnv → Mem → QD → Prop} {QL' : QL} {M : Mem}
/-- numbers told from numbers -/
theorem lcGo_nat (f : Nat → D) {l : List Nat} (hs : ∀ n ∈ l, ∀ (K : QD) (K' : Mem → Prop), K (f n) M → g (.int (n : Nat)) fun ρ => t ρ M fun b M1 => if b = true then e ρ M1 K else K' M1) (hq : QL' (l.map f) M) : lcGo g t e (natsD l) [] M QL' := by
  refine lcGo_pure (M := M) (fun d => match d with | .int i => some (f i.toNat) | _ => none) (fun x hx K K' hK => ?_) ?_
  · obtain ⟨n, hn, rfl⟩ := mem_natsD hx
    refine hs n hn K K' ?_
    simpa using hK
  · have e : (natsD l).filterMap (fun d => match d with | .int i => some (f i.toNat) | _ => none) = l.map f := by
      clear hs hq
      induction l with
      | nil => rfl
      | cons p l ih =>
        show (D.int (p : Nat) :: natsD l).filterMap _ = _
        rw [List.filterMap_cons, ih]
        simp
    rw [List.nil_append, e]; exact hq
/-- the same of any list of numbers -/
theorem lcGo_int (f : Int → D) {l : List Int} (hs : ∀ n ∈ l, ∀ (K : QD) (K' : Mem → Prop), K (f n) M → g (.int n) fun ρ => t ρ M fun b M1 => if b = true then e ρ M1 K else K' M1) (hq : QL' (l.map f) M) : lcGo g t e (l.map D.int) [] M QL' := by
  refine lcGo_pure (M := M) (fun d => match d with | .int i => some (f i) | _ => none) (fun x hx K K' hK => ?_) ?_
  · obtain ⟨n, hn, rfl⟩ := List.mem_map.mp hx
    exact hs n hn K K' hK
  · have e : (l.map D.int).filterMap (fun d => match d with | .int i => some (f i) | _ => none) = l.map f := by
      clear hs hq
      induction l with
      | nil => rfl
      | cons p l ih => rw [List.map_cons, List.filterMap_cons, ih]; simp
    rw [List.nil_append, e]; exact hq
/-- numbers drawn: a is the pool's place -/
theorem lcGo_drawn {C : Cell → Prop} {P : D → Prop} {a : Addr} {xs : List D} (hs : ∀ x ∈ xs, ∀ c, C c → ∀ (K : QD) (K' : Mem → Prop), (∀ v c', P v → C c' → K v (M.set a c')) → g x fun ρ => t ρ (M.set a c) fun b M1 => if b = true then e ρ M1 K else K' M1)
    (fin : ∀ vs c, vs.length = xs.length → (∀ v ∈ vs, P v) → C c → QL' vs (M.set a c)) {c : Cell} (hc : C c) : lcGo g t e xs [] (M.set a c) QL' := by
  refine lcGo_inv (fun ys acc M' => ∃ c, C c ∧ M' = M.set a c ∧ (∀ v ∈ acc, P v) ∧ acc.length + ys.length = xs.length ∧ ∀ y ∈ ys, y ∈ xs) ?_ ?_ ⟨c, hc, rfl, (fun _ h => by cases h), by simp, fun _ h => h⟩
  · rintro x ys acc M' ⟨c, hc, rfl, hp, hl, hsub⟩ K K' hK hK'
    refine hs x (hsub x (by simp)) c hc K K' fun v c' hv hc' => hK _ _ ⟨c', hc', rfl, fun w hw => ?_, ?_, fun y hy => hsub y (by simp [hy])⟩
    · rcases List.mem_append.mp hw with h | h
      · exact hp w h
      · have : w = v := by simpa using h
        subst this; exact hv
    · simp only [List.length_append, List.length_cons, List.length_nil] at hl ⊢; omega
  · rintro acc M' ⟨c, hc, rfl, hp, hl, -⟩
    exact fin acc c (by simpa using hl) hp hc
end
/-- whole numbers -/
theorem ints_of {P : Int → Prop} : ∀ {vs : List D}, (∀ v ∈ vs, ∃ i, v = .int i ∧ P i) → ∃ l : List Int, vs = l.map D.int ∧ ∀ i ∈ l, P i
  | [], _ => ⟨[], rfl, fun _ h => by cases h⟩
  | v :: vs, h => by
    obtain ⟨i, rfl, hi⟩ := h v (by simp)
    obtain ⟨l, rfl, hl⟩ := ints_of (vs := vs) fun w hw => h w (by simp [hw])
    exact ⟨i :: l, rfl, fun j hj => by
      rcases List.mem_cons.mp hj with rfl | hj
      · exact hi
      · exact hl j hj⟩
theorem flat_bls (bs : List Bool) : flatDs (bs.map D.bl) = some (bs.map V.bl) := by
  induction bs with
  | nil => rfl
  | cons t ts ih => show (some (V.bl t)).bind _ = _; simp [ih]
theorem inSeq_bls {bs : List Bool} {k : Bool → Prop} (h : k (decide (false ∈ bs))) : inSeq (.bl false) (bs.map D.bl) k := by
  unfold inSeq
  rw [flat_bls]
  show k (inV (.bl false) (bs.map V.bl))
  have : inV (.bl false) (bs.map V.bl) = decide (false ∈ bs) := by
    unfold inV
    rw [Bool.eq_iff_iff]
    simp [eqV]
  rw [this]; exact h
theorem map_bl {α : Type} {l : List α} {f : α → Bool} : l.map (fun a => D.bl (f a)) = (l.map f).map D.bl := by rw [List.map_map]; rfl
theorem map_int {α : Type} {l : List α} {f : α → Int} : l.map (fun a => D.int (f a)) = (l.map f).map D.int := by rw [List.map_map]; rfl
/-! ### sums over lots within a lot -/
def lsum (ds : List Int) (l : Nat) : Int := ((lotsL l).map fun e => ds.getD e 0).sum
def lotsB (l : Nat) : List Nat := (List.range l).filter fun e => subL e l
theorem lotsL_eq (l : Nat) : lotsL l = lotsB l ++ [l] := by
  unfold lotsL lotsB
  rw [List.range_succ, List.filter_append]
  have : subL l l = true := by unfold subL; simp
  simp [this]
theorem lotsB_lt {l e : Nat} (h : e ∈ lotsB l) : e < l := List.mem_range.mp (List.mem_filter.mp h).1
def bsum (ds : List Int) (l : Nat) : Int := ((lotsB l).map fun e => ds.getD e 0).sum
theorem lsum_eq (ds : List Int) (l : Nat) : lsum ds l = bsum ds l + ds.getD l 0 := by
  unfold lsum bsum
  rw [lotsL_eq, List.map_append, List.sum_append]
  simp
structure IsDv (ds ts : List Int) : Prop where
  len : ds.length = ts.length
  eq : ∀ l, l < ts.length → lsum ds l = ts.getD l 0
theorem sum_congr {α : Type} {l : List α} {f g : α → Int} (h : ∀ a ∈ l, f a = g a) : (l.map f).sum = (l.map g).sum := by rw [List.map_congr_left h]
theorem IsDv.uniq {a b ts : List Int} (h1 : IsDv a ts) (h2 : IsDv b ts) : a = b := by
  have key : ∀ l, l < ts.length → a.getD l 0 = b.getD l 0 := by
    intro l
    induction l using Nat.strongRecOn with
    | ind l ih =>
      intro hl
      have e1 := h1.eq l hl
      have e2 := h2.eq l hl
      rw [lsum_eq] at e1 e2
      have : bsum a l = bsum b l := sum_congr fun e he => ih e (lotsB_lt he) (Nat.lt_trans (lotsB_lt he) hl)
      omega
  refine List.ext_getElem (h1.len.trans h2.len.symm) fun i hi hj => ?_
  have := key i (by rw [← h1.len]; exact hi)
  rwa [List.getD_eq_getElem?_getD, List.getD_eq_getElem?_getD, List.getElem?_eq_getElem hi, List.getElem?_eq_getElem hj] at this
def twL (ts : List Int) : List Int := (List.range ts.length).map (lsum ts)
theorem twL_dv (ts : List Int) : IsDv ts (twL ts) := by
  refine ⟨by simp [twL], fun l hl => ?_⟩
  have hl : l < ts.length := by simpa [twL] using hl
  unfold twL
  rw [List.getD_eq_getElem?_getD, List.getElem?_map, List.getElem?_range hl]; rfl
theorem IsDv.tw {ds ts : List Int} (h : IsDv ds ts) : twL ds = ts := by
  unfold twL
  rw [h.len]
  refine List.ext_getElem (by simp) fun i hi hj => ?_
  rw [List.getElem_map, List.getElem_range, h.eq i hj, List.getD_eq_getElem?_getD, List.getElem?_eq_getElem hj]; rfl
theorem IsDv.zero {ds ts : List Int} (h : IsDv ds ts) (hl : 0 < ts.length) : ds.getD 0 0 = ts.getD 0 0 := by
  have := h.eq 0 hl
  rw [lsum_eq] at this
  have e : bsum ds 0 = 0 := rfl
  omega
theorem perm_sum {α : Type} {l l' : List α} (p : l.Perm l') (f : α → Int) : (l.map f).sum = (l'.map f).sum := by
  induction p with
  | nil => rfl
  | cons a _ ih => simp [ih]
  | swap a b l => simp only [List.map_cons, List.sum_cons]; omega
  | trans _ _ ih1 ih2 => exact ih1.trans ih2
/-- the lots within a lot, doubled person by person -/
def wlL (l : Nat) : List Nat := (memL l).foldl (fun f k => f ++ f.map (· ||| 2 ^ k)) [0]
theorem wlL_perm {l : Nat} (h : l < 64) : (wlL l).Perm (lotsL l) := by
  have := fin64 (P := fun l => (wlL l).isPerm (lotsL l) = true) (by decide +kernel) h
  exact List.isPerm_iff.mp this
theorem wlL_sum (ds : List Int) {l : Nat} (h : l < 64) : ((wlL l).map fun e => ds.getD e 0).sum = lsum ds l := perm_sum (wlL_perm h) _
/-! ### the urn of the laws 40 to 59 -/
def UrnC (c : Cell) : Prop := ∃ p0 p1 p2 : Int, c = .lst [.int p0, .int p1, .int p2] ∧ 0 ≤ p0 ∧ 0 ≤ p1 ∧ p1 < 2147483648
@[reducible] def S_nip : Spec := fun ds M _ Q => ∃ a c, ∃ m : Int, ds = [.cell a, .int m] ∧ 0 < m ∧ m < 1073741824 ∧ M a = some c ∧ UrnC c ∧ ∀ (r : Int) c', 0 ≤ r → r < m → UrnC c' → Q (.int r) (M.set a c')
@[reducible] def S_urn : Spec := fun ds M _ Q => ∃ (ns : List Int) (lap : Nat), ns.length ≤ 63 ∧ lap ≤ 100 ∧ ds = [.scr (ns.map D.int), .int lap] ∧ ∀ p c, M p = none → UrnC c → Q (.cell p) (M.set p c)
@[reducible] def S_any_of : Spec := fun ds M _ Q => ∃ a c, ∃ xs : List D, (ds = [.cell a, .lst xs] ∨ ds = [.cell a, .tup xs]) ∧ xs ≠ [] ∧ xs.length < 1073741824 ∧ M a = some c ∧ UrnC c ∧ ∀ x c', x ∈ xs → UrnC c' → Q x (M.set a c')
/-- tuples, lists up to j deep -/
def smB2 : Nat → D → Bool
  | 0, .tup _ => false
  | 0, .lst _ => false
  | j + 1, .tup xs => decide (xs.length ≤ 5000) && xs.all (smB2 j)
  | j + 1, .lst xs => decide (xs.length ≤ 5000) && xs.all (smB2 j)
  | _, d => nice 60 d
theorem smB2_ints {j : Nat} {l : List Int} (h : l.length ≤ 5000) : smB2 (j + 1) (.tup (l.map D.int)) = true := by
  show (decide ((l.map D.int).length ≤ 5000) && (l.map D.int).all (smB2 j)) = true
  rw [Bool.and_eq_true, List.length_map]
  refine ⟨decide_eq_true h, List.all_eq_true.mpr fun x hx => ?_⟩
  obtain ⟨n, _, rfl⟩ := List.mem_map.mp hx
  cases j <;> rfl
theorem bits_lt (l : Nat) : l < 2 ^ Builtin.Int.intBits (l : Int) := by
  unfold Builtin.Int.intBits
  by_cases h : l = 0
  · subst h; decide
  · have h2 : ((l : Int) == 0) = false := by simp; omega
    rw [h2]
    simp only [Bool.false_eq_true, if_false, Int.natAbs_natCast]
    exact Nat.lt_log2_self
theorem bits_le {l n : Nat} (h : l < 2 ^ n) : Builtin.Int.intBits (l : Int) ≤ n := by
  unfold Builtin.Int.intBits
  by_cases h0 : l = 0
  · subst h0; simp
  · have h2 : ((l : Int) == 0) = false := by simp; omega
    rw [h2]
    simp only [Bool.false_eq_true, if_false, Int.natAbs_natCast]
    have := (Nat.log2_lt h0).mpr h
    omega
theorem bits_pow (n : Nat) : Builtin.Int.intBits ((2 ^ n : Nat) : Int) = n + 1 := by
  unfold Builtin.Int.intBits
  have h0 : 2 ^ n ≠ 0 := Nat.pos_iff_ne_zero.mp (Nat.two_pow_pos n)
  have h2 : (((2 ^ n : Nat) : Int) == 0) = false := by
    rw [beq_eq_false_iff_ne]
    exact_mod_cast h0
  rw [h2]
  simp only [Bool.false_eq_true, if_false, Int.natAbs_natCast]
  rw [Nat.log2_two_pow]
theorem xor_bit {l k : Nat} (h : bitB l k = true) : Builtin.bitXor (l : Int) ((2 ^ k : Nat) : Int) = ((l - 2 ^ k : Nat) : Int) ∧ 2 ^ k ≤ l := by
  have e : l &&& 2 ^ k = 2 ^ k := by
    have hb : l.testBit k = true := by
      rw [Nat.testBit_eq_decide_div_mod_eq]
      unfold bitB at h
      rw [Nat.shiftRight_eq_div_pow] at h
      simpa using h
    refine Nat.eq_of_testBit_eq fun i => ?_
    rw [Nat.testBit_and, Nat.testBit_two_pow]
    by_cases hi : k = i
    · subst hi; simp [hb]
    · simp [hi]
  have hle : 2 ^ k ≤ l := by
    have := Nat.and_le_left (n := l) (m := 2 ^ k)
    omega
  refine ⟨?_, hle⟩
  rw [PyProof.Rows.bitXor_and, PySem.W.os_band, e]
  omega
theorem or_and_nat : ∀ (a b : Nat), a + b = (a ||| b) + (a &&& b) := by
  intro a
  induction a using Nat.strongRecOn with
  | ind a ih =>
    intro b
    by_cases h : a = 0
    · subst h; simp
    · have e := ih (a / 2) (by omega) (b / 2)
      have o1 : (a ||| b) / 2 = a / 2 ||| b / 2 := Nat.or_div_two
      have o2 : (a &&& b) / 2 = a / 2 &&& b / 2 := Nat.and_div_two
      have m1 : (a ||| b) % 2 = 1 ↔ a % 2 = 1 ∨ b % 2 = 1 := Nat.or_mod_two_eq_one
      have m2 : (a &&& b) % 2 = 1 ↔ a % 2 = 1 ∧ b % 2 = 1 := Nat.and_mod_two_eq_one
      rw [← o1, ← o2] at e
      by_cases h1 : a % 2 = 1 <;> by_cases h2 : b % 2 = 1
      · have q1 := m1.mpr (.inl h1)
        have q2 := m2.mpr ⟨h1, h2⟩
        omega
      · have q1 := m1.mpr (.inl h1)
        have q2 : ¬ (a &&& b) % 2 = 1 := fun z => h2 (m2.mp z).2
        omega
      · have q1 := m1.mpr (.inr h2)
        have q2 : ¬ (a &&& b) % 2 = 1 := fun z => h1 (m2.mp z).1
        omega
      · have q1 : ¬ (a ||| b) % 2 = 1 := fun z => (m1.mp z).elim h1 h2
        have q2 : ¬ (a &&& b) % 2 = 1 := fun z => h2 (m2.mp z).2
        omega
theorem or_nat {a b : Nat} : Builtin.bitOr (a : Int) (b : Int) = ((a ||| b : Nat) : Int) := by
  rw [PyProof.Rows.bitOr_and, PySem.W.os_band]
  have := or_and_nat a b
  omega
end RF
namespace RF
open PySem PySem.Spec PyProof.Rows L2
theorem ite_n {p q a : Prop} [Decidable a] (hf : ¬ a → p) (ht : a → q) : if (!decide a) = true then p else q := ite_b (fun h => hf (by simpa using h)) fun h => ht (by simpa using h)
/-- a law's whole right: an urn, True -/
@[reducible] def S_rightU : Spec := fun ds M _ Q => ∃ a c, ds = [.cell a] ∧ M a = some c ∧ UrnC c ∧ ∀ c', UrnC c' → Q (.bl true) (M.set a c')
section
variable {Φ : Nat → Spec} {i : Nat} {M : Mem} {X : XQ} {Q : QD} {a : Addr} {c : Cell} {m : Int}
/-! drawing: the urn, the pool -/
theorem nip_set (h : Φ i = S_nip) (h0 : 0 < m) (h1 : m < 1073741824) (hc : UrnC c) (hq : ∀ (r : Int) c', 0 ≤ r → r < m → UrnC c' → Q (.int r) (M.set a c')) : Φ i [.cell a, .int m] (M.set a c) X Q := by
  rw [h]; exact ⟨a, c, m, rfl, h0, h1, Mem.set_same, hc, fun r c' g0 g1 hc' => by rw [Mem.set_set]; exact hq r c' g0 g1 hc'⟩
theorem anyof_set {xs : List D} {d : D} (h : Φ i = S_any_of) (hd : d = .lst xs ∨ d = .tup xs) (h0 : 0 < xs.length) (h1 : xs.length < 1073741824) (hc : UrnC c) (hq : ∀ x c', x ∈ xs → UrnC c' → Q x (M.set a c')) : Φ i [.cell a, d] (M.set a c) X Q := by
  rw [h]; exact ⟨a, c, xs, by rcases hd with rfl | rfl <;> simp, List.ne_nil_of_length_pos h0, h1, Mem.set_same, hc, fun x c' hx hc' => by rw [Mem.set_set]; exact hq x c' hx hc'⟩
theorem draw_set (h : Φ i = S_draw) (h0 : 0 < m) (h1 : m < 10000000000000000000000000000000000000000) (hc : PoolC c) (hq : ∀ (r : Int) c', 0 ≤ r → r < m → PoolC c' → Q (.int r) (M.set a c')) : Φ i [.cell a, .int m] (M.set a c) X Q := by
  rw [h]; exact ⟨a, c, m, rfl, h0, h1, Mem.set_same, hc, fun r c' g0 g1 hc' => by rw [Mem.set_set]; exact hq r c' g0 g1 hc'⟩
theorem pick_set {xs : List D} {d : D} (h : Φ i = S_pick) (hd : d = .lst xs ∨ d = .tup xs) (h0 : 0 < xs.length) (h1 : xs.length < 1073741824) (hc : PoolC c) (hq : ∀ x c', x ∈ xs → PoolC c' → Q x (M.set a c')) : Φ i [.cell a, d] (M.set a c) X Q := by
  rw [h]; exact ⟨a, c, xs, by rcases hd with rfl | rfl <;> simp, List.ne_nil_of_length_pos h0, h1, Mem.set_same, hc, fun x c' hx hc' => by rw [Mem.set_set]; exact hq x c' hx hc'⟩
theorem set_self {c : Cell} (h : M a = some c) : M.set a c = M := by
  funext b
  by_cases hb : b = a
  · subst hb; rw [Mem.set_same, h]
  · rw [Mem.set_ne hb]
end
/-! ### loops over numbers -/
section
variable {g : D → DEnv → (DEnv → Prop) → Prop} {b : DEnv → Mem → (DEnv → Mem → Prop) → Prop} {Qn : DEnv → Mem → Prop}
/-- for over the numbers lo, lo + 1, .. below hi: J k holds ahead of the turn of k -/
theorem forGo_range (J : Nat → DEnv → Mem → Prop) {lo n : Nat} (step : ∀ k ρ M, lo ≤ k → k < lo + n → J k ρ M → ∀ K : DEnv → Mem → Prop, (∀ ρ' M', J (k + 1) ρ' M' → K ρ' M') → g (.int (k : Nat)) ρ fun ρ1 => b ρ1 M K)
    (fin : ∀ ρ M, J (lo + n) ρ M → Qn ρ M) {ρ : DEnv} {M : Mem} (h : J lo ρ M) : forGo g b (natsD (List.range' lo n)) ρ M Qn := by
  induction n generalizing lo ρ M with
  | zero => exact fin ρ M h
  | succ n ih =>
    show forGo g b (.int (lo : Nat) :: natsD (List.range' (lo + 1) n)) ρ M Qn
    refine step lo ρ M (Nat.le_refl _) (by omega) h (fun ρ' M' => forGo g b (natsD (List.range' (lo + 1) n)) ρ' M' Qn) fun ρ' M' h' => ?_
    exact ih (fun k ρ M h1 h2 => step k ρ M (by omega) (by omega)) (fun ρ M hj => fin ρ M (by rw [show lo + (n + 1) = lo + 1 + n by omega]; exact hj)) h'
theorem forGo_range0 (J : Nat → DEnv → Mem → Prop) {n : Nat} (step : ∀ k ρ M, k < n → J k ρ M → ∀ K : DEnv → Mem → Prop, (∀ ρ' M', J (k + 1) ρ' M' → K ρ' M') → g (.int (k : Nat)) ρ fun ρ1 => b ρ1 M K)
    (fin : ∀ ρ M, J n ρ M → Qn ρ M) {ρ : DEnv} {M : Mem} (h : J 0 ρ M) : forGo g b (natsD (List.range n)) ρ M Qn := by
  rw [List.range_eq_range']
  exact forGo_range J (fun k ρ M _ h2 => step k ρ M (by omega)) (fun ρ M hj => fin ρ M (by rw [Nat.zero_add] at hj; exact hj)) h
/-- for over a list: J done rest -/
theorem forGo_list {α : Type} (f : α → D) {l : List α} (J : List α → List α → DEnv → Mem → Prop) (step : ∀ x done rest ρ M, done ++ x :: rest = l → J done (x :: rest) ρ M → ∀ K : DEnv → Mem → Prop, (∀ ρ' M', J (done ++ [x]) rest ρ' M' → K ρ' M') → g (f x) ρ fun ρ1 => b ρ1 M K)
    (fin : ∀ ρ M, J l [] ρ M → Qn ρ M) {ρ : DEnv} {M : Mem} (h : J [] l ρ M) : forGo g b (l.map f) ρ M Qn := by
  have go : ∀ rest done ρ M, done ++ rest = l → J done rest ρ M → forGo g b (rest.map f) ρ M Qn := by
    intro rest
    induction rest with
    | nil =>
      intro done ρ M e hj
      rw [List.append_nil] at e
      subst e
      exact fin ρ M hj
    | cons x rest ih =>
      intro done ρ M e hj
      refine step x done rest ρ M e hj (fun ρ' M' => forGo g b (rest.map f) ρ' M' Qn) fun ρ' M' hj' => ?_
      exact ih (done ++ [x]) ρ' M' (by rw [List.append_assoc]; exact e) hj'
  exact go l [] ρ M rfl h
end
section
variable {g : D → (DEnv → Prop) → Prop} {t : DEnv → Mem → (Bool → Mem → Prop) → Prop} {e : DEnv → Mem → QD → Prop} {QL' : QL} {M : Mem}
/-- a comprehension over a list that keeps some -/
theorem lcGo_keep {α : Type} (f : α → D) (p : α → Bool) (r : α → D) {l : List α} {acc : List D} (hs : ∀ x ∈ l, ∀ (K : QD) (K' : Mem → Prop), (p x = true → K (r x) M) → (p x = false → K' M) → g (f x) fun ρ => t ρ M fun b M1 => if b = true then e ρ M1 K else K' M1)
    (hq : QL' (acc ++ (l.filter p).map r) M) : lcGo g t e (l.map f) acc M QL' := by
  induction l generalizing acc with
  | nil => rw [List.filter_nil, List.map_nil, List.append_nil] at hq; exact hq
  | cons x l ih =>
    refine hs x (by simp) (fun y M2 => lcGo g t e (l.map f) (acc ++ [y]) M2 QL') (fun M1 => lcGo g t e (l.map f) acc M1 QL') (fun hp => ?_) (fun hp => ?_)
    · refine ih (fun y hy => hs y (by simp [hy])) ?_
      rw [List.filter_cons_of_pos hp, List.map_cons] at hq
      rw [List.append_assoc]; exact hq
    · refine ih (fun y hy => hs y (by simp [hy])) ?_
      rw [List.filter_cons_of_neg (by simp [hp])] at hq
      exact hq
theorem lcGo_all {α : Type} (f : α → D) (r : α → D) {l : List α} {acc : List D} (hs : ∀ x ∈ l, ∀ (K : QD) (K' : Mem → Prop), K (r x) M → g (f x) fun ρ => t ρ M fun b M1 => if b = true then e ρ M1 K else K' M1)
    (hq : QL' (acc ++ l.map r) M) : lcGo g t e (l.map f) acc M QL' := by
  refine lcGo_keep f (fun _ => true) r (fun x hx K K' h1 _ => hs x hx K K' (h1 rfl)) ?_
  rw [List.filter_eq_self.mpr fun _ _ => rfl]; exact hq
end
/-! ### slices, enumerate -/
theorem cut_take {α : Type} (xs : List α) (k : Nat) : cutD xs none (some (k : Int)) = xs.take k := by
  unfold cutD
  have e : HT.sIx xs.length xs.length (some (k : Int)) = min k xs.length := by
    show (if ((k : Int)) < 0 then ((k : Int) + ((xs.length : Nat) : Int)).toNat else min (k : Int).toNat xs.length) = _
    rw [if_neg (by omega), Int.toNat_natCast]
  rw [e, HT.sIx_none]
  simp
theorem cut_drop {α : Type} (xs : List α) (k : Nat) : cutD xs (some (k : Int)) none = xs.drop k := by
  unfold cutD
  have e : HT.sIx xs.length 0 (some (k : Int)) = min k xs.length := by
    show (if ((k : Int)) < 0 then ((k : Int) + ((xs.length : Nat) : Int)).toNat else min (k : Int).toNat xs.length) = _
    rw [if_neg (by omega), Int.toNat_natCast]
  rw [e, HT.sIx_none]
  rcases Nat.le_total k xs.length with h | h
  · rw [Nat.min_eq_left h, List.take_of_length_le (by simp)]
  · rw [Nat.min_eq_right h, List.drop_length, List.drop_eq_nil_of_le h]; simp
theorem enum_zip {α : Type} (f : α → D) : ∀ (l : List α) (n : Nat), enumFrom n (l.map f) = (l.zipIdx n).map fun p => .tup [.int (p.2 : Nat), f p.1]
  | [], _ => rfl
  | x :: l, n => by
    show .tup [.int (n : Nat), f x] :: enumFrom (n + 1) (l.map f) = _
    rw [enum_zip f l (n + 1), List.zipIdx_cons, List.map_cons]
theorem zip_map {α β : Type} (f : α → D) (g : β → D) : ∀ (l : List α) (m : List β), zipD (l.map f) (m.map g) = (l.zip m).map fun p => .tup [f p.1, g p.2]
  | [], _ => by simp [zipD]
  | _ :: _, [] => by simp [zipD]
  | a :: l, b :: m => by
    show .tup [f a, g b] :: zipD (l.map f) (m.map g) = _
    rw [zip_map f g l m, List.zip_cons_cons, List.map_cons]
theorem inSeq_trues {vs : List D} {k : Bool → Prop} (h : ∀ v ∈ vs, v = .bl true) (hk : k false) : inSeq (.bl false) vs k := by
  have e : vs = (vs.map fun _ => true).map D.bl := by
    rw [List.map_map]
    exact (List.map_id' vs).symm.trans (List.map_congr_left fun v hv => h v hv)
  rw [e]
  refine inSeq_bls ?_
  have : decide (false ∈ vs.map fun _ => true) = false := by simp
  rw [this]; exact hk
/-! ### in, of plain things -/
theorem any_py {x : D} {p : PyData} (hx : py x = some p) : ∀ {xs : List D} {ps : List PyData}, pys xs = some ps → (ps.any fun z => PyData.eqv z p) = xs.any fun y => eqB y x
  | [], ps, h => by cases h; rfl
  | y :: xs, ps, h => by
    obtain ⟨q, e1, h⟩ := Option.bind_eq_some_iff.mp (show ((py y).bind fun p => (pys xs).map fun ps => p :: ps) = some ps from h)
    obtain ⟨qs, e2, rfl⟩ := Option.map_eq_some_iff.mp h
    rw [List.any_cons, List.any_cons, any_py hx e2, eqB_py e1 hx]
theorem flat_eq {y x : D} {v w : V} (h1 : flatD y = some v) (h2 : flatD x = some w) : eqV v w = eqB y x := by
  cases y <;> cases h1 <;> cases x <;> cases h2 <;> first | rfl | (simp [eqV, eqB]; done) | skip
theorem inV_eq {x : D} {v : V} (hx : flatD x = some v) : ∀ {xs : List D} {vs : List V}, flatDs xs = some vs → inV v vs = xs.any fun y => eqB y x
  | [], vs, h => by cases h; rfl
  | y :: xs, vs, h => by
    obtain ⟨q, e1, h⟩ := Option.bind_eq_some_iff.mp (show ((flatD y).bind fun p => (flatDs xs).map fun ps => p :: ps) = some vs from h)
    obtain ⟨qs, e2, rfl⟩ := Option.map_eq_some_iff.mp h
    have ih := inV_eq hx e2
    unfold inV at ih ⊢
    rw [List.any_cons, List.any_cons, ih, flat_eq e1 hx]
theorem inSeq_nice {x : D} {xs : List D} {k : Bool → Prop} (hx : nice 60 x = true) (hxs : nices 60 xs = true) (h : k (xs.any fun y => eqB y x)) : inSeq x xs k := by
  unfold inSeq
  split
  · rename_i v vs e1 e2
    rw [inV_eq e1 e2]; exact h
  · obtain ⟨p, e1, c1, l1⟩ := nice_py 60 x hx
    obtain ⟨ps, e2, c2, l2⟩ := nices_py 60 xs hxs
    refine ⟨_, ⟨p, ps, e1, e2, ?_, ?_, any_py e1 e2⟩, h⟩
    · unfold SeqAt.shaped; rw [c1]; simpa using by omega
    · unfold SeqAt.shaped
      have : (PyData.list ps).canLay0 = true := by simpa [PyData.canLay0] using c2
      rw [this]
      have : (PyData.list ps).depth ≤ 64 := by simp only [PyData.depth]; omega
      simpa using this
end RF
namespace RF
open PySem PySem.Spec PyProof.Rows L2
/-! ### equal things -/
theorem eqNil {xs : List D} (h : nices 60 xs = true) : eqOk (.lst xs) (.lst []) xs.isEmpty := by
  have := eqOk_nice (x := .lst xs) (y := .lst []) (by simp only [nice]; exact nices_of fun x hx => nice_mono x (n := 60) (by decide) (nices_mem h x hx)) rfl
  rwa [eqB_nil] at this
where nices_mem {n : Nat} : ∀ {l : List D}, nices n l = true → ∀ x ∈ l, nice n x = true
  | [], _, x, hx => nomatch hx
  | d :: l, h, x, hx => by
    obtain ⟨h1, h2⟩ := and2 (by simpa [nices] using h : (nice n d && nices n l) = true)
    rcases List.mem_cons.mp hx with rfl | hx
    · exact h1
    · exact nices_mem h2 x hx
theorem eqInts {a b : List Int} : eqOk (.tup (a.map D.int)) (.tup (b.map D.int)) (decide (a = b)) := by
  have := eqOk_nice (x := .tup (a.map D.int)) (y := .tup (b.map D.int)) (by simp only [nice]; exact nice_ints _) (by simp only [nice]; exact nice_ints _)
  simp only [eqB, eqBs_ints] at this
  exact this
theorem eqIntsL {a b : List Int} : eqOk (.lst (a.map D.int)) (.lst (b.map D.int)) (decide (a = b)) := by
  have := eqOk_nice (x := .lst (a.map D.int)) (y := .lst (b.map D.int)) (by simp only [nice]; exact nice_ints _) (by simp only [nice]; exact nice_ints _)
  simp only [eqB, eqBs_ints] at this
  exact this
/-! ### lots as sets -/
def orL (ps : List Nat) : Nat := ps.foldr (fun p acc => acc ||| 2 ^ p) 0
theorem orL_cons (p : Nat) (ps : List Nat) : orL (p :: ps) = orL ps ||| 2 ^ p := rfl
theorem or_mem {l p : Nat} (h : l.testBit p = true) : l ||| 2 ^ p = l := by
  refine Nat.eq_of_testBit_eq fun i => ?_
  rw [Nat.testBit_or, Nat.testBit_two_pow]
  by_cases hi : p = i
  · subst hi; simp [h]
  · simp [hi]
theorem or_lt {n a b : Nat} (ha : a < 2 ^ n) (hb : b < 2 ^ n) : a ||| b < 2 ^ n := Nat.or_lt_two_pow ha hb
theorem pow_lt {n p : Nat} (h : p < n) : 2 ^ p < 2 ^ n := Nat.pow_lt_pow_right (by decide) h
theorem orL_lt {n : Nat} : ∀ {ps : List Nat}, (∀ p ∈ ps, p < n) → orL ps < 2 ^ n
  | [], _ => Nat.two_pow_pos n
  | p :: ps, h => or_lt (orL_lt fun q hq => h q (by simp [hq])) (pow_lt (h p (by simp)))
theorem orL_memL {l : Nat} (h : l < 64) : orL (memL l) = l := fin64 (P := fun l => orL (memL l) = l) (by decide +kernel) h
theorem bitB_test (l p : Nat) : bitB l p = l.testBit p := by
  unfold bitB
  rw [Nat.testBit_eq_decide_div_mod_eq, Nat.shiftRight_eq_div_pow, Bool.eq_iff_iff]
  simp
theorem memL_mem {l p : Nat} (h : l < 64) : p ∈ memL l ↔ l.testBit p = true := by
  unfold memL
  rw [List.mem_filter, bitB_test, List.mem_range]
  refine ⟨fun z => z.2, fun z => ⟨?_, z⟩⟩
  rcases Nat.lt_or_ge p 6 with h6 | h6
  · exact h6
  · have : l < 2 ^ p := Nat.lt_of_lt_of_le h (Nat.pow_le_pow_right (by decide) h6 : 2 ^ 6 ≤ 2 ^ p)
    rw [Nat.testBit_lt_two_pow this] at z; cases z
/-- what a person adds does not get less: lot by lot -/
def Bend (n : Nat) (t : Nat → Int) : Prop := ∀ p q Y, p < n → q < n → p ≠ q → Y < 2 ^ n → Y.testBit p = false → Y.testBit q = false → t (Y ||| 2 ^ p) + t (Y ||| 2 ^ q) ≤ t (Y ||| 2 ^ p ||| 2 ^ q) + t Y
section
variable {n : Nat} {t : Nat → Int}
theorem inc_mono (H : Bend n t) {p : Nat} (hp : p < n) {X : Nat} (hX : X < 2 ^ n) : ∀ qs : List Nat, (∀ q ∈ qs, q < n) → (X ||| orL qs).testBit p = false → t (X ||| 2 ^ p) - t X ≤ t (X ||| orL qs ||| 2 ^ p) - t (X ||| orL qs)
  | [], _, _ => by show _ ≤ t (X ||| 0 ||| 2 ^ p) - t (X ||| 0); rw [Nat.or_zero]; exact Int.le_refl _
  | q :: qs, hq, hb => by
    have e : X ||| orL (q :: qs) = (X ||| orL qs) ||| 2 ^ q := by rw [orL_cons, Nat.or_assoc]
    rw [e] at hb ⊢
    have hb1 : (X ||| orL qs).testBit p = false := by
      rw [Nat.testBit_or, Bool.or_eq_false_iff] at hb
      exact hb.1
    have ih := inc_mono H hp hX qs (fun r hr => hq r (by simp [hr])) hb1
    by_cases hm : (X ||| orL qs).testBit q = true
    · rw [or_mem hm]; exact ih
    · have hm : (X ||| orL qs).testBit q = false := by simpa using hm
      have hpq : p ≠ q := fun z => by
        subst z
        rw [Nat.testBit_or, Nat.testBit_two_pow] at hb
        simp at hb
      have h := H p q (X ||| orL qs) hp (hq q (by simp)) hpq (or_lt hX (orL_lt fun r hr => hq r (by simp [hr]))) hb1 hm
      have e2 : X ||| orL qs ||| 2 ^ q ||| 2 ^ p = X ||| orL qs ||| 2 ^ p ||| 2 ^ q := by rw [Nat.or_assoc, Nat.or_comm (2 ^ q), ← Nat.or_assoc]
      rw [e2]
      omega
theorem inc_lots (H : Bend n t) (hn : n ≤ 6) {B C : Nat} (hB : B < 2 ^ n) (hC : C < 2 ^ n) (hs : C ||| B = B) : ∀ ps : List Nat, (∀ p ∈ ps, p < n ∧ B.testBit p = false) → t (C ||| orL ps) - t C ≤ t (B ||| orL ps) - t B
  | [], _ => by show t (C ||| 0) - _ ≤ t (B ||| 0) - _; rw [Nat.or_zero, Nat.or_zero]; omega
  | p :: ps, hp => by
    have ih := inc_lots H hn hB hC hs ps fun q hq => hp q (by simp [hq])
    have hl := orL_lt (n := n) (ps := ps) fun q hq => (hp q (by simp [hq])).1
    rw [orL_cons, ← Nat.or_assoc, ← Nat.or_assoc]
    by_cases hm : (orL ps).testBit p = true
    · rw [or_mem (show (C ||| orL ps).testBit p = true by rw [Nat.testBit_or, hm, Bool.or_true]), or_mem (show (B ||| orL ps).testBit p = true by rw [Nat.testBit_or, hm, Bool.or_true])]
      exact ih
    · have hm : (orL ps).testBit p = false := by simpa using hm
      have hB64 : B < 64 := Nat.lt_of_lt_of_le hB (pow64 hn)
      have h := inc_mono H (hp p (by simp)).1 (or_lt hC hl) (memL B) (fun q hq => memL_lt hn hB hq) (by
        rw [orL_memL hB64, Nat.testBit_or, Nat.testBit_or]
        have h1 := (hp p (by simp)).2
        have h2 : C.testBit p = false := by
          have := congrArg (fun z => Nat.testBit z p) hs
          simp only [Nat.testBit_or] at this
          rw [h1, Bool.or_false] at this
          exact this
        rw [h1, h2, hm]; rfl)
      rw [orL_memL hB64] at h
      have e : C ||| orL ps ||| B = B ||| orL ps := by rw [Nat.or_assoc, Nat.or_comm (orL ps), ← Nat.or_assoc, hs]
      rw [e] at h
      omega
theorem and_or_self (a b : Nat) : a &&& b ||| b = b := Nat.eq_of_testBit_eq fun i => by
  rw [Nat.testBit_or, Nat.testBit_and]
  cases a.testBit i <;> cases b.testBit i <;> rfl
/-- bends, told of any two lots -/
theorem Bend.all (H : Bend n t) (hn : n ≤ 6) {A B : Nat} (hA : A < 2 ^ n) (hB : B < 2 ^ n) : t A + t B ≤ t (A ||| B) + t (A &&& B) := by
  have hA64 : A < 64 := Nat.lt_of_lt_of_le hA (pow64 hn)
  have hC : A &&& B < 2 ^ n := Nat.lt_of_le_of_lt Nat.and_le_left hA
  have h := inc_lots H hn hB hC (and_or_self A B) ((memL A).filter fun p => !B.testBit p) (fun p hp => by
    obtain ⟨h1, h2⟩ := List.mem_filter.mp hp
    exact ⟨memL_lt hn hA h1, by simpa using h2⟩)
  have key : ∀ X : Nat, (X ||| orL ((memL A).filter fun p => !B.testBit p)).testBit = fun i => X.testBit i || (A.testBit i && !B.testBit i) := by
    have orm : ∀ (ps : List Nat) i, (orL ps).testBit i = decide (i ∈ ps) := by
      intro ps i
      induction ps with
      | nil => show (0 : Nat).testBit i = _; simp
      | cons p ps ih =>
        rw [orL_cons, Nat.testBit_or, ih, Nat.testBit_two_pow]
        by_cases h : i = p
        · subst h; simp
        · have : p ≠ i := fun z => h z.symm
          simp [h, this]
    intro X
    funext i
    rw [Nat.testBit_or, orm]
    congr 1
    rw [Bool.eq_iff_iff]
    simp only [decide_eq_true_eq, List.mem_filter, memL_mem hA64, Bool.and_eq_true]
  have e1 : A &&& B ||| orL ((memL A).filter fun p => !B.testBit p) = A := Nat.eq_of_testBit_eq fun i => by
    rw [key]
    simp only [Nat.testBit_and]
    cases A.testBit i <;> cases B.testBit i <;> rfl
  have e2 : B ||| orL ((memL A).filter fun p => !B.testBit p) = A ||| B := Nat.eq_of_testBit_eq fun i => by
    rw [key]
    simp only [Nat.testBit_or]
    cases A.testBit i <;> cases B.testBit i <;> rfl
  rw [e1, e2] at h
  omega
end
/-! ### pairs of lots without common people -/
def gt (ts : List Int) (l : Nat) : Int := ts.getD l 0
theorem gt_at {ts : List Int} {l : Nat} (h : l < ts.length) : gt ts l = ts[l] := by
  unfold gt
  rw [List.getD_eq_getElem?_getD, List.getElem?_eq_getElem h]; rfl
theorem gt_map {ts : List Int} : (List.range ts.length).map (gt ts) = ts := by
  refine List.ext_getElem (by simp) fun i h1 h2 => ?_
  rw [List.getElem_map, List.getElem_range, gt_at h2]
def Joins (n : Nat) (t : Nat → Int) : Prop := ∀ a b, 0 < a → 0 < b → a < 2 ^ n → b < 2 ^ n → a &&& b = 0 → t a + t b ≤ t (a ||| b)
theorem Bend.joins {n : Nat} {t : Nat → Int} (H : Bend n t) (hn : n ≤ 6) (h0 : t 0 = 0) : Joins n t := fun a b _ _ ha hb hab => by
  have := H.all hn ha hb
  rw [hab, h0] at this
  omega
def pairsL (ts : List Int) : List (Nat × Nat) := (List.range' 1 (ts.length - 1)).flatMap fun a => ((List.range' 1 (ts.length - 1)).filter fun b => a &&& b == 0 && decide (gt ts a + gt ts b > gt ts (a ||| b))).map fun b => (a, b)
theorem mem_pairs {ts : List Int} {a b : Nat} : (a, b) ∈ pairsL ts ↔ (1 ≤ a ∧ a < ts.length) ∧ (1 ≤ b ∧ b < ts.length) ∧ a &&& b = 0 ∧ gt ts (a ||| b) < gt ts a + gt ts b := by
  unfold pairsL
  simp only [List.mem_flatMap, List.mem_map, List.mem_filter, List.mem_range'_1, Prod.mk.injEq, Bool.and_eq_true, beq_iff_eq, decide_eq_true_eq]
  constructor
  · rintro ⟨x, h1, y, ⟨h2, h3, h4⟩, rfl, rfl⟩
    exact ⟨by omega, by omega, h3, h4⟩
  · rintro ⟨h1, h2, h3, h4⟩
    exact ⟨a, by omega, b, ⟨by omega, h3, h4⟩, rfl, rfl⟩
theorem joins_pairs {n : Nat} {ts : List Int} (hT : Tab n ts) : pairsL ts = [] ↔ Joins n (gt ts) := by
  rw [List.eq_nil_iff_forall_not_mem]
  have hl := hT.len
  constructor
  · intro h a b h1 h2 h3 h4 h5
    refine Int.not_lt.mp fun z => h (a, b) (mem_pairs.mpr ⟨by omega, by omega, h5, z⟩)
  · rintro h ⟨a, b⟩ hm
    obtain ⟨h1, h2, h3, h4⟩ := mem_pairs.mp hm
    have := h a b (by omega) (by omega) (by omega) (by omega) h3
    omega
/-! ### the parted table -/
def lowN (l : Nat) : Nat := (Builtin.bitAnd (l : Int) (-(l : Int))).toNat
theorem low_int {l : Nat} (h : l < 64) : Builtin.bitAnd (l : Int) (-(l : Int)) = (lowN l : Nat) := fin64 (P := fun l => Builtin.bitAnd (l : Int) (-(l : Int)) = (lowN l : Nat)) (by decide +kernel) h
def fpL (l : Nat) : List Nat := (lotsL l).filter fun e => e &&& lowN l != 0
theorem fpL_in {l e : Nat} (h : l < 64) (he : e ∈ fpL l) : 0 < e ∧ e ≤ l ∧ (e ≠ l → (0 < l - e ∧ l - e < l ∧ e &&& (l - e) = 0 ∧ e ||| (l - e) = l)) :=
  fin64 (P := fun l => ∀ e ∈ fpL l, 0 < e ∧ e ≤ l ∧ (e ≠ l → (0 < l - e ∧ l - e < l ∧ e &&& (l - e) = 0 ∧ e ||| (l - e) = l))) (by decide +kernel) h e he
theorem fpL_self {l : Nat} (h : l < 64) (h0 : 0 < l) : l ∈ fpL l := fin64 (P := fun l => 0 < l → l ∈ fpL l) (by decide +kernel) h h0
theorem mem_fpL {l e : Nat} : e ∈ fpL l ↔ e ≤ l ∧ subL e l = true ∧ e &&& lowN l ≠ 0 := by
  unfold fpL lotsL
  simp only [List.mem_filter, List.mem_range, bne_iff_ne, ne_eq]
  constructor
  · rintro ⟨⟨h1, h2⟩, h3⟩; exact ⟨by omega, h2, h3⟩
  · rintro ⟨h1, h2, h3⟩; exact ⟨⟨by omega, h2⟩, h3⟩
theorem fpL_two {a b : Nat} (ha : a < 64) (hb : b < 64) (h0 : 0 < a) (h1 : 0 < b) (h : a &&& b = 0) : (a ∈ fpL (a ||| b) ∧ a ||| b ≠ a ∧ (a ||| b) - a = b) ∨ (b ∈ fpL (a ||| b) ∧ a ||| b ≠ b ∧ (a ||| b) - b = a) := by
  simp only [mem_fpL]
  have k : ∀ a ∈ List.range 64, ∀ b ∈ List.range 64, 0 < a → 0 < b → a &&& b = 0 → ((a ≤ a ||| b ∧ subL a (a ||| b) = true ∧ a &&& lowN (a ||| b) ≠ 0) ∧ a ||| b ≠ a ∧ (a ||| b) - a = b) ∨ ((b ≤ a ||| b ∧ subL b (a ||| b) = true ∧ b &&& lowN (a ||| b) ≠ 0) ∧ a ||| b ≠ b ∧ (a ||| b) - b = a) := by decide +kernel
  exact k a (List.mem_range.mpr ha) b (List.mem_range.mpr hb) h0 h1 h
def ptAt (t r : Nat → Int) (l e : Nat) : Int := t e + if e ≠ l then r (l - e) else 0
structure IsPt (r ts : List Int) : Prop where
  len : r.length = ts.length
  no : gt r 0 = 0
  up : ∀ l, 0 < l → l < ts.length → ∀ e ∈ fpL l, ptAt (gt ts) (gt r) l e ≤ gt r l
  at_ : ∀ l, 0 < l → l < ts.length → ∃ e ∈ fpL l, gt r l = ptAt (gt ts) (gt r) l e
theorem IsPt.eq_iff {n : Nat} {r ts : List Int} (h : IsPt r ts) (hT : Tab n ts) : r = ts ↔ pairsL ts = [] := by
  have h64 : ts.length ≤ 64 := hT.le
  have t0 : gt ts 0 = 0 := by
    have := hT.no
    unfold gt; rw [List.getD_eq_getElem?_getD, this]; rfl
  rw [joins_pairs hT]
  constructor
  · rintro rfl a b h1 h2 h3 h4 h5
    rw [← hT.len] at h3 h4
    have hl : a ||| b < r.length := by rw [hT.len]; exact or_lt (by rw [← hT.len]; exact h3) (by rw [← hT.len]; exact h4)
    have hp : 0 < a ||| b := Nat.lt_of_lt_of_le h1 Nat.left_le_or
    rcases fpL_two (by omega) (by omega) h1 h2 h5 with ⟨m, ne, e⟩ | ⟨m, ne, e⟩
    · have := h.up (a ||| b) hp hl a m
      unfold ptAt at this
      rw [if_pos (fun z => ne z.symm), e] at this
      exact this
    · have := h.up (a ||| b) hp hl b m
      unfold ptAt at this
      rw [if_pos (fun z => ne z.symm), e] at this
      omega
  · intro hj
    have key : ∀ l, l < ts.length → gt r l = gt ts l := by
      intro l
      induction l using Nat.strongRecOn with
      | ind l ih =>
        intro hl
        by_cases h0 : l = 0
        · subst h0; rw [h.no, t0]
        · have h0 : 0 < l := by omega
          have up := h.up l h0 hl l (fpL_self (by omega) h0)
          unfold ptAt at up
          rw [if_neg (fun z => z rfl)] at up
          obtain ⟨e, he, q⟩ := h.at_ l h0 hl
          obtain ⟨g1, g2, g3⟩ := fpL_in (by omega) he
          unfold ptAt at q
          by_cases hel : e = l
          · subst hel
            rw [if_neg (fun z => z rfl)] at q
            omega
          · rw [if_pos hel] at q
            obtain ⟨g4, g5, g6, g7⟩ := g3 hel
            rw [ih (l - e) g5 (by omega)] at q
            have := hj e (l - e) g1 g4 (by rw [← hT.len]; omega) (by rw [← hT.len]; omega) g6
            rw [g7] at this
            omega
    refine List.ext_getElem h.len fun i h1 h2 => ?_
    have := key i h2
    rw [gt_at h1, gt_at h2] at this
    exact this
/-- gifts do not matter -/
theorem pairs_gifts {n : Nat} {a b : List Int} (ha : Tab n a) (hb : Tab n b) {g : Nat → Int} (hg : ∀ x y, x < 2 ^ n → y < 2 ^ n → x &&& y = 0 → g (x ||| y) = g x + g y) (e : ∀ l, l < 2 ^ n → gt b l = gt a l + g l) : pairsL b = [] ↔ pairsL a = [] := by
  rw [joins_pairs ha, joins_pairs hb]
  constructor
  · intro h x y h1 h2 h3 h4 h5
    have := h x y h1 h2 h3 h4 h5
    rw [e _ h3, e _ h4, e _ (or_lt h3 h4), hg x y h3 h4 h5] at this
    omega
  · intro h x y h1 h2 h3 h4 h5
    have := h x y h1 h2 h3 h4 h5
    rw [e _ h3, e _ h4, e _ (or_lt h3 h4), hg x y h3 h4 h5]
    omega
theorem gsum_or (gs : List Int) {x y : Nat} (hx : x < 64) (hy : y < 64) (h : x &&& y = 0) : gsum gs (x ||| y) = gsum gs x + gsum gs y := by
  have k : ∀ x ∈ List.range 64, ∀ y ∈ List.range 64, x &&& y = 0 → (memL (x ||| y)).isPerm (memL x ++ memL y) = true := by decide +kernel
  have p := List.isPerm_iff.mp (k x (List.mem_range.mpr hx) y (List.mem_range.mpr hy) h)
  unfold gsum
  rw [perm_sum p, List.map_append, List.sum_append]
end RF
namespace RF
open PySem PySem.Spec PyProof.Rows L2
/-! ### FRACTIONs -/
@[reducible] def frD (q : Rat) : D := .tup [.int q.num, .int q.den]
def frac (n m : Int) : Rat := (n : Rat) / (m : Rat)
/-- told with less than k bits above and below -/
def sz (k : Nat) (q : Rat) : Prop := q.num.natAbs < 2 ^ k ∧ q.den < 2 ^ k
theorem frac_mk {n m : Int} (h : 0 < m) : frac n m = mkRat n m.toNat := by
  unfold frac
  rw [Rat.mkRat_eq_div]
  have : ((m.toNat : Nat) : Rat) = (m : Rat) := by
    rw [← Rat.intCast_natCast, Int.toNat_of_nonneg (by omega)]
  rw [this]
theorem gcd_pos {n m : Int} (h : 0 < m) : 0 < Nat.gcd n.natAbs m.natAbs := Nat.gcd_pos_of_pos_right _ (by omega)
theorem frac_num {n m : Int} (h : 0 < m) : (frac n m).num = n / ((Nat.gcd n.natAbs m.natAbs : Nat) : Int) := by
  rw [frac_mk h, Rat.num_mkRat, if_neg (by omega), Nat.gcd_comm, show m.toNat = m.natAbs by omega]
theorem frac_den {n m : Int} (h : 0 < m) : ((frac n m).den : Int) = m / ((Nat.gcd n.natAbs m.natAbs : Nat) : Int) := by
  rw [frac_mk h, Rat.den_mkRat, if_neg (by omega), Nat.gcd_comm, show m.toNat = m.natAbs by omega]
  have : m = ((m.natAbs : Nat) : Int) := by omega
  rw [this, Int.natAbs_natCast]
  push_cast
  simp
theorem frac_sz {k : Nat} {n m : Int} (h : 0 < m) (h1 : n.natAbs < 2 ^ k) (h2 : m.natAbs < 2 ^ k) : sz k (frac n m) := by
  constructor
  · rw [frac_num h]
    refine Nat.lt_of_le_of_lt ?_ h1
    exact Int.natAbs_ediv_le_natAbs _ _
  · have e := frac_den (n := n) h
    have : ((frac n m).den : Int) ≤ m := by
      rw [e]
      exact Int.ediv_le_self _ (by omega)
    omega
theorem sz_mono {k l : Nat} {q : Rat} (h : k ≤ l) (hq : sz k q) : sz l q := ⟨Nat.lt_of_lt_of_le hq.1 (Nat.pow_le_pow_right (by decide) h), Nat.lt_of_lt_of_le hq.2 (Nat.pow_le_pow_right (by decide) h)⟩
theorem den_ne (q : Rat) : (q.den : Rat) ≠ 0 := by exact_mod_cast q.den_nz
theorem num_den (q : Rat) : (q.num : Rat) = q * q.den := by
  have h := Rat.mkRat_self q
  rw [Rat.mkRat_eq_div] at h
  have h2 : (q.num : Rat) / q.den * q.den = q * q.den := by rw [h]
  rw [Rat.div_mul_cancel (den_ne q)] at h2
  exact h2
theorem frac_self (q : Rat) : frac q.num q.den = q := by
  unfold frac
  have h := Rat.mkRat_self q
  rw [Rat.mkRat_eq_div] at h
  rw [Rat.intCast_natCast]; exact h
theorem den_pos (q : Rat) : (0 : Int) < (q.den : Nat) := by have := q.den_pos; omega
theorem frac_eq {n m : Int} {q : Rat} (h : m ≠ 0) (e : (n : Rat) = q * m) : frac n m = q := by
  unfold frac
  have : (m : Rat) ≠ 0 := by exact_mod_cast h
  rw [e]
  grind
theorem add_frac (a b : Rat) : frac (a.num * b.den + b.num * a.den) (a.den * b.den) = a + b := by
  refine frac_eq (by have := den_pos a; have := den_pos b; exact Int.ne_of_gt (Int.mul_pos (den_pos a) (den_pos b))) ?_
  have h1 := num_den a
  have h2 := num_den b
  push_cast
  rw [h1, h2]
  grind
theorem sub_frac (a b : Rat) : frac (a.num * b.den - b.num * a.den) (a.den * b.den) = a - b := by
  refine frac_eq (Int.ne_of_gt (Int.mul_pos (den_pos a) (den_pos b))) ?_
  have h1 := num_den a
  have h2 := num_den b
  push_cast
  rw [h1, h2]
  grind
theorem mul_frac (a b : Rat) : frac (a.num * b.num) (a.den * b.den) = a * b := by
  refine frac_eq (Int.ne_of_gt (Int.mul_pos (den_pos a) (den_pos b))) ?_
  have h1 := num_den a
  have h2 := num_den b
  push_cast
  rw [h1, h2]
  grind
theorem natAbs_mul_lt {a b : Int} {k l : Nat} (ha : a.natAbs < 2 ^ k) (hb : b.natAbs < 2 ^ l) : (a * b).natAbs < 2 ^ (k + l) := by
  rw [Int.natAbs_mul, Nat.pow_add]
  rcases Nat.eq_zero_or_pos b.natAbs with h | h
  · rw [h, Nat.mul_zero]; exact Nat.mul_pos (Nat.two_pow_pos _) (Nat.two_pow_pos _)
  · exact Nat.mul_lt_mul_of_lt_of_le ha (Nat.le_of_lt hb) (Nat.two_pow_pos _)
theorem natAbs_add_lt {a b : Int} {k : Nat} (ha : a.natAbs < 2 ^ k) (hb : b.natAbs < 2 ^ k) : (a + b).natAbs < 2 ^ (k + 1) := by
  rw [Nat.pow_succ]; omega
theorem natAbs_sub_lt {a b : Int} {k : Nat} (ha : a.natAbs < 2 ^ k) (hb : b.natAbs < 2 ^ k) : (a - b).natAbs < 2 ^ (k + 1) := by
  rw [Nat.pow_succ]; omega
theorem pow_mono {k l n : Nat} (h : k ≤ l) (hn : n < 2 ^ k) : n < 2 ^ l := Nat.lt_of_lt_of_le hn (Nat.pow_le_pow_right (by decide) h)
theorem sz_add {k l : Nat} {a b : Rat} (ha : sz k a) (hb : sz l b) : sz (k + l + 1) (a + b) := by
  rw [← add_frac a b]
  refine frac_sz (Int.mul_pos (den_pos a) (den_pos b)) (natAbs_add_lt (natAbs_mul_lt ha.1 (by simpa using hb.2)) (by rw [Nat.add_comm k l]; exact natAbs_mul_lt hb.1 (by simpa using ha.2))) ?_
  exact pow_mono (Nat.le_succ _) (natAbs_mul_lt (by simpa using ha.2) (by simpa using hb.2))
theorem sz_sub {k l : Nat} {a b : Rat} (ha : sz k a) (hb : sz l b) : sz (k + l + 1) (a - b) := by
  rw [← sub_frac a b]
  refine frac_sz (Int.mul_pos (den_pos a) (den_pos b)) (natAbs_sub_lt (natAbs_mul_lt ha.1 (by simpa using hb.2)) (by rw [Nat.add_comm k l]; exact natAbs_mul_lt hb.1 (by simpa using ha.2))) ?_
  exact pow_mono (Nat.le_succ _) (natAbs_mul_lt (by simpa using ha.2) (by simpa using hb.2))
theorem sz_mul {k l : Nat} {a b : Rat} (ha : sz k a) (hb : sz l b) : sz (k + l) (a * b) := by
  rw [← mul_frac a b]
  exact frac_sz (Int.mul_pos (den_pos a) (den_pos b)) (natAbs_mul_lt ha.1 hb.1) (natAbs_mul_lt (by simpa using ha.2) (by simpa using hb.2))
theorem sz_int {k : Nat} {i : Int} (h : i.natAbs < 2 ^ (k + 1)) : sz (k + 1) (i : Rat) := ⟨by simpa using h, by rw [Rat.den_intCast, Nat.pow_succ]; have := Nat.two_pow_pos k; omega⟩
theorem sz_zero {k : Nat} : sz (k + 1) 0 := ⟨Nat.two_pow_pos _, by rw [Nat.pow_succ]; have := Nat.two_pow_pos k; show 1 < _; omega⟩
/-! sizes as the layer asks -/
theorem bits_of {i : Int} {k : Nat} (h : i.natAbs < 2 ^ k) : Builtin.Int.intBits i ≤ k := by
  unfold Builtin.Int.intBits
  by_cases h0 : i = 0
  · subst h0; simp
  · have h2 : (i == 0) = false := by simpa using h0
    rw [h2]
    simp only [Bool.false_eq_true, if_false]
    have := (Nat.log2_lt (by omega : i.natAbs ≠ 0)).mpr h
    omega
theorem mul_b {i j : Int} {k l : Nat} (h1 : i.natAbs < 2 ^ k) (h2 : j.natAbs < 2 ^ l) (h : k + l ≤ 100000000) : mulOk i j := .inr (by
  have := bits_of h1
  have := bits_of h2
  unfold CMulX
  omega)
theorem log_b {i : Int} {k : Nat} (h : i.natAbs < 2 ^ k) (h0 : i ≠ 0) : i.natAbs.log2 < k := (Nat.log2_lt (by omega : i.natAbs ≠ 0)).mpr h
theorem div_b {i j : Int} {k : Nat} (h0 : 0 < j) (h1 : j.natAbs < 2 ^ k) (h : k ≤ 9000) : divOk i j := .inr ⟨h0, by have := log_b h1 (by omega); omega⟩
theorem sz_n {k : Nat} {q : Rat} (h : sz k q) : q.num.natAbs < 2 ^ k := h.1
theorem sz_d {k : Nat} {q : Rat} (h : sz k q) : ((q.den : Nat) : Int).natAbs < 2 ^ k := by rw [Int.natAbs_natCast]; exact h.2
/-! what the program's own functions promise -/
def lid : Nat := 9000
@[reducible] def S_frac : Spec := fun ds M _ Q => ∃ n m : Int, ds = [.int n, .int m] ∧ 0 < m ∧ m.natAbs < 2 ^ lid ∧ Q (frD (frac n m)) M
def big : Nat := 4000
@[reducible] def S_fsum : Spec := fun ds M _ Q => ∃ a b : Rat, ds = [frD a, frD b] ∧ sz big a ∧ sz big b ∧ Q (frD (a + b)) M
@[reducible] def S_fless : Spec := fun ds M _ Q => ∃ a b : Rat, ds = [frD a, frD b] ∧ sz big a ∧ sz big b ∧ Q (frD (a - b)) M
@[reducible] def S_ftimes : Spec := fun ds M _ Q => ∃ a b : Rat, ds = [frD a, frD b] ∧ sz big a ∧ sz big b ∧ Q (frD (a * b)) M
/-- sums of FRACTIONs of k bits, n of them at most -/
def tot (l : List Rat) : Rat := l.sum
theorem tot_nil : tot [] = 0 := rfl
theorem tot_cons (a : Rat) (l : List Rat) : tot (a :: l) = a + tot l := by unfold tot; exact List.sum_cons
theorem tot_app (l m : List Rat) : tot (l ++ m) = tot l + tot m := by
  induction l with
  | nil => rw [List.nil_append, tot_nil, Rat.zero_add]
  | cons a l ih => rw [List.cons_append, tot_cons, tot_cons, ih, Rat.add_assoc]
theorem tot_one (a : Rat) : tot [a] = a := by rw [tot_cons, tot_nil, Rat.add_zero]
theorem tot_sz {k : Nat} : ∀ {l : List Rat}, (∀ a ∈ l, sz k a) → sz (l.length * (k + 1) + 1) (tot l)
  | [], _ => by rw [tot_nil]; exact sz_zero
  | a :: l, h => by
    rw [tot_cons]
    refine sz_mono ?_ (sz_add (h a (by simp)) (tot_sz (l := l) fun b hb => h b (by simp [hb])))
    rw [List.length_cons, Nat.add_mul]; omega
@[reducible] def S_total : Spec := fun ds M _ Q => ∃ l : List Rat, (ds = [.lst (l.map frD)] ∨ ds = [.tup (l.map frD)]) ∧ (∀ a ∈ l, sz big a) ∧ (∀ i, i < l.length → sz big (tot (l.take i))) ∧ Q (frD (tot l)) M
theorem lid_of {k n : Nat} (h : n < 2 ^ k) (hk : k ≤ 9000) : n < 2 ^ lid := pow_mono hk h
theorem den_mul_lid {a b : Rat} (ha : sz big a) (hb : sz big b) : ((a.den : Int) * (b.den : Int)).natAbs < 2 ^ lid := lid_of (natAbs_mul_lt (sz_d ha) (sz_d hb)) (by decide)
theorem mulNN {a b : Rat} (ha : sz big a) (hb : sz big b) : mulOk a.num b.num := mul_b (sz_n ha) (sz_n hb) (by decide)
theorem mulND {a b : Rat} (ha : sz big a) (hb : sz big b) : mulOk a.num (b.den : Int) := mul_b (sz_n ha) (sz_d hb) (by decide)
theorem mulDN {a b : Rat} (ha : sz big a) (hb : sz big b) : mulOk (a.den : Int) b.num := mul_b (sz_d ha) (sz_n hb) (by decide)
theorem mulDD {a b : Rat} (ha : sz big a) (hb : sz big b) : mulOk (a.den : Int) (b.den : Int) := mul_b (sz_d ha) (sz_d hb) (by decide)
theorem den2_pos (a b : Rat) : (0 : Int) < (a.den : Int) * (b.den : Int) := Int.mul_pos (den_pos a) (den_pos b)
theorem frD_nice {n : Nat} (q : Rat) : nice (n + 1) (frD q) = true := by simp [nice, nices, nice_int]
theorem frDs_nice {n : Nat} (l : List Rat) : nices (n + 1) (l.map frD) = true := nices_map fun q _ => frD_nice q
theorem frD_inj {a b : Rat} (h1 : a.num = b.num) (h2 : (a.den : Int) = b.den) : a = b := Rat.ext h1 (by omega)
theorem eqB_fr {a b : Rat} : eqB (frD a) (frD b) = decide (a = b) := by
  rw [Bool.eq_iff_iff]
  simp only [eqB, eqBs, Bool.and_eq_true, beq_iff_eq, decide_eq_true_eq, and_true]
  constructor
  · rintro ⟨h1, h2⟩; exact frD_inj h1 h2
  · rintro rfl; exact ⟨rfl, rfl⟩
theorem eqBs_fr : ∀ {a b : List Rat}, eqBs (a.map frD) (b.map frD) = decide (a = b)
  | [], [] => by simp [eqBs]
  | [], _ :: _ => by simp [eqBs]
  | _ :: _, [] => by simp [eqBs]
  | x :: a, y :: b => by
    rw [List.map_cons, List.map_cons]
    show (eqB (frD x) (frD y) && eqBs (a.map frD) (b.map frD)) = _
    rw [eqB_fr, eqBs_fr (a := a) (b := b), Bool.eq_iff_iff]
    simp
theorem eqFr {a b : Rat} : eqOk (frD a) (frD b) (decide (a = b)) := by
  have := eqOk_nice (x := frD a) (y := frD b) (frD_nice a) (frD_nice b)
  rwa [eqB_fr] at this
theorem eqFrs {a b : List Rat} : eqOk (.tup (a.map frD)) (.tup (b.map frD)) (decide (a = b)) := by
  have := eqOk_nice (x := .tup (a.map frD)) (y := .tup (b.map frD)) (by simp only [nice]; exact frDs_nice _) (by simp only [nice]; exact frDs_nice _)
  simp only [eqB, eqBs_fr] at this
  exact this
theorem atI_fr {l : List Rat} {i : Nat} (h : i < l.length) : atI (l.map frD) (i : Int) = some (frD l[i]) := by
  rw [atI_map, atI_get' h]; rfl
theorem frD_0 : frD 0 = .tup [.int 0, .int 1] := rfl
theorem frD_1 : frD 1 = .tup [.int 1, .int 1] := rfl
theorem frD_int (i : Int) : frD (i : Rat) = .tup [.int i, .int 1] := by
  unfold frD; rw [Rat.num_intCast, Rat.den_intCast]; rfl
theorem frac_one (i : Int) : frac i 1 = (i : Rat) := frac_eq (by decide) (by push_cast; grind)
/-! ### sums -/
theorem tot_add {α : Type} (l : List α) (f g : α → Rat) : tot (l.map fun a => f a + g a) = tot (l.map f) + tot (l.map g) := by
  induction l with
  | nil => simp only [List.map_nil, tot_nil]; grind
  | cons a l ih => simp only [List.map_cons, tot_cons, ih]; grind
theorem tot_sub {α : Type} (l : List α) (f g : α → Rat) : tot (l.map fun a => f a - g a) = tot (l.map f) - tot (l.map g) := by
  induction l with
  | nil => simp only [List.map_nil, tot_nil]; grind
  | cons a l ih => simp only [List.map_cons, tot_cons, ih]; grind
theorem tot_mul {α : Type} (l : List α) (c : Rat) (f : α → Rat) : tot (l.map fun a => c * f a) = c * tot (l.map f) := by
  induction l with
  | nil => exact (Rat.mul_zero c).symm
  | cons a l ih => simp only [List.map_cons, tot_cons, ih]; grind
theorem tot_zero {α : Type} (l : List α) : tot (l.map fun _ => (0 : Rat)) = 0 := by
  induction l with
  | nil => rfl
  | cons a l ih => simp only [List.map_cons, tot_cons, ih]; grind
theorem tot_swap {α β : Type} (l : List α) (m : List β) (f : α → β → Rat) : tot (l.map fun a => tot (m.map fun b => f a b)) = tot (m.map fun b => tot (l.map fun a => f a b)) := by
  induction l with
  | nil => exact (tot_zero m).symm
  | cons a l ih => simp only [List.map_cons, tot_cons, ih, tot_add]
theorem tot_filter {α : Type} (l : List α) (p : α → Bool) (f : α → Rat) : tot ((l.filter p).map f) = tot (l.map fun a => if p a = true then f a else 0) := by
  induction l with
  | nil => rfl
  | cons a l ih =>
    rw [List.map_cons, tot_cons, ← ih]
    cases h : p a with
    | true => rw [List.filter_cons_of_pos h, List.map_cons, tot_cons]; simp
    | false => rw [List.filter_cons_of_neg (by simp [h])]; simp [Rat.zero_add]
theorem tot_congr {α : Type} {l : List α} {f g : α → Rat} (h : ∀ a ∈ l, f a = g a) : tot (l.map f) = tot (l.map g) := by rw [List.map_congr_left h]
theorem tot_perm {l m : List Rat} (h : l.Perm m) : tot l = tot m := by
  induction h with
  | nil => rfl
  | cons a _ ih => rw [tot_cons, tot_cons, ih]
  | swap a b l => simp only [tot_cons]; grind
  | trans _ _ ih1 ih2 => exact ih1.trans ih2
theorem tot_ints (l : List Int) : tot (l.map fun i : Int => (i : Rat)) = ((l.sum : Int) : Rat) := by
  induction l with
  | nil => rfl
  | cons a l ih => rw [List.map_cons, tot_cons, ih, List.sum_cons]; push_cast; rfl
theorem tot_const {α : Type} (l : List α) (c : Rat) : tot (l.map fun _ => c) = l.length * c := by
  induction l with
  | nil => rw [List.map_nil, tot_nil, List.length_nil]; grind
  | cons a l ih => rw [List.map_cons, tot_cons, ih, List.length_cons]; push_cast; grind
end RF
namespace RF
open PySem PySem.Spec PyProof.Rows L2
/-! ### parts of N -/
/-- q is z / N with z up to B -/
def InN (N B : Nat) (q : Rat) : Prop := ∃ z : Int, (z : Rat) = q * N ∧ z.natAbs ≤ B
section
variable {N B C : Nat} {a b q : Rat}
theorem InN.mono (h : InN N B q) (hc : B ≤ C) : InN N C q := by
  obtain ⟨z, e, l⟩ := h
  exact ⟨z, e, Nat.le_trans l hc⟩
theorem InN.add (h : InN N B a) (h' : InN N C b) : InN N (B + C) (a + b) := by
  obtain ⟨z, e, l⟩ := h
  obtain ⟨y, f, m⟩ := h'
  exact ⟨z + y, by push_cast; rw [e, f]; grind, by omega⟩
theorem InN.sub (h : InN N B a) (h' : InN N C b) : InN N (B + C) (a - b) := by
  obtain ⟨z, e, l⟩ := h
  obtain ⟨y, f, m⟩ := h'
  exact ⟨z - y, by push_cast; rw [e, f]; grind, by omega⟩
theorem InN.zero : InN N B 0 := ⟨0, by push_cast; grind, by simp⟩
theorem InN.int {i : Int} (h : i.natAbs * N ≤ B) : InN N B (i : Rat) := ⟨i * N, by push_cast; rfl, by rw [Int.natAbs_mul]; simpa using h⟩
theorem InN.sum : ∀ {l : List Rat}, (∀ a ∈ l, InN N B a) → InN N (l.length * B) (tot l)
  | [], _ => by rw [tot_nil]; exact InN.zero
  | a :: l, h => by
    rw [tot_cons]
    refine ((h a (by simp)).add (InN.sum (l := l) fun b hb => h b (by simp [hb]))).mono ?_
    rw [List.length_cons, Nat.add_mul]; omega
theorem InN.sz {k : Nat} (h : InN N B q) (h0 : 0 < N) (hN : N < 2 ^ k) (hB : B < 2 ^ k) : sz k q := by
  obtain ⟨z, e, l⟩ := h
  have e2 : frac z N = q := frac_eq (by omega) (by rw [e, Rat.intCast_natCast])
  rw [← e2]
  exact frac_sz (by omega) (by omega) (by simpa using hN)
theorem InN.frac {n : Int} {m : Nat} (h0 : 0 < m) (hm : m ∣ N) (h : n.natAbs * N ≤ B) : InN N B (frac n m) := by
  obtain ⟨c, rfl⟩ := hm
  refine ⟨n * c, ?_, ?_⟩
  · unfold RF.frac
    have : ((m : Int) : Rat) ≠ 0 := by exact_mod_cast (by omega : m ≠ 0)
    push_cast at this ⊢
    grind
  · rw [Int.natAbs_mul, Int.natAbs_natCast]
    refine Nat.le_trans (Nat.mul_le_mul_left _ ?_) h
    exact Nat.le_mul_of_pos_left _ h0
end
/-! ### potentials -/
/-- the part of each of a lot's people of its dividend -/
def wt (ds : List Int) (e : Nat) : Rat := frac (gt ds e) (max 1 (memL e).length : Nat)
def potF (ds : List Int) (l : Nat) : Rat := tot ((lotsL l).map (wt ds))
structure IsPot (n : Nat) (p : Nat → Rat) (t : Nat → Int) : Prop where
  no : p 0 = 0
  eq : ∀ l, 0 < l → l < 2 ^ n → tot ((memL l).map fun k => p l - p (l - 2 ^ k)) = (t l : Rat)
theorem wt_mul (ds : List Int) {e : Nat} (h : 0 < (memL e).length) : ((memL e).length : Rat) * wt ds e = (gt ds e : Rat) := by
  unfold wt
  rw [Nat.max_eq_right (by omega)]
  unfold frac
  have : (((memL e).length : Int) : Rat) ≠ 0 := by exact_mod_cast (by omega : (memL e).length ≠ 0)
  push_cast at this ⊢
  grind
theorem memL_pos {l : Nat} (h : l < 64) (h0 : 0 < l) : 0 < (memL l).length := fin64 (P := fun l => 0 < l → 0 < (memL l).length) (by decide +kernel) h h0
theorem lots_without {l k : Nat} (h : l < 64) (hk : k ∈ memL l) : (lotsL l).filter (fun e => !bitB e k) = lotsL (l - 2 ^ k) ∧ 2 ^ k ≤ l := fin64 (P := fun l => ∀ k ∈ memL l, (lotsL l).filter (fun e => !bitB e k) = lotsL (l - 2 ^ k) ∧ 2 ^ k ≤ l) (by decide +kernel) h k hk
theorem mem_sub {l e : Nat} (h : l < 64) (he : e ∈ lotsL l) : (memL l).filter (fun k => bitB e k) = memL e := fin64 (P := fun l => ∀ e ∈ lotsL l, (memL l).filter (fun k => bitB e k) = memL e) (by decide +kernel) h e he
theorem tot_part {α : Type} (l : List α) (p : α → Bool) (f : α → Rat) : tot (l.map f) = tot ((l.filter p).map f) + tot ((l.filter fun a => !p a).map f) := by
  rw [tot_filter, tot_filter, ← tot_add]
  refine tot_congr fun a _ => ?_
  cases p a <;> simp <;> grind
theorem potF_less (ds : List Int) {l k : Nat} (h : l < 64) (hk : k ∈ memL l) : potF ds l - potF ds (l - 2 ^ k) = tot (((lotsL l).filter fun e => bitB e k).map (wt ds)) := by
  unfold potF
  rw [tot_part (lotsL l) (fun e => bitB e k), (lots_without h hk).1]
  grind
theorem gt_getD (ds : List Int) (e : Nat) : ds.getD e 0 = gt ds e := rfl
theorem dv_zero {n : Nat} {ds ts : List Int} (h : IsDv ds ts) (hT : Tab n ts) : gt ds 0 = 0 := by
  have h0 := h.zero (by have := hT.ge; omega)
  rw [gt_getD, gt_getD] at h0
  rw [h0]
  have := hT.no
  unfold gt; rw [List.getD_eq_getElem?_getD, this]; rfl
theorem lotsL_cons {l : Nat} (h : l < 64) : ∃ r, lotsL l = 0 :: r ∧ ∀ e ∈ r, 0 < (memL e).length := by
  have k := fin64 (P := fun l => (lotsL l).head? = some 0 ∧ ∀ e ∈ (lotsL l).tail, 0 < (memL e).length) (by decide +kernel) h
  cases q : lotsL l with
  | nil => rw [q] at k; cases k.1
  | cons a r =>
    rw [q] at k
    have : a = 0 := by simpa using k.1
    subst this
    exact ⟨r, rfl, k.2⟩
theorem sum_wt {n : Nat} {ds ts : List Int} (h : IsDv ds ts) (hT : Tab n ts) {l : Nat} (hl : l < ts.length) : tot ((lotsL l).map fun e => ((memL e).length : Rat) * wt ds e) = (gt ts l : Rat) := by
  have h64 := hT.le
  rw [← gt_getD ts, ← h.eq l hl]
  unfold lsum
  rw [← tot_ints, List.map_map]
  refine tot_congr fun e he => ?_
  obtain ⟨r, hr, hp⟩ := lotsL_cons (l := l) (by omega)
  rw [hr] at he
  rcases List.mem_cons.mp he with rfl | he
  · show ((memL 0).length : Rat) * wt ds 0 = ((ds.getD 0 0 : Int) : Rat)
    rw [gt_getD, dv_zero h hT]
    have : (memL 0).length = 0 := by decide
    rw [this]; push_cast; grind
  · rw [wt_mul ds (hp e he)]; rfl
theorem pot_of_dv {n : Nat} {ds ts : List Int} (h : IsDv ds ts) (hT : Tab n ts) : IsPot n (potF ds) (gt ts) := by
  have h64 := hT.le
  constructor
  · show tot ((lotsL 0).map (wt ds)) = 0
    have e : lotsL 0 = [0] := by decide
    rw [e, List.map_cons, List.map_nil, tot_one]
    unfold wt
    rw [dv_zero h hT]
    exact frac_eq (by omega) (by push_cast; grind)
  · intro l h0 hl
    rw [← hT.len] at hl
    rw [tot_congr (f := fun k => potF ds l - potF ds (l - 2 ^ k)) (g := fun k => tot ((lotsL l).map fun e => if bitB e k = true then wt ds e else 0)) fun k hk => by rw [potF_less ds (by omega) hk, tot_filter]]
    rw [tot_swap, ← sum_wt h hT hl]
    refine tot_congr fun e he => ?_
    rw [← tot_filter (memL l) (fun k => bitB e k) (fun _ => wt ds e), mem_sub (by omega) he, tot_const]
theorem pot_uniq {n : Nat} {p q : Nat → Rat} {t : Nat → Int} (hn : n ≤ 6) (hp : IsPot n p t) (hq : IsPot n q t) : ∀ l, l < 2 ^ n → p l = q l := by
  intro l
  induction l using Nat.strongRecOn with
  | ind l ih =>
    intro hl
    have h64 : l < 64 := Nat.lt_of_lt_of_le hl (pow64 hn)
    by_cases h0 : l = 0
    · subst h0; rw [hp.no, hq.no]
    · have e1 := hp.eq l (by omega) hl
      have e2 := hq.eq l (by omega) hl
      rw [tot_sub, tot_const] at e1 e2
      have e3 : tot ((memL l).map fun k => p (l - 2 ^ k)) = tot ((memL l).map fun k => q (l - 2 ^ k)) := tot_congr fun k hk => by
        have h1 := (lots_without h64 hk).2
        have h2 : 0 < 2 ^ k := Nat.two_pow_pos k
        exact ih (l - 2 ^ k) (by omega) (by omega)
      have hm : ((memL l).length : Rat) ≠ 0 := by
        have := memL_pos h64 (by omega)
        exact_mod_cast (by omega : (memL l).length ≠ 0)
      have e4 : ((memL l).length : Rat) * p l = (memL l).length * q l := by rw [e3] at e1; grind
      grind
/-! sizes of dividends, potentials -/
theorem nine_sum {l : Nat} (h : l < 64) : ((lotsB l).map fun e => 9 ^ (memL e).length).sum + 1 ≤ 9 ^ (memL l).length := fin64 (P := fun l => ((lotsB l).map fun e => 9 ^ (memL e).length).sum + 1 ≤ 9 ^ (memL l).length) (by decide +kernel) h
theorem nine_le {l : Nat} (h : l < 64) : 9 ^ (memL l).length ≤ 531441 := fin64 (P := fun l => 9 ^ (memL l).length ≤ 531441) (by decide +kernel) h
theorem sum_natAbs {α : Type} (f : α → Int) (g : α → Nat) (c : Nat) : ∀ {l : List α}, (∀ a ∈ l, (f a).natAbs ≤ c * g a) → ((l.map f).sum).natAbs ≤ c * (l.map g).sum
  | [], _ => by simp
  | a :: l, h => by
    have h1 := h a (by simp)
    have h2 := sum_natAbs f g c (l := l) fun b hb => h b (by simp [hb])
    rw [List.map_cons, List.map_cons, List.sum_cons, List.sum_cons, Nat.mul_add]
    omega
theorem dv_bound {n : Nat} {ds ts : List Int} (h : IsDv ds ts) (hT : Tab n ts) : ∀ l, l < ts.length → (gt ds l).natAbs ≤ 9999 * 9 ^ (memL l).length := by
  intro l
  induction l using Nat.strongRecOn with
  | ind l ih =>
    intro hl
    have h64 := hT.le
    have e := h.eq l hl
    rw [lsum_eq, gt_getD, gt_getD] at e
    have hw := hT.wor ts[l] (List.getElem_mem _)
    rw [← gt_at hl] at hw
    have hb : (bsum ds l).natAbs ≤ 9999 * ((lotsB l).map fun e => 9 ^ (memL e).length).sum := sum_natAbs (fun e => ds.getD e 0) _ _ fun e he => ih e (lotsB_lt he) (Nat.lt_trans (lotsB_lt he) hl)
    have := nine_sum (l := l) (by omega)
    have h9 : 9999 * (((lotsB l).map fun e => 9 ^ (memL e).length).sum + 1) ≤ 9999 * 9 ^ (memL l).length := Nat.mul_le_mul_left _ this
    omega
def wB : Nat := 9999 * 531441 * 60
theorem wt_in {n : Nat} {ds ts : List Int} (h : IsDv ds ts) (hT : Tab n ts) {e : Nat} (he : e < ts.length) : InN 60 wB (wt ds e) := by
  have h64 := hT.le
  have h1 := dv_bound h hT e he
  have h2 := nine_le (l := e) (by omega)
  have h3 : 9999 * 9 ^ (memL e).length ≤ 9999 * 531441 := Nat.mul_le_mul_left _ h2
  have hd : max 1 (memL e).length ∣ 60 := fin64 (P := fun e => max 1 (memL e).length ∣ 60) (by decide +kernel) (by omega)
  refine InN.frac (by omega) hd ?_
  unfold wB
  omega
theorem lotsL_card {l : Nat} (h : l < 64) : (lotsL l).length ≤ 64 := fin64 (P := fun l => (lotsL l).length ≤ 64) (by decide +kernel) h
theorem potF_in {n : Nat} {ds ts : List Int} (h : IsDv ds ts) (hT : Tab n ts) {l : Nat} (hl : l < ts.length) : InN 60 (64 * wB) (potF ds l) := by
  have h64 := hT.le
  refine (InN.sum fun a ha => ?_).mono (Nat.mul_le_mul_right _ (by rw [List.length_map]; exact lotsL_card (by omega)))
  obtain ⟨e, he, rfl⟩ := List.mem_map.mp ha
  exact wt_in h hT (by have := lotsL_le he; omega)
theorem in_sz {B : Nat} {q : Rat} (h : InN 60 B q) (hB : B < 2 ^ 80) : sz 80 q := h.sz (by decide) (by decide) hB
theorem sz_big {k : Nat} {q : Rat} (h : sz k q) (hk : k ≤ 4000 := by decide) : sz big q := sz_mono hk h
/-! fair shares -/
def fairF (n : Nat) (ds : List Int) (k : Nat) : Rat := tot (((List.range (2 ^ n)).filter fun e => bitB e k).map (wt ds))
theorem fair_pot {n : Nat} (hn : n ≤ 6) (ds : List Int) {k : Nat} (hk : k < n) : fairF n ds k = potF ds (2 ^ n - 1) - potF ds (2 ^ n - 1 - 2 ^ k) := by
  have c : ∀ n ∈ List.range 7, ∀ k ∈ List.range n, lotsL (2 ^ n - 1) = List.range (2 ^ n) ∧ k ∈ memL (2 ^ n - 1) ∧ 2 ^ n - 1 < 64 := by decide +kernel
  obtain ⟨c1, c2, c3⟩ := c n (List.mem_range.mpr (by omega)) k (List.mem_range.mpr hk)
  rw [potF_less ds c3 c2, c1]; rfl
/-! sub-tables -/
/-- the sub-table's lots, as lots of the table -/
theorem wlL_facts {l : Nat} (h : l < 64) : (wlL l).length = 2 ^ (memL l).length ∧ (memL l).length ≤ 6 ∧ (wlL l)[0]? = some 0 ∧ ∀ e ∈ List.range (2 ^ (memL l).length), (wlL l).getD e 0 ≤ l ∧ memL ((wlL l).getD e 0) = (memL e).map (fun k => (memL l).getD k 0) ∧ ∀ k ∈ memL e, (wlL l).getD (e - 2 ^ k) 0 = (wlL l).getD e 0 - 2 ^ ((memL l).getD k 0) :=
  fin64 (P := fun l => (wlL l).length = 2 ^ (memL l).length ∧ (memL l).length ≤ 6 ∧ (wlL l)[0]? = some 0 ∧ ∀ e ∈ List.range (2 ^ (memL l).length), (wlL l).getD e 0 ≤ l ∧ memL ((wlL l).getD e 0) = (memL e).map (fun k => (memL l).getD k 0) ∧ ∀ k ∈ memL e, (wlL l).getD (e - 2 ^ k) 0 = (wlL l).getD e 0 - 2 ^ ((memL l).getD k 0)) (by decide +kernel) h
def subT (ts : List Int) (l : Nat) : List Int := (wlL l).map (gt ts)
theorem subT_tab {n : Nat} {ts : List Int} (hT : Tab n ts) {l : Nat} (h0 : 0 < l) (hl : l < ts.length) : Tab (memL l).length (subT ts l) := by
  have h64 := hT.le
  obtain ⟨f1, f2, f3, f4⟩ := wlL_facts (l := l) (by omega)
  refine ⟨memL_pos (by omega) h0, f2, by unfold subT; rw [List.length_map, f1], ?_, fun t ht => ?_⟩
  · unfold subT
    rw [List.getElem?_map, f3]
    have := hT.no
    show some (gt ts 0) = _
    unfold gt; rw [List.getD_eq_getElem?_getD, this]; rfl
  · obtain ⟨e, he, rfl⟩ := List.mem_map.mp ht
    obtain ⟨i, hi, rfl⟩ := List.mem_iff_getElem.mp he
    have := (f4 i (List.mem_range.mpr (by omega))).1
    rw [List.getD_eq_getElem?_getD, List.getElem?_eq_getElem hi] at this
    have hlt : (wlL l)[i] < ts.length := by have : (wlL l)[i] ≤ l := this; omega
    rw [gt_at hlt]
    exact hT.wor _ (List.getElem_mem _)
theorem subT_gt {ts : List Int} {l e : Nat} (h : e < (wlL l).length) : gt (subT ts l) e = gt ts ((wlL l).getD e 0) := by
  unfold subT
  have e1 : (wlL l).getD e 0 = (wlL l)[e] := by rw [List.getD_eq_getElem?_getD, List.getElem?_eq_getElem h]; rfl
  rw [gt_at (by rw [List.length_map]; exact h), List.getElem_map, e1]
theorem pot_sub {n : Nat} {p : Nat → Rat} {ts : List Int} (hT : Tab n ts) (hp : IsPot n p (gt ts)) {l : Nat} (h0 : 0 < l) (hl : l < ts.length) : IsPot (memL l).length (fun e => p ((wlL l).getD e 0)) (gt (subT ts l)) := by
  have h64 := hT.le
  obtain ⟨f1, f2, f3, f4⟩ := wlL_facts (l := l) (by omega)
  constructor
  · have : (wlL l).getD 0 0 = 0 := by rw [List.getD_eq_getElem?_getD, f3]; rfl
    show p ((wlL l).getD 0 0) = 0
    rw [this]; exact hp.no
  · intro e he hel
    obtain ⟨g1, g2, g3⟩ := f4 e (List.mem_range.mpr hel)
    have hpos : 0 < (wlL l).getD e 0 := by
      have h1 : 0 < (memL e).length := memL_pos (by have := pow64 f2; omega) he
      have h2 := congrArg List.length g2
      rw [List.length_map] at h2
      rcases Nat.eq_zero_or_pos ((wlL l).getD e 0) with z | z
      · rw [z] at h2
        have : (memL 0).length = 0 := by decide
        omega
      · exact z
    have := hp.eq _ hpos (by rw [← hT.len]; omega)
    rw [subT_gt (by omega), ← this, g2, List.map_map]
    refine tot_congr fun k hk => ?_
    rw [g3 k hk]; rfl
theorem pot_add {n : Nat} {p q : Nat → Rat} {t u v : Nat → Int} (hp : IsPot n p t) (hq : IsPot n q u) (h : ∀ l, l < 2 ^ n → v l = t l + u l) : IsPot n (fun l => p l + q l) v := by
  constructor
  · show p 0 + q 0 = 0
    rw [hp.no, hq.no]; grind
  · intro l h0 hl
    rw [h l hl]
    push_cast
    rw [← hp.eq l h0 hl, ← hq.eq l h0 hl, ← tot_add]
    refine tot_congr fun k _ => ?_
    grind
theorem smB2_frs {l : List Rat} (h : l.length ≤ 5000) : smB2 2 (.tup (l.map frD)) = true := by
  show (decide ((l.map frD).length ≤ 5000) && (l.map frD).all (smB2 1)) = true
  rw [Bool.and_eq_true, List.length_map]
  refine ⟨decide_eq_true h, List.all_eq_true.mpr fun x hx => ?_⟩
  obtain ⟨q, _, rfl⟩ := List.mem_map.mp hx
  rfl
theorem within_lots {n l : Nat} (hn : n ≤ 6) (hl : l < 2 ^ n) : lotsL l = 0 :: (List.range' 1 (2 ^ n - 1)).filter fun e => subL e l := by
  have h : ∀ n ∈ List.range 7, ∀ l ∈ List.range (2 ^ n), lotsL l = 0 :: (List.range' 1 (2 ^ n - 1)).filter fun e => subL e l := by decide +kernel
  exact h n (List.mem_range.mpr (by omega)) l (List.mem_range.mpr hl)
theorem full_mem {n k : Nat} (hn : n ≤ 6) (hk : k < n) : Builtin.bitXor ((2 ^ n - 1 : Nat) : Int) ((2 ^ k : Nat) : Int) = ((2 ^ n - 1 - 2 ^ k : Nat) : Int) ∧ 2 ^ k ≤ 2 ^ n - 1 := by
  have h : ∀ n ∈ List.range 7, ∀ k ∈ List.range n, Builtin.bitXor ((2 ^ n - 1 : Nat) : Int) ((2 ^ k : Nat) : Int) = ((2 ^ n - 1 - 2 ^ k : Nat) : Int) ∧ 2 ^ k ≤ 2 ^ n - 1 := by decide +kernel
  exact h n (List.mem_range.mpr (by omega)) k (List.mem_range.mpr hk)
end RF
namespace RF
open PySem PySem.Spec PyProof.Rows L2
/-! ### defs as values -/
def lookS : List (Str × Spec) → Str → Option Spec
  | [], _ => none
  | p :: r, x => if p.1 = x then some p.2 else lookS r x
def FnsOk (Φ : Nat → Spec) : List (Str × Nat) → List (Str × Spec) → Prop
  | [], [] => True
  | p :: r, q :: t => p.1 = q.1 ∧ Φ p.2 = q.2 ∧ FnsOk Φ r t
  | _, _ => False
theorem FnsOk.at {Φ : Nat → Spec} : ∀ {cs : List (Str × Nat)} {sp : List (Str × Spec)} {x : Str} {S : Spec}, FnsOk Φ cs sp → lookS sp x = some S → ∃ k, lookF cs x = some k ∧ Φ k = S
  | [], [], _, _, _, h => nomatch (show (none : Option Spec) = some _ from h)
  | p :: r, q :: t, x, S, h, e => by
    obtain ⟨h1, h2, h3⟩ := h
    have e : (if q.1 = x then some q.2 else lookS t x) = some S := e
    show ∃ k, (if p.1 = x then some p.2 else lookF r x) = some k ∧ Φ k = S
    rw [h1]
    by_cases hx : q.1 = x
    · rw [if_pos hx] at e
      cases e
      exact ⟨p.2, by rw [if_pos hx], h2⟩
    · rw [if_neg hx] at e
      rw [if_neg hx]
      exact FnsOk.at h3 e
  | [], _ :: _, _, _, h, _ => h.elim
  | _ :: _, [], _, _, h, _ => h.elim
theorem callC_of {d : D} {cs : List (Str × Nat)} {k : Nat → Prop} {x : Str} {n : Nat} (e : d = .fn x) (h : lookF cs x = some n) (hk : k n) : callC d cs k := by
  subst e
  show fnAt (lookF cs x) k
  rw [h]; exact hk
/-! ### FRACTIONs of anything, shares -/
def okV2 (d : D) : Bool := okV d && (match d with | .tup xs => xs.all okV | _ => true)
def isFr : D → Bool
  | .tup [.int n, .int m] => decide (0 < m) && (Nat.gcd n.natAbs m.natAbs == 1)
  | _ => false
theorem isFr_frD (q : Rat) : isFr (frD q) = true := by
  show (decide (0 < (q.den : Int)) && (Nat.gcd q.num.natAbs ((q.den : Int)).natAbs == 1)) = true
  rw [Int.natAbs_natCast, decide_eq_true (den_pos q), Bool.true_and, beq_iff_eq]
  exact q.reduced
theorem frD_of {d : D} (h : isFr d = true) : ∃ q : Rat, d = frD q := by
  unfold isFr at h
  split at h
  · rename_i n m
    rw [Bool.and_eq_true, decide_eq_true_eq, beq_iff_eq] at h
    refine ⟨⟨n, m.toNat, by omega, ?_⟩, ?_⟩
    · show Nat.gcd _ _ = 1
      rw [show m.toNat = m.natAbs by omega]; exact h.2
    · show D.tup [.int n, .int m] = .tup [.int n, .int ((m.toNat : Nat) : Int)]
      rw [Int.toNat_of_nonneg (by omega)]
  · cases h
@[reducible] def S_isfr : Spec := fun ds M _ Q => ∃ d, ds = [d] ∧ okV2 d = true ∧ Q (.bl (isFr d)) M
/-- the first index of a wrong one -/
def wrongL (v : D) (m : Nat) (P : D → Bool) : List D := match v with
  | .tup xs => if xs.length = m then (((xs.zipIdx.filter fun p => !P p.1).map fun p => D.int (p.2 : Nat))).take 1 else [.non]
  | _ => [.non]
theorem wrongL_nil {xs : List D} {m : Nat} {P : D → Bool} (hl : xs.length = m) (h : ∀ x ∈ xs, P x = true) : wrongL (.tup xs) m P = [] := by
  show (if xs.length = m then (((xs.zipIdx.filter fun p => !P p.1).map fun p => D.int (p.2 : Nat))).take 1 else [.non]) = []
  rw [if_pos hl]
  have : (xs.zipIdx.filter fun p => !P p.1) = [] := List.filter_eq_nil_iff.mpr fun p hp => by
    have := List.mem_zipIdx hp
    have hm : p.1 ∈ xs := by rw [this.2.2]; exact List.getElem_mem _
    rw [h p.1 hm]; simp
  rw [this]; rfl
@[reducible] def shD (sh : List Rat) : D := .tup (sh.map frD)
/-- shares of n people, of sums that are told with less than 4000 bits -/
structure Sh (n : Nat) (sh : List Rat) : Prop where
  len : sh.length = n
  s : ∀ q ∈ sh, sz 600 q
theorem isFr_all (sh : List Rat) : ∀ x ∈ sh.map frD, isFr x = true := fun x hx => by
  obtain ⟨q, _, rfl⟩ := List.mem_map.mp hx
  exact isFr_frD q
theorem okV2_sh (sh : List Rat) : okV2 (shD sh) = true := by
  show (true && (sh.map frD).all okV) = true
  rw [Bool.true_and, List.all_eq_true]
  intro x hx
  obtain ⟨q, _, rfl⟩ := List.mem_map.mp hx
  rfl
def shF (sh : List Rat) (l : Nat) : Rat := tot ((memL l).map fun p => sh.getD p 0)
def lackF (ts : List Int) (sh : List Rat) (l : Nat) : Rat := (gt ts l : Rat) - shF sh l
theorem getD_at {sh : List Rat} {p : Nat} (h : p < sh.length) : sh.getD p 0 = sh[p] := by rw [List.getD_eq_getElem?_getD, List.getElem?_eq_getElem h]; rfl
theorem sh_zip {n : Nat} {sh : List Rat} (hn : n ≤ 6) (hl : sh.length = n) {l : Nat} (h : l < 2 ^ n) : (sh.zipIdx.filter fun p => bitB l p.2).map (fun p => p.1) = (memL l).map fun p => sh.getD p 0 := by
  rw [memL_ok n hn l h, ← hl]
  have e : sh.zipIdx = (List.range sh.length).map fun i => (sh.getD i 0, i) := by
    refine List.ext_getElem (by simp) fun i h1 h2 => ?_
    simp only [List.getElem_zipIdx, List.getElem_map, List.getElem_range]
    rw [getD_at (by simpa using h1)]; simp
  rw [e, List.filter_map, List.map_map]
  rfl
theorem Sh.at {n : Nat} {sh : List Rat} (h : Sh n sh) {p : Nat} (hp : p < n) : sz 600 (sh.getD p 0) := by
  rw [getD_at (by rw [h.len]; exact hp)]; exact h.s _ (List.getElem_mem _)
theorem Sh.sum {n : Nat} {sh : List Rat} (h : Sh n sh) (hn : n ≤ 6) {ps : List Nat} (hp : ∀ p ∈ ps, p < n) (hl : ps.length ≤ 6) : sz 3607 (tot (ps.map fun p => sh.getD p 0)) := by
  refine sz_mono ?_ (tot_sz (k := 600) fun a ha => ?_)
  · rw [List.length_map]; omega
  · obtain ⟨p, hp', rfl⟩ := List.mem_map.mp ha
    exact h.at (hp p hp')
theorem Sh.lot {n : Nat} {sh : List Rat} (h : Sh n sh) (hn : n ≤ 6) {l : Nat} (hl : l < 2 ^ n) : sz 3607 (shF sh l) :=
  h.sum hn (fun p hp => memL_lt hn hl hp) (by have := memL_len hn hl; omega)
theorem sz_tab {n : Nat} {ts : List Int} (hT : Tab n ts) {l : Nat} (hl : l < ts.length) : sz 15 (gt ts l : Rat) := by
  have := hT.wor ts[l] (List.getElem_mem _)
  rw [gt_at hl]
  exact sz_int (k := 14) (by show _ < 32768; omega)
theorem Sh.lack {n : Nat} {ts : List Int} {sh : List Rat} (h : Sh n sh) (hT : Tab n ts) {l : Nat} (hl : l < ts.length) : sz 3700 (lackF ts sh l) :=
  sz_mono (by decide) (sz_sub (sz_tab hT hl) (h.lot hT.six (by rw [← hT.len]; exact hl)))
theorem memL_full {n : Nat} (hn : n ≤ 6) : memL (2 ^ n - 1) = List.range n := by
  have h : ∀ n ∈ List.range 7, memL (2 ^ n - 1) = List.range n := by decide +kernel
  exact h n (List.mem_range.mpr (by omega))
theorem shF_full {n : Nat} {sh : List Rat} (hn : n ≤ 6) (hl : sh.length = n) : shF sh (2 ^ n - 1) = tot sh := by
  unfold shF
  rw [memL_full hn, ← hl]
  congr 1
  refine List.ext_getElem (by simp) fun i h1 h2 => ?_
  rw [List.getElem_map, List.getElem_range, getD_at h2]
def lackL (ts : List Int) (sh : List Rat) : List Nat := (List.range' 1 (ts.length - 1)).filter fun l => decide (0 < lackF ts sh l)
def keptB (ts : List Int) (sh : List Rat) : Bool := decide (lackF ts sh (ts.length - 1) = 0) && (lackL ts sh).isEmpty
theorem shF_0 (sh : List Rat) : shF sh 0 = 0 := by unfold shF; rw [show memL 0 = [] by decide]; rfl
theorem tab_0 {n : Nat} {ts : List Int} (hT : Tab n ts) : gt ts 0 = 0 := by
  have := hT.no
  unfold gt; rw [List.getD_eq_getElem?_getD, this]; rfl
theorem lackF_0 {n : Nat} {ts : List Int} (hT : Tab n ts) (sh : List Rat) : lackF ts sh 0 = 0 := by
  unfold lackF
  rw [shF_0, tab_0 hT]; grind
theorem lackL_range {n : Nat} {ts : List Int} (hT : Tab n ts) (sh : List Rat) : (List.range ts.length).filter (fun l => decide (0 < lackF ts sh l)) = lackL ts sh := by
  have tg := hT.ge
  unfold lackL
  rw [List.range_eq_range', show ts.length = (ts.length - 1) + 1 by omega, List.range'_succ, List.filter_cons_of_neg (by rw [lackF_0 hT]; simp)]
  simp
theorem num_le {a b : Rat} : decide (a.num * b.den ≤ b.num * a.den) = decide (a ≤ b) := by
  rw [Bool.eq_iff_iff, decide_eq_true_eq, decide_eq_true_eq, Rat.le_iff]
theorem num_lt {a b : Rat} : decide (b.num * a.den < a.num * b.den) = decide (b < a) := by
  rw [Bool.eq_iff_iff, decide_eq_true_eq, decide_eq_true_eq, Rat.lt_iff]
theorem num_pos {a : Rat} : 0 < a.num ↔ 0 < a := by
  rw [Rat.lt_iff]; simp
@[reducible] def S_above : Spec := fun ds M _ Q => ∃ a b : Rat, ds = [frD a, frD b] ∧ sz big a ∧ sz big b ∧ Q (.bl (decide (b < a))) M
@[reducible] def S_upto : Spec := fun ds M _ Q => ∃ a b : Rat, ds = [frD a, frD b] ∧ sz big a ∧ sz big b ∧ Q (.bl (decide (a ≤ b))) M
/-! ### shares of parts of nb -/
def nb : Nat := 6000000000000000000000
structure ShN (n B : Nat) (sh : List Rat) : Prop where
  len : sh.length = n
  s : ∀ q ∈ sh, InN nb B q
theorem ShN.sh {n B : Nat} {sh : List Rat} (h : ShN n B sh) (hB : B < 2 ^ 130) : Sh n sh := ⟨h.len, fun q hq => sz_mono (k := 130) (by decide) ((h.s q hq).sz (by decide) (by decide) hB)⟩
theorem ShN.mono {n B C : Nat} {sh : List Rat} (h : ShN n B sh) (hc : B ≤ C) : ShN n C sh := ⟨h.len, fun q hq => (h.s q hq).mono hc⟩
theorem ShN.put {n B : Nat} {sh : List Rat} (h : ShN n B sh) {x : Rat} (hx : InN nb B x) (p : Nat) : ShN n B (sh.set p x) := ⟨by rw [List.length_set]; exact h.len, fun q hq => by
  rcases List.mem_or_eq_of_mem_set hq with h' | h'
  · exact h.s q h'
  · subst h'; exact hx⟩
theorem ShN.at {n B : Nat} {sh : List Rat} (h : ShN n B sh) {p : Nat} (hp : p < n) : InN nb B (sh.getD p 0) := by
  rw [getD_at (by rw [h.len]; exact hp)]; exact h.s _ (List.getElem_mem _)
theorem ShN.lot {n B : Nat} {sh : List Rat} (h : ShN n B sh) (hn : n ≤ 6) {l : Nat} (hl : l < 2 ^ n) : InN nb (6 * B) (shF sh l) := by
  refine (InN.sum fun a ha => ?_).mono (Nat.mul_le_mul_right _ (by rw [List.length_map]; have := memL_len hn hl; omega))
  obtain ⟨p, hp, rfl⟩ := List.mem_map.mp ha
  exact h.at (memL_lt hn hl hp)
theorem tab_nb {n : Nat} {ts : List Int} (hT : Tab n ts) {l : Nat} (hl : l < ts.length) : InN nb (9999 * nb) (gt ts l : Rat) := by
  have := hT.wor ts[l] (List.getElem_mem _)
  rw [gt_at hl]
  exact InN.int (Nat.mul_le_mul_right _ (by omega))
theorem nb_big {B : Nat} {q : Rat} (h : InN nb B q) (hB : B < 2 ^ 130) : sz big q := sz_big (k := 130) (h.sz (by decide) (by decide) hB)
/-- one share otherwise -/
theorem tot_set {sh : List Rat} {p : Nat} {x : Rat} (hp : p < sh.length) : ∀ {ps : List Nat}, ps.Nodup → tot (ps.map fun k => (sh.set p x).getD k 0) = tot (ps.map fun k => sh.getD k 0) + if p ∈ ps then x - sh.getD p 0 else 0
  | [], _ => by simp [tot_nil, Rat.zero_add]
  | k :: ps, h => by
    obtain ⟨h1, h2⟩ := List.nodup_cons.mp h
    rw [List.map_cons, List.map_cons, tot_cons, tot_cons, tot_set hp h2]
    by_cases e : k = p
    · subst e
      have e1 : (sh.set k x).getD k 0 = x := by
        rw [List.getD_eq_getElem?_getD, List.getElem?_set_self hp]; rfl
      rw [e1, if_neg h1, if_pos (by simp)]; grind
    · have e1 : (sh.set p x).getD k 0 = sh.getD k 0 := by
        rw [List.getD_eq_getElem?_getD, List.getElem?_set_ne (fun z => e z.symm), ← List.getD_eq_getElem?_getD]
      have e2 : p ∈ k :: ps ↔ p ∈ ps := by rw [List.mem_cons]; exact ⟨fun z => z.elim (fun z => absurd z.symm e) id, .inr⟩
      simp only [e1, e2]
      grind
theorem memL_nodup (l : Nat) : (memL l).Nodup := (memL_up l).imp fun h => Nat.ne_of_lt h
theorem shF_set {sh : List Rat} {p l : Nat} {x : Rat} (hp : p < sh.length) (hm : p ∈ memL l) : shF (sh.set p x) l = shF sh l + (x - sh.getD p 0) := by
  unfold shF
  rw [tot_set hp (memL_nodup l), if_pos hm]
theorem put_set {α : Type} {xs : List α} {p : Nat} {x : α} (hp : p < xs.length) : xs.take p ++ [x] ++ xs.drop (p + 1) = xs.set p x := by
  rw [List.set_eq_take_append_cons_drop, if_pos hp, List.append_assoc]; rfl
theorem fr_lit {n m : Int} (h : isFr (.tup [.int n, .int m]) = true) : D.tup [.int n, .int m] = frD (frac n m) := by
  have h : (decide (0 < m) && (Nat.gcd n.natAbs m.natAbs == 1)) = true := h
  rw [Bool.and_eq_true, decide_eq_true_eq, beq_iff_eq] at h
  unfold frD
  rw [frac_num h.1, frac_den h.1, h.2]
  simp
theorem eqNilT {xs : List D} (h : nices 60 xs = true) : eqOk (.tup xs) (.tup []) xs.isEmpty := by
  have := eqOk_nice (x := .tup xs) (y := .tup []) (by simp only [nice]; exact nices_of fun x hx => nice_mono x (n := 60) (by decide) (eqNil.nices_mem h x hx)) rfl
  have e : eqB (.tup xs) (.tup []) = xs.isEmpty := by simp only [eqB]; cases xs <;> simp [eqBs]
  rwa [e] at this
theorem map_set' {α β : Type} (f : α → β) (l : List α) (p : Nat) (x : α) : (l.map f).set p (f x) = (l.set p x).map f := List.map_set.symm
theorem gt_app {r : List Int} {x : Int} {l : Nat} (h : l < r.length) : gt (r ++ [x]) l = gt r l := by
  unfold gt; rw [List.getD_eq_getElem?_getD, List.getD_eq_getElem?_getD, List.getElem?_append_left h]
theorem gt_end {r : List Int} {x : Int} : gt (r ++ [x]) r.length = x := by
  unfold gt; rw [List.getD_eq_getElem?_getD, List.getElem?_append_right (Nat.le_refl _)]; simp
/-- a list that may hold anything, beside [] -/
theorem eqNilA {xs : List D} : eqOk (.lst xs) (.lst []) xs.isEmpty := by
  cases xs with
  | nil => exact eqOk_nice rfl rfl
  | cons x xs => exact .inr ⟨_, _, rfl, rfl, by simp, rfl⟩
/-- the run, looked at in three parts -/
theorem run3 {α β1 β2 β3 β4 : Type} {o : Option α} {f1 : α → β1} {f2 : α → β2} {f3 : α → β3} {f4 : α → β4} {a1 : β1} {a2 : β2} {a3 : β3} {a4 : β4}
    (h : o.map (fun x => (f1 x, f2 x)) = some (a1, a2)) (h3 : o.map f3 = some a3) (h4 : o.map f4 = some a4) : o.map (fun x => (f1 x, f2 x, (f3 x, f4 x))) = some (a1, a2, (a3, a4)) := by
  cases o with
  | none => cases h
  | some x =>
    cases h
    cases h3
    cases h4
    rfl
/-- the body of a for -/
@[reducible] def forB : CS → List CS
  | .for_ _ _ b => b
  | _ => []
@[reducible] def nthB : List CS → Nat → List CS
  | s :: _, 0 => forB s
  | _ :: r, n + 1 => nthB r n
  | [], _ => []
theorem bit_rest : ∀ n, n ≤ 6 → ∀ l, l < 2 ^ n → ∀ p, p < n → bitB (2 ^ n - 1 - l) p = !bitB l p := by
  have h : ∀ n ∈ List.range 7, ∀ l ∈ List.range (2 ^ n), ∀ p ∈ List.range n, bitB (2 ^ n - 1 - l) p = !bitB l p := by decide +kernel
  exact fun n hn l hl p hp => h n (List.mem_range.mpr (by omega)) l (List.mem_range.mpr hl) p (List.mem_range.mpr hp)
theorem tot_parts {α : Type} (f : α → Rat) (p q : α → Bool) : ∀ (l : List α), (∀ x ∈ l, q x = !p x) → tot ((l.filter p).map f) + tot ((l.filter q).map f) = tot (l.map f)
  | [], _ => by simp only [List.filter_nil, List.map_nil, tot_nil]; grind
  | x :: l, h => by
    have ih := tot_parts f p q l fun y hy => h y (by simp [hy])
    have hx := h x (by simp)
    rw [List.map_cons, tot_cons, List.filter_cons, List.filter_cons, hx]
    cases p x <;> simp [tot_cons] <;> grind
/-- a lot and the other people -/
theorem shF_rest {n : Nat} {sh : List Rat} (hn : n ≤ 6) (hl : sh.length = n) {l : Nat} (h : l < 2 ^ n) : shF sh l + shF sh (2 ^ n - 1 - l) = tot sh := by
  rw [← shF_full hn hl]
  unfold shF
  rw [memL_full hn, memL_ok n hn l h, memL_ok n hn (2 ^ n - 1 - l) (by omega)]
  exact tot_parts _ _ _ _ fun p hp => bit_rest n hn l h p (List.mem_range.mp hp)
theorem lack_sum (ts : List Int) (sh : List Rat) (l : Nat) : shF sh l + lackF ts sh l = (gt ts l : Rat) := by unfold lackF; grind
end RF
namespace RF
open PySem PySem.Spec PyProof.Rows L2
@[reducible] def S_members : Spec := fun ds M _ Q => ∃ l : Nat, l < 64 ∧ ds = [.int l] ∧ Q (.lst (natsD (memL l))) M
@[reducible] def S_size : Spec := fun ds M _ Q => ∃ l : Nat, l < 64 ∧ ds = [.int l] ∧ Q (.int (memL l).length) M
theorem smB_ints {j : Nat} {l : List Int} (h : l.length ≤ 5000) : smB (j + 1) (.tup (l.map D.int)) = true := by
  show (decide ((l.map D.int).length ≤ 5000) && (l.map D.int).all (smB j)) = true
  rw [Bool.and_eq_true, List.length_map]
  refine ⟨decide_eq_true h, List.all_eq_true.mpr fun x hx => ?_⟩
  obtain ⟨n, _, rfl⟩ := List.mem_map.mp hx
  exact smB_int
theorem sum_b {lo hi : Int} : ∀ {l : List Int}, (∀ x ∈ l, lo ≤ x ∧ x ≤ hi) → l.length * lo ≤ l.sum ∧ l.sum ≤ l.length * hi
  | [], _ => by simp
  | x :: l, h => by
    have h1 := h x (by simp)
    have h2 := sum_b (l := l) fun y hy => h y (by simp [hy])
    have e1 : ((l.length + 1 : Nat) : Int) * hi = l.length * hi + hi := by push_cast; rw [Int.add_mul, Int.one_mul]
    have e2 : ((l.length + 1 : Nat) : Int) * lo = l.length * lo + lo := by push_cast; rw [Int.add_mul, Int.one_mul]
    rw [List.sum_cons, List.length_cons, e1, e2]
    omega
mutual
/-- the same, of one sort -/
def sameB : D → D → Bool
  | .tup xs, .tup ys => sameBs xs ys
  | .lst xs, .lst ys => sameBs xs ys
  | .non, .non => true
  | .bl a, .bl b => decide (b = a)
  | .int i, .int j => decide (i = j)
  | .str x, .str y => decide (x = y)
  | _, _ => false
def sameBs : List D → List D → Bool
  | [], [] => true
  | x :: xs, y :: ys => sameB x y && sameBs xs ys
  | _, _ => false
end
theorem sameBs_len : ∀ {xs ys : List D}, xs.length ≠ ys.length → sameBs xs ys = false
  | [], [], h => absurd rfl h
  | [], _ :: _, _ => by simp [sameBs]
  | _ :: _, [], _ => by simp [sameBs]
  | x :: xs, y :: ys, h => by
    simp only [sameBs]
    rw [sameBs_len (xs := xs) (ys := ys) (fun z => h (by simp [z])), Bool.and_false]
theorem sameBs_all : ∀ {xs ys : List D}, xs.length = ys.length → ((List.range ys.length).map fun k => sameB (xs.getD k .non) (ys.getD k .non)).all id = sameBs xs ys
  | [], [], _ => by simp [sameBs]
  | [], _ :: _, h => by simp at h
  | _ :: _, [], h => by simp at h
  | x :: xs, y :: ys, h => by
    simp only [sameBs]
    rw [List.length_cons, List.range_succ_eq_map, List.map_cons, List.all_cons, List.map_map, ← sameBs_all (xs := xs) (ys := ys) (by simpa using h)]
    rfl
theorem asBls_map (bs : List Bool) : asBls (bs.map D.bl) = some bs := by
  induction bs with
  | nil => rfl
  | cons b bs ih => show (asBls (bs.map D.bl)).map _ = _; rw [ih]; rfl
/-- what p adds to l, with q and without -/
def addB (ts : List Int) (p q l : Nat) : Prop := l.testBit p = false → l.testBit q = false → gt ts (l ||| 2 ^ p) - gt ts l ≤ gt ts (l ||| 2 ^ q ||| 2 ^ p) - gt ts (l ||| 2 ^ q)
theorem bend_add {n : Nat} {ts : List Int} : Bend n (gt ts) ↔ ∀ p q, p < n → q < n → p ≠ q → ∀ l, l < 2 ^ n → addB ts p q l := by
  have e : ∀ l p q : Nat, l ||| 2 ^ q ||| 2 ^ p = l ||| 2 ^ p ||| 2 ^ q := fun l p q => by rw [Nat.or_assoc, Nat.or_comm (2 ^ q), ← Nat.or_assoc]
  constructor
  · intro h p q hp hq hpq l hl z1 z2
    have := h p q l hp hq hpq hl z1 z2
    rw [e]; omega
  · intro h p q l hp hq hpq hl z1 z2
    have := h p q hp hq hpq l hl z1 z2
    rw [e] at this; omega
theorem bend_add2 {n : Nat} {ts : List Int} : Bend n (gt ts) ↔ ∀ p q, p < q → q < n → ∀ l, l < 2 ^ n → addB ts p q l := by
  rw [bend_add]
  constructor
  · intro h p q hpq hq l hl
    exact h p q (by omega) hq (by omega) l hl
  · intro h p q hp hq hpq l hl
    rcases Nat.lt_or_gt_of_ne hpq with g | g
    · exact h p q g hq l hl
    · intro z1 z2
      have := h q p g hp l hl z2 z1
      rw [Nat.or_assoc, Nat.or_comm (2 ^ q), ← Nat.or_assoc]
      rw [Nat.or_assoc, Nat.or_comm (2 ^ p), ← Nat.or_assoc] at this
      have e : l ||| 2 ^ q ||| 2 ^ p = l ||| 2 ^ p ||| 2 ^ q := by rw [Nat.or_assoc, Nat.or_comm (2 ^ q), ← Nat.or_assoc]
      rw [e] at this
      omega
theorem lc2Go_list {g : D → (DEnv → Prop) → Prop} {t : DEnv → Mem → (Bool → Mem → Prop) → Prop} {inn : DEnv → List D → Mem → QL → Prop} {M : Mem} {QL' : QL} {α : Type} (f : α → D) (r : α → List D) {l : List α}
    (hs : ∀ done x rest, done ++ x :: rest = l → ∀ (K : QL) (K' : Mem → Prop), K (done.flatMap r ++ r x) M → g (f x) fun ρ => t ρ M fun b M1 => if b = true then inn ρ (done.flatMap r) M1 K else K' M1)
    (hq : QL' (l.flatMap r) M) : lc2Go g t inn (l.map f) [] M QL' := by
  have go : ∀ rest done, done ++ rest = l → lc2Go g t inn (rest.map f) (done.flatMap r) M QL' := by
    intro rest
    induction rest with
    | nil =>
      intro done e
      rw [List.append_nil] at e
      subst e
      exact hq
    | cons x rest ih =>
      intro done e
      refine hs done x rest e (fun acc' M2 => lc2Go g t inn (rest.map f) acc' M2 QL') (fun M1 => lc2Go g t inn (rest.map f) (done.flatMap r) M1 QL') ?_
      have := ih (done ++ [x]) (by rw [List.append_assoc]; exact e)
      rw [List.flatMap_append, List.flatMap_cons, List.flatMap_nil, List.append_nil] at this
      exact this
  exact go l [] rfl
theorem smB2_int {j : Nat} {i : Int} : smB2 j (.int i) = true := by cases j <;> rfl
theorem smB2_bl {j : Nat} {b : Bool} : smB2 j (.bl b) = true := by cases j <;> rfl
theorem sameB_int {i : Int} : sameB (.int i) (.int i) = true := by simp [sameB]
theorem sameB_bl {b : Bool} : sameB (.bl b) (.bl b) = true := by simp [sameB]
theorem sameB_pr {a b c d : Int} : sameB (.tup [.int a, .int b]) (.tup [.int c, .int d]) = decide (a = c ∧ b = d) := by simp [sameB, sameBs]
theorem or_or_and {l p q : Nat} (hpq : p ≠ q) (h1 : l.testBit p = false) (h2 : l.testBit q = false) : (l ||| 2 ^ p) ||| (l ||| 2 ^ q) = l ||| 2 ^ q ||| 2 ^ p ∧ (l ||| 2 ^ p) &&& (l ||| 2 ^ q) = l := by
  constructor
  · refine Nat.eq_of_testBit_eq fun i => ?_
    simp only [Nat.testBit_or]
    cases l.testBit i <;> cases (2 ^ p).testBit i <;> cases (2 ^ q).testBit i <;> rfl
  · refine Nat.eq_of_testBit_eq fun i => ?_
    simp only [Nat.testBit_or, Nat.testBit_and, Nat.testBit_two_pow]
    by_cases e1 : p = i
    · subst e1
      have : ¬ q = p := fun z => hpq z.symm
      simp [this, h1]
    · simp [e1]
      cases l.testBit i <;> simp
/-! ### texts of things -/
mutual
/-- lists, tuples up to n deep of None, truths, numbers below 10^12 -/
def okR : Nat → D → Bool
  | _, .non => true
  | _, .bl _ => true
  | _, .int i => decide (i.natAbs < 10 ^ 12)
  | _, .str x => x.cps.toList.all fun c => decide (c < 16 ^ 8)
  | n + 1, .tup xs => okRs n xs
  | n + 1, .lst xs => okRs n xs
  | _, _ => false
def okRs : Nat → List D → Bool
  | _, [] => true
  | n, d :: ds => okR n d && okRs n ds
end
mutual
/-- how many things stand in a thing -/
def bk : D → Nat
  | .tup xs => bks xs
  | .lst xs => bks xs
  | .str x => PyData.bulk (.str x)
  | _ => 0
def bks : List D → Nat
  | [] => 0
  | d :: ds => bk d + 1 + bks ds
end
theorem log_lt {i : Int} (h : i.natAbs < 10 ^ 12) : i.natAbs.log2 < 1920 := by
  by_cases h0 : i.natAbs = 0
  · rw [h0]; decide
  · exact Nat.lt_trans ((Nat.log2_lt h0).mpr (show _ < 2 ^ 40 from Nat.lt_of_lt_of_le h (by decide))) (by decide)
mutual
theorem okR_py : ∀ (n : Nat) (d : D), okR n d = true → ∃ p, py d = some p ∧ p.showable = true ∧ p.depth ≤ n ∧ p.leavesShort 13 = true ∧ p.bulk = bk d
  | n, .non, h => ⟨_, rfl, by simp [PyData.showable], by simp [PyData.depth], by simp [PyData.leavesShort], by simp [PyData.bulk, bk]⟩
  | n, .bl _, h => ⟨_, rfl, by simp [PyData.showable], by simp [PyData.depth], by simp [PyData.leavesShort], by simp [PyData.bulk, bk]⟩
  | n, .int i, h => by
    have h : i.natAbs < 10 ^ 12 := by cases n <;> exact of_decide_eq_true (by simpa [okR] using h)
    exact ⟨_, rfl, by rw [PyData.showable.eq_4]; exact decide_eq_true (log_lt h), by simp [PyData.depth], by rw [PyData.leavesShort.eq_3]; exact decide_eq_true (PyData.shown_int_le h), by simp [PyData.bulk, bk]⟩
  | n + 1, .tup xs, h => by
    obtain ⟨ps, e, s, l, c, b⟩ := okRs_py n xs (by simpa [okR] using h)
    exact ⟨.tuple ps, by show (pys xs).map _ = _; rw [e]; rfl, by simpa [PyData.showable] using s, by simpa [PyData.depth] using l, by simpa [PyData.leavesShort] using c, by simpa [PyData.bulk, bk] using b⟩
  | n + 1, .lst xs, h => by
    obtain ⟨ps, e, s, l, c, b⟩ := okRs_py n xs (by simpa [okR] using h)
    exact ⟨.list ps, by show (pys xs).map _ = _; rw [e]; rfl, by simpa [PyData.showable] using s, by simpa [PyData.depth] using l, by simpa [PyData.leavesShort] using c, by simpa [PyData.bulk, bk] using b⟩
  | 0, .tup _, h => by simp [okR] at h
  | 0, .lst _, h => by simp [okR] at h
  | n, .str x, h => by
    have h : (x.cps.toList.all fun c => decide (c < 16 ^ 8)) = true := by cases n <;> simpa [okR] using h
    exact ⟨_, rfl, by simp [PyData.showable], by simp [PyData.depth], by rw [PyData.leavesShort.eq_4]; exact h, by simp [bk]⟩
  | n, .dct _ _, h => by cases n <;> simp [okR] at h
  | n, .scr _, h => by cases n <;> simp [okR] at h
  | n, .cell _, h => by cases n <;> simp [okR] at h
  | n, .fn _, h => by cases n <;> simp [okR] at h
  | n, .rng _ _, h => by cases n <;> simp [okR] at h
theorem okRs_py : ∀ (n : Nat) (ds : List D), okRs n ds = true → ∃ ps, pys ds = some ps ∧ PyData.showableAll ps = true ∧ PyData.depthAll ps ≤ n ∧ PyData.leavesShortAll 13 ps = true ∧ PyData.bulkAll ps = bks ds
  | n, [], h => ⟨[], rfl, by simp [PyData.showableAll], by simp [PyData.depthAll], by simp [PyData.leavesShortAll], by simp [PyData.bulkAll, bks]⟩
  | n, d :: ds, h => by
    obtain ⟨h1, h2⟩ := and2 (by simpa [okRs] using h : (okR n d && okRs n ds) = true)
    obtain ⟨p, e1, s1, l1, c1, b1⟩ := okR_py n d h1
    obtain ⟨ps, e2, s2, l2, c2, b2⟩ := okRs_py n ds h2
    refine ⟨p :: ps, ?_, by simp [PyData.showableAll, s1, s2], by simp [PyData.depthAll]; omega, by simp [PyData.leavesShortAll, c1, c2], by simp [PyData.bulkAll, bks, b1, b2]⟩
    show ((py d).bind fun p => (pys ds).map fun ps => p :: ps) = _
    rw [e1, e2]; rfl
end
/-- the text of a thing -/
def txD (d : D) : Str := ((py d).getD .none).shown
theorem reprK_of {d : D} {k : Str → Prop} (h : okR 60 d = true) (hb : bk d ≤ 1000000) (hk : k (txD d)) : reprK d k := by
  obtain ⟨p, e, s, l, c, b⟩ := okR_py 60 d h
  refine ⟨p, e, s, l, ?_, ?_⟩
  · have := PyData.shown_le_bulk 13 (by decide) p c
    have := sizeLine_eq
    rw [b] at *
    omega
  · unfold txD at hk; rw [e] at hk; exact hk
theorem okRs_ints {n : Nat} : ∀ {l : List Int}, (∀ i ∈ l, i.natAbs < 10 ^ 12) → okRs n (l.map D.int) = true
  | [], _ => by simp [okRs]
  | i :: l, h => by
    rw [List.map_cons]
    simp only [okRs, Bool.and_eq_true]
    refine ⟨?_, okRs_ints (l := l) fun j hj => h j (by simp [hj])⟩
    cases n <;> (simp only [okR]; exact decide_eq_true (h i (by simp)))
theorem okR_ints {n : Nat} {l : List Int} (h : ∀ i ∈ l, i.natAbs < 10 ^ 12) : okR (n + 1) (.tup (l.map D.int)) = true := by simp only [okR]; exact okRs_ints h
theorem bks_ints (l : List Int) : bks (l.map D.int) = l.length := by
  induction l with
  | nil => rfl
  | cons i l ih => rw [List.map_cons, List.length_cons]; simp only [bks, bk]; omega
theorem natsD_ints (l : List Nat) : natsD l = (l.map fun n : Nat => (n : Int)).map D.int := by unfold natsD; rw [List.map_map]; rfl
theorem okR_nats {n : Nat} {l : List Nat} (h : ∀ i ∈ l, i < 10 ^ 12) : okR (n + 1) (.tup (natsD l)) = true := by
  rw [natsD_ints]
  refine okR_ints fun i hi => ?_
  obtain ⟨j, hj, rfl⟩ := List.mem_map.mp hi
  rw [Int.natAbs_natCast]; exact h j hj
theorem bks_nats (l : List Nat) : bks (natsD l) = l.length := by rw [natsD_ints, bks_ints, List.length_map]
/-- a comprehension over things -/
theorem lcGo_D {g : D → (DEnv → Prop) → Prop} {t : DEnv → Mem → (Bool → Mem → Prop) → Prop} {e : DEnv → Mem → QD → Prop} {QL' : QL} {M : Mem} (p : D → Bool) (r : D → D) {l acc : List D} (hs : ∀ x ∈ l, ∀ (K : QD) (K' : Mem → Prop), (p x = true → K (r x) M) → (p x = false → K' M) → g x fun ρ => t ρ M fun b M1 => if b = true then e ρ M1 K else K' M1)
    (hq : QL' (acc ++ (l.filter p).map r) M) : lcGo g t e l acc M QL' := by
  have := lcGo_keep (g := g) (t := t) (e := e) (QL' := QL') (M := M) (fun d : D => d) p r (l := l) (acc := acc) hs hq
  rwa [List.map_id'] at this
theorem lcGo_Da {g : D → (DEnv → Prop) → Prop} {t : DEnv → Mem → (Bool → Mem → Prop) → Prop} {e : DEnv → Mem → QD → Prop} {QL' : QL} {M : Mem} (r : D → D) {l acc : List D} (hs : ∀ x ∈ l, ∀ (K : QD) (K' : Mem → Prop), K (r x) M → g x fun ρ => t ρ M fun b M1 => if b = true then e ρ M1 K else K' M1)
    (hq : QL' (acc ++ l.map r) M) : lcGo g t e l acc M QL' := by
  have := lcGo_all (g := g) (t := t) (e := e) (QL' := QL') (M := M) (fun d : D => d) r (l := l) (acc := acc) hs hq
  rwa [List.map_id'] at this
def z0B : List D → Bool
  | .int i :: _ => i == 0
  | _ => false
/-- a table: a tuple of 2, 4, .. 64 whole numbers, 0 first, none too great -/
def isTabB : D → Bool
  | .tup xs => !(polF (xs.length : Nat)).isEmpty && ((xs.all fun d => btB d (-9999) 9999) && z0B xs)
  | _ => false
theorem isTab_tab {n : Nat} {ts : List Int} (ht : Tab n ts) : isTabB (tabD ts) = true := by
  show (!(polF ((ts.map D.int).length : Nat)).isEmpty && (((ts.map D.int).all fun d => btB d (-9999) 9999) && z0B (ts.map D.int))) = true
  rw [List.length_map, ht.len, polF_pow ht.one ht.six]
  have h1 : ((ts.map D.int).all fun d => btB d (-9999) 9999) = true := by
    rw [List.all_eq_true]
    intro d hd
    obtain ⟨t, h, rfl⟩ := List.mem_map.mp hd
    have := ht.wor t h
    simp [btB, this]
  rw [h1]
  have := ht.no
  cases ts with
  | nil => cases this
  | cons t r =>
    have : t = 0 := by simpa using this
    subst this; rfl
theorem z0_no {xs : List D} {h : 0 < xs.length} (z : xs[0] ≠ .int 0) : z0B xs = false := by
  match xs, h, z with
  | .int i :: r, _, z =>
    show (i == 0) = false
    rw [beq_eq_false_iff_ne]
    exact fun q => z (by subst q; rfl)
  | .non :: _, _, _ => rfl
  | .bl _ :: _, _, _ => rfl
  | .str _ :: _, _, _ => rfl
  | .tup _ :: _, _, _ => rfl
  | .lst _ :: _, _, _ => rfl
  | .dct _ _ :: _, _, _ => rfl
  | .scr _ :: _, _, _ => rfl
  | .cell _ :: _, _, _ => rfl
  | .fn _ :: _, _, _ => rfl
  | .rng _ _ :: _, _, _ => rfl
@[reducible] def S_istab : Spec := fun ds M _ Q => ∃ v, ds = [v] ∧ okV2 v = true ∧ Q (.bl (isTabB v)) M
theorem polF_in (n : Nat) : (polF (n : Nat)).isEmpty = !decide (n = 2 ∨ n = 4 ∨ n = 8 ∨ n = 16 ∨ n = 32 ∨ n = 64) := by
  unfold polF
  simp only [List.filterMap_cons, List.filterMap_nil]
  by_cases h : n = 2 ∨ n = 4 ∨ n = 8 ∨ n = 16 ∨ n = 32 ∨ n = 64
  · rw [decide_eq_true h]
    rcases h with rfl | rfl | rfl | rfl | rfl | rfl <;> rfl
  · rw [decide_eq_false h]
    have e : ∀ m : Int, m = 2 ∨ m = 4 ∨ m = 8 ∨ m = 16 ∨ m = 32 ∨ m = 64 → ¬ m = (n : Int) := fun m hm => by omega
    have e1 := e ((2 : Int) ^ (1 : Int).toNat) (by decide)
    have e2 := e ((2 : Int) ^ (2 : Int).toNat) (by decide)
    have e3 := e ((2 : Int) ^ (3 : Int).toNat) (by decide)
    have e4 := e ((2 : Int) ^ (4 : Int).toNat) (by decide)
    have e5 := e ((2 : Int) ^ (5 : Int).toNat) (by decide)
    have e6 := e ((2 : Int) ^ (6 : Int).toNat) (by decide)
    rw [if_neg e1, if_neg e2, if_neg e3, if_neg e4, if_neg e5, if_neg e6]; rfl
theorem whole_ints : ∀ {xs : List D}, xs.all whB = true → ∃ ns : List Int, xs = ns.map D.int
  | [], _ => ⟨[], rfl⟩
  | x :: r, ha => by
    rw [List.all_cons, Bool.and_eq_true] at ha
    obtain ⟨ns, e⟩ := whole_ints ha.2
    cases x <;> first | (cases ha.1; done) | skip
    case int i => exact ⟨i :: ns, by rw [e]; rfl⟩
theorem okV2_all {xs : List D} (h : ∀ d ∈ xs, okV d = true) : okV2 (.tup xs) = true := by
  show (true && xs.all okV) = true
  rw [Bool.true_and, List.all_eq_true]; exact h
theorem okV_ints {ts : List Int} : ∀ d ∈ ts.map D.int, okV d = true := fun d hd => by
  obtain ⟨t, _, rfl⟩ := List.mem_map.mp hd
  rfl
theorem stepV_mem {α : Type} {xs : List α} {lo hi : Option Int} {k : Int} {x : α} (h : x ∈ stepV xs lo hi k) : x ∈ xs := by
  unfold stepV at h
  obtain ⟨m, _, e⟩ := List.mem_filterMap.mp h
  exact List.mem_of_getElem? e
theorem stepV_two {α : Type} (xs : List α) (lo : Option Int) (h0 : lo = none ∨ lo = some 1) : (stepV xs lo none ((2 : Nat) : Int)).length ≤ xs.length := by
  unfold stepV
  refine Nat.le_trans (List.length_filterMap_le _ _) ?_
  rw [List.length_range]
  unfold Builtin.Slice.sliceAdjust Builtin.Slice.slicePlaces
  rcases h0 with rfl | rfl
  · simp only [show (((2 : Nat) : Int) < 0) = False from eq_false (by decide), show (((2 : Nat) : Int) > 0) = True from eq_true (by decide), if_true, if_false]
    split <;> omega
  · simp only [show (((2 : Nat) : Int) < 0) = False from eq_false (by decide), show (((2 : Nat) : Int) > 0) = True from eq_true (by decide), show ((1 : Int) < 0) = False from eq_false (by decide), if_true, if_false]
    split <;> omega
theorem tab_of {v : D} (h : isTabB v = true) : ∃ n ts, v = tabD ts ∧ Tab n ts := by
  cases v <;> first | (cases h; done) | skip
  case tup xs =>
    have h : (!(polF (xs.length : Nat)).isEmpty && ((xs.all fun d => btB d (-9999) 9999) && z0B xs)) = true := h
    rw [Bool.and_eq_true, Bool.and_eq_true, polF_in, Bool.not_not, decide_eq_true_eq] at h
    obtain ⟨h1, h2, h3⟩ := h
    have hw : xs.all whB = true := by
      rw [List.all_eq_true] at h2 ⊢
      intro d hd
      have := h2 d hd
      cases d <;> first | rfl | cases this
    obtain ⟨ns, rfl⟩ := whole_ints hw
    rw [List.length_map] at h1
    have hb : ∀ t ∈ ns, -9999 ≤ t ∧ t ≤ 9999 := fun t ht => by
      have := List.all_eq_true.mp h2 (.int t) (List.mem_map.mpr ⟨t, ht, rfl⟩)
      simpa [btB] using this
    have hz : ns[0]? = some 0 := by
      cases ns with
      | nil => cases h3
      | cons n r =>
        have : (n == 0) = true := h3
        simpa using this
    rcases h1 with h | h | h | h | h | h
    · exact ⟨1, ns, rfl, by decide, by decide, h, hz, hb⟩
    · exact ⟨2, ns, rfl, by decide, by decide, h, hz, hb⟩
    · exact ⟨3, ns, rfl, by decide, by decide, h, hz, hb⟩
    · exact ⟨4, ns, rfl, by decide, by decide, h, hz, hb⟩
    · exact ⟨5, ns, rfl, by decide, by decide, h, hz, hb⟩
    · exact ⟨6, ns, rfl, by decide, by decide, h, hz, hb⟩
theorem bit_add {n : Nat} (hn : n ≤ 6) {l p : Nat} (hl : l < 2 ^ n) (hp : p < n) (h : bitB l p = false) : l + 2 ^ p = l ||| 2 ^ p ∧ l + 2 ^ p < 2 ^ n := by
  have key : ∀ n ∈ List.range 7, ∀ l ∈ List.range (2 ^ n), ∀ p ∈ List.range n, bitB l p = false → l + 2 ^ p = l ||| 2 ^ p ∧ l + 2 ^ p < 2 ^ n := by decide +kernel
  exact key n (List.mem_range.mpr (by omega)) l (List.mem_range.mpr hl) p (List.mem_range.mpr hp) h
end RF
namespace RF
open PySem PySem.Spec PyProof.Rows L2
theorem inSeq_ints {n : Int} {l : List Int} {k : Bool → Prop} (h : k (decide (n ∈ l))) : inSeq (.int n) (l.map D.int) k := by
  unfold inSeq
  rw [flat_ints]
  show k (inV (.int n) (l.map V.int))
  have : inV (.int n) (l.map V.int) = decide (n ∈ l) := by
    unfold inV
    rw [Bool.eq_iff_iff]
    simp only [List.any_map, List.any_eq_true, decide_eq_true_eq]
    constructor
    · rintro ⟨m, hm, h⟩
      have : m = n := by simpa [eqV] using h
      exact this ▸ hm
    · intro h
      exact ⟨n, h, by simp [eqV]⟩
  rw [this]; exact h
theorem cut_init {α : Type} (xs : List α) : cutD xs none (some (-1)) = xs.take (xs.length - 1) := by
  unfold cutD
  have e : HT.sIx xs.length xs.length (some (-1)) = xs.length - 1 := by
    show (if ((-1 : Int)) < 0 then ((-1 : Int) + ((xs.length : Nat) : Int)).toNat else min (-1 : Int).toNat xs.length) = _
    rw [if_pos (by decide)]
    omega
  rw [e, HT.sIx_none]
  simp
theorem cut_mid {α : Type} (xs : List α) : cutD xs (some 1) (some (-1)) = (xs.drop 1).take (xs.length - 2) := by
  unfold cutD
  have e : HT.sIx xs.length xs.length (some (-1)) = xs.length - 1 := by
    show (if ((-1 : Int)) < 0 then ((-1 : Int) + ((xs.length : Nat) : Int)).toNat else min (-1 : Int).toNat xs.length) = _
    rw [if_pos (by decide)]
    omega
  have e2 : HT.sIx xs.length 0 (some (1 : Int)) = min 1 xs.length := by
    show (if ((1 : Int)) < 0 then ((1 : Int) + ((xs.length : Nat) : Int)).toNat else min (1 : Int).toNat xs.length) = _
    rw [if_neg (by decide)]; rfl
  rw [e, e2]
  rcases Nat.eq_zero_or_pos xs.length with h | h
  · have : xs = [] := List.eq_nil_of_length_eq_zero h
    subst this; rfl
  · rw [Nat.min_eq_left (show 1 ≤ xs.length by omega), show xs.length - 1 - 1 = xs.length - 2 by omega]
/-! ### votes -/
structure VotT (n : Nat) (ts : List Int) : Prop where
  tab : Tab n ts
  bin : ∀ t ∈ ts, t = 0 ∨ t = 1
  top : gt ts (ts.length - 1) = 1
def b01 : D → Bool
  | .int i => decide (i ∈ ([0, 1] : List Int))
  | _ => false
def lastB (xs : List D) : Bool := match xs.getLast? with
  | some (.int i) => decide (i = 1)
  | _ => false
def isVotB : D → Bool
  | .tup xs => isTabB (.tup xs) && (xs.all b01 && lastB xs)
  | _ => false
theorem b01_ints (ts : List Int) : (ts.map D.int).all b01 = ts.all fun t => decide (t ∈ ([0, 1] : List Int)) := by
  rw [List.all_map]; rfl
theorem lastB_ints {ts : List Int} (h : 0 < ts.length) : lastB (ts.map D.int) = decide (gt ts (ts.length - 1) = 1) := by
  unfold lastB
  rw [List.getLast?_map, List.getLast?_eq_getElem?, List.getElem?_eq_getElem (by omega)]
  show decide (ts[ts.length - 1] = 1) = _
  rw [gt_at (by omega)]
theorem isVot_tab {n : Nat} {ts : List Int} (hT : Tab n ts) : isVotB (tabD ts) = ((ts.all fun t => decide (t ∈ ([0, 1] : List Int))) && decide (gt ts (ts.length - 1) = 1)) := by
  show (isTabB (tabD ts) && ((ts.map D.int).all b01 && lastB (ts.map D.int))) = _
  rw [isTab_tab hT, b01_ints, lastB_ints (by have := hT.ge; omega), Bool.true_and]
theorem isVot_vot {n : Nat} {ts : List Int} (h : VotT n ts) : isVotB (tabD ts) = true := by
  rw [isVot_tab h.tab, Bool.and_eq_true]
  refine ⟨List.all_eq_true.mpr fun t ht => decide_eq_true ?_, decide_eq_true h.top⟩
  rcases h.bin t ht with rfl | rfl <;> simp
theorem VotT.zero {n : Nat} {ts : List Int} (h : VotT n ts) : gt ts 0 = 0 := by
  have := h.tab.no
  unfold gt
  rw [List.getD_eq_getElem?_getD, this]; rfl
def carL (ts : List Int) : List Nat := (List.range' 1 (ts.length - 1)).filter fun l => decide (gt ts l = 1)
def vetL (n : Nat) (ts : List Int) : List Nat := (List.range n).filter fun p => (carL ts).all fun l => bitB l p
def lesB (ls : List Nat) (l : Nat) : Bool := ls.any fun e => !decide (e = l) && subL e l
def leaL (ts : List Int) : List Nat := (carL ts).filter fun l => !lesB (carL ts) l
theorem mem_car {ts : List Int} {l : Nat} : l ∈ carL ts ↔ (1 ≤ l ∧ l < ts.length) ∧ gt ts l = 1 := by
  unfold carL
  rw [List.mem_filter, List.mem_range'_1, decide_eq_true_eq]
  omega
theorem car_law {ts : List Int} (h : gt ts 0 = 0) (hl : 0 < ts.length) : (List.range ts.length).filter (fun l => decide (gt ts l = 1)) = carL ts := by
  unfold carL
  rw [List.range_eq_range', show ts.length = (ts.length - 1) + 1 by omega, List.range'_succ, List.filter_cons, h]
  simp
theorem vet_law {n : Nat} {ts : List Int} : (List.range n).filter (fun p => ((carL ts).filter fun l => !bitB l p).isEmpty) = vetL n ts := by
  unfold vetL
  refine List.filter_congr fun p _ => ?_
  rw [Bool.eq_iff_iff, List.isEmpty_iff, List.filter_eq_nil_iff, List.all_eq_true]
  simp
theorem sub_mem {e l : Nat} (he : e < 64) (hl : l < 64) : ((memL e).filter fun p => !bitB l p).isEmpty = subL e l := by
  have h : ∀ e ∈ List.range 64, ∀ l ∈ List.range 64, ((memL e).filter fun p => !bitB l p).isEmpty = subL e l := by decide +kernel
  exact h e (List.mem_range.mpr he) l (List.mem_range.mpr hl)
theorem subL_le {e l : Nat} (h : subL e l = true) : e ≤ l := by
  have h : e &&& l = e := of_decide_eq_true h
  have := Nat.and_le_right (n := e) (m := l)
  omega
theorem subL_bit {e l p : Nat} (h : subL e l = true) (hb : bitB e p = true) : bitB l p = true := by
  have h : e &&& l = e := of_decide_eq_true h
  rw [bitB_test] at hb ⊢
  rw [← h, Nat.testBit_and] at hb
  exact (Bool.and_eq_true_iff.mp hb).2
theorem lea_law {ts : List Int} (hl : ts.length ≤ 64) : (List.range' 1 (ts.length - 1)).filter (fun l => decide (gt ts l = 1) && ((List.range' 1 (l - 1)).filter fun e => decide (gt ts e = 1) && ((memL e).filter fun p => !bitB l p).isEmpty).isEmpty) = leaL ts := by
  unfold leaL
  conv => rhs; arg 2; unfold carL
  rw [List.filter_filter]
  refine List.filter_congr fun l hm => ?_
  have hm := List.mem_range'_1.mp hm
  rw [Bool.and_comm]
  congr 1
  rw [Bool.eq_iff_iff, List.isEmpty_iff, List.filter_eq_nil_iff]
  unfold lesB
  rw [Bool.not_eq_true', List.any_eq_false]
  constructor
  · intro h e he
    obtain ⟨⟨h1, h2⟩, h3⟩ := mem_car.mp he
    intro z
    obtain ⟨z1, z2⟩ := Bool.and_eq_true_iff.mp z
    have z1 : ¬ e = l := by simpa using z1
    have := subL_le z2
    refine h e (List.mem_range'_1.mpr (by omega)) ?_
    rw [Bool.and_eq_true, decide_eq_true_eq, sub_mem (by omega) (by omega)]
    exact ⟨h3, z2⟩
  · intro h e he z
    have he := List.mem_range'_1.mp he
    rw [Bool.and_eq_true, decide_eq_true_eq, sub_mem (by omega) (by omega)] at z
    refine h e (mem_car.mpr ⟨by omega, z.1⟩) ?_
    rw [Bool.and_eq_true]
    exact ⟨by simp; omega, z.2⟩
theorem vet_lea {n : Nat} {ts : List Int} : (List.range n).filter (fun p => ((leaL ts).filter fun l => !bitB l p).isEmpty) = vetL n ts := by
  unfold vetL
  refine List.filter_congr fun p _ => ?_
  rw [Bool.eq_iff_iff, List.isEmpty_iff, List.filter_eq_nil_iff, List.all_eq_true]
  constructor
  · intro h l hl
    induction l using Nat.strongRecOn with
    | ind l ih =>
      by_cases hs : lesB (carL ts) l = true
      · obtain ⟨e, he, z⟩ := List.any_eq_true.mp hs
        obtain ⟨z1, z2⟩ := Bool.and_eq_true_iff.mp z
        have z1 : ¬ e = l := by simpa using z1
        have := subL_le z2
        exact subL_bit z2 (ih e (by omega) he)
      · have := h l (List.mem_filter.mpr ⟨hl, by simpa using hs⟩)
        simpa using this
  · intro h l hl
    have := h l (List.mem_filter.mp hl).1
    simp [this]
@[reducible] def S_isvot : Spec := fun ds M _ Q => ∃ v, ds = [v] ∧ okV2 v = true ∧ Q (.bl (isVotB v)) M
end RF
namespace RF
open PySem PySem.Spec PyProof.Rows L2
/-! ### orders of people -/
def ordS (n : Nat) (rows : List (List Nat)) : List (List Nat) := rows.flatMap fun row => ((List.range n).filter fun p => !decide (p ∈ row)).map fun p => row ++ [p]
def ordI (n : Nat) : Nat → List (List Nat)
  | 0 => [[]]
  | k + 1 => ordS n (ordI n k)
def ordL (n : Nat) : List (List Nat) := ordI n n
/-- the lot of those ahead of p -/
def ahd (p : Nat) : List Nat → Nat → Nat
  | [], a => a
  | q :: r, a => if q = p then a else ahd p r (a ||| 2 ^ q)
def fac : Nat → Nat
  | 0 => 1
  | n + 1 => fac n * (n + 1)
/-- in how many orders just these stand ahead of p -/
def cnt (n p l : Nat) : Nat := if bitB l p then 0 else fac (memL l).length * fac (n - (memL l).length - 1)
def rowB (n : Nat) (row : List Nat) : Bool := decide (row.length = n) && (decide row.Nodup && (row.all (fun q => decide (q < n)) && (List.range n).all fun k => decide (k ∈ row)))
theorem ord_facts : ∀ n ∈ List.range 7, (ordL n).all (rowB n) = true ∧ (ordL n).length = fac n := by decide +kernel
structure RowOk (n : Nat) (row : List Nat) : Prop where
  len : row.length = n
  nd : row.Nodup
  lt : ∀ q ∈ row, q < n
  all : ∀ k, k < n → k ∈ row
theorem ord_row {n : Nat} (hn : n ≤ 6) {row : List Nat} (h : row ∈ ordL n) : RowOk n row := by
  have := List.all_eq_true.mp (ord_facts n (List.mem_range.mpr (by omega))).1 row h
  unfold rowB at this
  simp only [Bool.and_eq_true, decide_eq_true_eq, List.all_eq_true, List.mem_range] at this
  exact ⟨this.1, this.2.1, this.2.2.1, this.2.2.2⟩
theorem ord_len {n : Nat} (hn : n ≤ 6) : (ordL n).length = fac n := (ord_facts n (List.mem_range.mpr (by omega))).2
def hst (xs : List Nat) : List Nat := xs.foldl (fun h l => h.modify l (· + 1)) (List.replicate 64 0)
theorem hst_go : ∀ (xs h : List Nat) (l : Nat), l < h.length → (∀ x ∈ xs, x < h.length) → (xs.foldl (fun h l => h.modify l (· + 1)) h).getD l 0 = h.getD l 0 + xs.count l
  | [], h, l, _, _ => by simp
  | x :: xs, h, l, hl, hx => by
    rw [List.foldl_cons, hst_go xs _ l (by rw [List.length_modify]; exact hl) (fun y hy => by rw [List.length_modify]; exact hx y (by simp [hy]))]
    rw [List.count_cons, List.getD_eq_getElem?_getD, List.getD_eq_getElem?_getD, List.getElem?_modify, List.getElem?_eq_getElem hl]
    by_cases e : x = l
    · subst e; simp; omega
    · have e2 : (x == l) = false := by simpa using e
      simp [e]
theorem hst_count {xs : List Nat} (h : ∀ x ∈ xs, x < 64) {l : Nat} (hl : l < 64) : xs.count l = (hst xs).getD l 0 := by
  unfold hst
  rw [hst_go xs _ l (by simpa using hl) (by simpa using h)]
  have : (List.replicate 64 0).getD l 0 = 0 := by
    rw [List.getD_eq_getElem?_getD, List.getElem?_eq_getElem (by simpa using hl), List.getElem_replicate]; rfl
  omega
theorem ahd_facts : ∀ n ∈ List.range 7, ∀ p ∈ List.range n, ((ordL n).map fun o => ahd p o 0).all (fun l => decide (l < 64)) = true ∧ hst ((ordL n).map fun o => ahd p o 0) = (List.range 64).map fun l => if l < 2 ^ n then cnt n p l else 0 := by decide +kernel
theorem sum_zero {α : Type} (l : List α) : (l.map fun _ => (0 : Int)).sum = 0 := by
  induction l with
  | nil => rfl
  | cons a l ih => simp [ih]
theorem sum_add {α : Type} (l : List α) (f g : α → Int) : (l.map fun a => f a + g a).sum = (l.map f).sum + (l.map g).sum := by
  induction l with
  | nil => rfl
  | cons a l ih => simp only [List.map_cons, List.sum_cons, ih]; omega
theorem sum_mul {α : Type} (l : List α) (c : Int) (f : α → Int) : (l.map fun a => c * f a).sum = c * (l.map f).sum := by
  induction l with
  | nil => simp
  | cons a l ih => simp only [List.map_cons, List.sum_cons, ih, Int.mul_add]
theorem sum_swap {α β : Type} (l : List α) (m : List β) (f : α → β → Int) : (l.map fun a => (m.map fun b => f a b).sum).sum = (m.map fun b => (l.map fun a => f a b).sum).sum := by
  induction l with
  | nil => exact (sum_zero m).symm
  | cons a l ih => simp only [List.map_cons, List.sum_cons, ih, sum_add]
theorem sum_one {m : Nat} (F : Nat → Int) {x : Nat} (h : x < m) : ((List.range m).map fun l => if x = l then F l else 0).sum = F x := by
  induction m with
  | zero => omega
  | succ m ih =>
    rw [List.range_succ, List.map_append, List.sum_append]
    by_cases e : x = m
    · subst e
      have : ((List.range x).map fun l => if x = l then F l else 0) = (List.range x).map fun _ => 0 := List.map_congr_left fun l hl => by
        have := List.mem_range.mp hl
        rw [if_neg (by omega)]
      rw [this, sum_zero]; simp
    · rw [ih (by omega)]; simp [e]
/-- a sum over places, by how often each is -/
theorem sum_count (F : Nat → Int) {m : Nat} : ∀ {xs : List Nat}, (∀ x ∈ xs, x < m) → (xs.map F).sum = ((List.range m).map fun l => (xs.count l : Int) * F l).sum
  | [], _ => by
    have : ((List.range m).map fun l => ((List.count l ([] : List Nat) : Nat) : Int) * F l) = (List.range m).map fun _ => 0 := List.map_congr_left fun l _ => by simp
    rw [this, sum_zero]; rfl
  | x :: xs, h => by
    rw [List.map_cons, List.sum_cons, sum_count F (xs := xs) fun y hy => h y (by simp [hy]), ← sum_one F (h x (by simp)), ← sum_add]
    refine congrArg List.sum (List.map_congr_left fun l _ => ?_)
    rw [List.count_cons]
    by_cases e : x = l
    · subst e; simp [Int.add_mul]; omega
    · simp [e]
/-- sums over all orders -/
theorem ord_sum {n p : Nat} (hn : n ≤ 6) (hp : p < n) (F : Nat → Int) : ((ordL n).map fun o => F (ahd p o 0)).sum = ((List.range (2 ^ n)).map fun l => (cnt n p l : Int) * F l).sum := by
  obtain ⟨h1, h2⟩ := ahd_facts n (List.mem_range.mpr (by omega)) p (List.mem_range.mpr hp)
  have h1 : ∀ x ∈ (ordL n).map (fun o => ahd p o 0), x < 64 := fun x hx => by simpa using List.all_eq_true.mp h1 x hx
  have e := sum_count F h1
  rw [List.map_map] at e
  refine Eq.trans e ?_
  have h64 := pow64 hn
  rw [show (64 : Nat) = 2 ^ n + (64 - 2 ^ n) by omega, List.range_add, List.map_append, List.sum_append]
  have z : (((List.range (64 - 2 ^ n)).map (2 ^ n + ·)).map fun l => ((List.count l ((ordL n).map fun o => ahd p o 0) : Nat) : Int) * F l) = ((List.range (64 - 2 ^ n)).map (2 ^ n + ·)).map fun _ => 0 := List.map_congr_left fun l hl => by
    obtain ⟨q, hq, rfl⟩ := List.mem_map.mp hl
    have := List.mem_range.mp hq
    rw [hst_count h1 (by omega), h2, List.getD_eq_getElem?_getD, List.getElem?_map, List.getElem?_range (by omega)]
    simp only [Option.map_some, Option.getD_some]
    rw [if_neg (by omega)]; simp
  rw [z, sum_zero, Int.add_zero]
  refine congrArg List.sum (List.map_congr_left fun l hl => ?_)
  have := List.mem_range.mp hl
  rw [hst_count h1 (by omega), h2, List.getD_eq_getElem?_getD, List.getElem?_map, List.getElem?_range (by omega)]
  simp [this]
/-- what p adds in an order -/
def mgF (ts : List Int) (row : List Nat) (p : Nat) : Int := gt ts (ahd p row 0 ||| 2 ^ p) - gt ts (ahd p row 0)
/-! fair shares, by all orders -/
def cfC (n k e : Nat) : Int := ((List.range (2 ^ n)).map fun l => (cnt n k l : Int) * ((if subL e (l ||| 2 ^ k) then 1 else 0) - (if subL e l then 1 else 0))).sum
theorem cf_facts : ∀ n ∈ List.range 7, ∀ k ∈ List.range n, ∀ e ∈ List.range (2 ^ n), if bitB e k then cfC n k e * (memL e).length = fac n else cfC n k e = 0 := by decide +kernel
theorem lsum_range {n : Nat} (hn : n ≤ 6) (ds : List Int) {l : Nat} (hl : l < 2 ^ n) : lsum ds l = ((List.range (2 ^ n)).map fun e => (if subL e l then 1 else 0) * gt ds e).sum := by
  unfold lsum lotsL
  have e : ∀ m, l < m → ((List.range m).filter fun e => subL e l) = (List.range (l + 1)).filter fun e => subL e l := by
    intro m hm
    rw [show m = (l + 1) + (m - (l + 1)) by omega, List.range_add, List.filter_append]
    have z : (((List.range (m - (l + 1))).map (l + 1 + ·)).filter fun e => subL e l) = [] := by
      rw [List.filter_eq_nil_iff]
      intro x hx
      obtain ⟨q, _, rfl⟩ := List.mem_map.mp hx
      intro z
      have := subL_le z
      omega
    rw [z, List.append_nil]
  rw [← e (2 ^ n) hl]
  generalize List.range (2 ^ n) = R
  induction R with
  | nil => rfl
  | cons x R ih =>
    rw [List.filter_cons, List.map_cons, List.sum_cons, ← ih]
    cases subL x l <;> simp [gt]
/-- the sum of what k adds in all orders, out of the dividends -/
theorem ord_dv {n : Nat} {ds ts : List Int} (hT : Tab n ts) (h : IsDv ds ts) {k : Nat} (hk : k < n) : ((ordL n).map fun o => mgF ts o k).sum = ((List.range (2 ^ n)).map fun e => cfC n k e * gt ds e).sum := by
  have hn := hT.six
  have s := ord_sum hn hk fun l => gt ts (l ||| 2 ^ k) - gt ts l
  refine Eq.trans s ?_
  unfold cfC
  have a : ((List.range (2 ^ n)).map fun l => (cnt n k l : Int) * (gt ts (l ||| 2 ^ k) - gt ts l)) = (List.range (2 ^ n)).map fun l => ((List.range (2 ^ n)).map fun e => (cnt n k l : Int) * ((if subL e (l ||| 2 ^ k) then 1 else 0) - (if subL e l then 1 else 0)) * gt ds e).sum := List.map_congr_left fun l hl => by
    have hl := List.mem_range.mp hl
    have hl2 := or_lt hl (pow_lt hk)
    have e1 : gt ts (l ||| 2 ^ k) = lsum ds (l ||| 2 ^ k) := (h.eq _ (by rw [hT.len]; exact hl2)).symm
    have e2 : gt ts l = lsum ds l := (h.eq _ (by rw [hT.len]; exact hl)).symm
    rw [e1, e2, lsum_range hn ds hl2, lsum_range hn ds hl]
    generalize List.range (2 ^ n) = R
    induction R with
    | nil => simp
    | cons x R ih =>
      simp only [List.map_cons, List.sum_cons]
      rw [← ih]
      cases subL x (l ||| 2 ^ k) <;> cases subL x l <;> simp <;> grind
  rw [a, sum_swap]
  refine congrArg List.sum (List.map_congr_left fun e _ => ?_)
  generalize List.range (2 ^ n) = R
  induction R with
  | nil => simp
  | cons x R ih =>
    simp only [List.map_cons, List.sum_cons]
    rw [ih, Int.add_mul]
/-- fair shares are the mean over all orders -/
theorem fair_ord {n : Nat} {ds ts : List Int} (hT : Tab n ts) (h : IsDv ds ts) {k : Nat} (hk : k < n) : (fac n : Rat) * fairF n ds k = ((((ordL n).map fun o => mgF ts o k).sum : Int) : Rat) := by
  have hn := hT.six
  have h64 := pow64 hn
  rw [ord_dv hT h hk]
  unfold fairF
  rw [tot_filter, ← tot_mul, ← tot_ints, List.map_map]
  refine tot_congr fun e he => ?_
  have he := List.mem_range.mp he
  have f := cf_facts n (List.mem_range.mpr (by omega)) k (List.mem_range.mpr hk) e (List.mem_range.mpr he)
  show (fac n : Rat) * _ = ((cfC n k e * gt ds e : Int) : Rat)
  cases hb : bitB e k with
  | false =>
    rw [hb, if_neg (by decide)] at f
    rw [f]; simp
  | true =>
    rw [hb, if_pos rfl] at f
    have hp : 0 < (memL e).length := by
      rcases Nat.eq_zero_or_pos e with z | z
      · subst z; rw [bitB_test, Nat.zero_testBit] at hb; cases hb
      · exact memL_pos (by omega) z
    have w := wt_mul ds hp
    have f' : ((cfC n k e : Int) : Rat) * ((memL e).length : Rat) = (fac n : Rat) := by
      have := congrArg (fun z : Int => (z : Rat)) f
      push_cast at this
      exact this
    rw [if_pos rfl, ← f']
    push_cast
    rw [← w]
    grind
/-- the lot of some people, one behind another -/
def lotP (l : List Nat) (a : Nat) : Nat := l.foldl (fun a q => a ||| 2 ^ q) a
theorem lotP_snoc (l : List Nat) (q a : Nat) : lotP (l ++ [q]) a = lotP l a ||| 2 ^ q := by unfold lotP; rw [List.foldl_append]; rfl
theorem ahd_split {k : Nat} {rest : List Nat} : ∀ {l : List Nat} {a : Nat}, k ∉ l → ahd k (l ++ k :: rest) a = lotP l a
  | [], a, _ => by show (if k = k then a else _) = a; rw [if_pos rfl]
  | q :: l, a, h => by
    have h1 : ¬ q = k := fun z => h (by simp [z])
    have h2 : k ∉ l := fun z => h (by simp [z])
    show (if q = k then a else ahd k (l ++ k :: rest) (a ||| 2 ^ q)) = _
    rw [if_neg h1, ahd_split h2]; rfl
theorem lotP_lt {n : Nat} : ∀ {l : List Nat} {a : Nat}, a < 2 ^ n → (∀ q ∈ l, q < n) → lotP l a < 2 ^ n
  | [], _, h, _ => h
  | q :: l, a, h, hq => lotP_lt (l := l) (or_lt h (pow_lt (hq q (by simp)))) fun r hr => hq r (by simp [hr])
theorem lotP_bit {k : Nat} : ∀ {l : List Nat} {a : Nat}, bitB a k = false → k ∉ l → bitB (lotP l a) k = false
  | [], _, h, _ => h
  | q :: l, a, h, hk => by
    refine lotP_bit (l := l) ?_ fun z => hk (by simp [z])
    rw [bitB_test] at h ⊢
    rw [Nat.testBit_or, h, Nat.testBit_two_pow]
    have : ¬ q = k := fun z => hk (by simp [z])
    simp [this]
/-- ahead of the one behind done -/
theorem RowOk.at_ {n : Nat} {row : List Nat} (h : RowOk n row) {l rest : List Nat} {k : Nat} (e : l ++ k :: rest = row) : k ∉ l ∧ k < n ∧ ahd k row 0 = lotP l 0 ∧ lotP l 0 < 2 ^ n ∧ bitB (lotP l 0) k = false := by
  have nd := h.nd
  rw [← e] at nd
  have h1 : k ∉ l := fun z => by
    have := (List.nodup_append.mp nd).2.2 k z k (by simp)
    exact this rfl
  have h2 : ∀ q ∈ l, q < n := fun q hq => h.lt q (by rw [← e]; simp [hq])
  refine ⟨h1, h.lt k (by rw [← e]; simp), ?_, lotP_lt (Nat.two_pow_pos n) h2, lotP_bit (by rw [bitB_test, Nat.zero_testBit]) h1⟩
  rw [← e, ahd_split h1]
def rowD (row : List Nat) : D := .tup (natsD row)
/-- the numbers that are set person by person -/
def setR (n : Nat) (ts : List Int) (row l : List Nat) : List Int := (List.range n).map fun k => if k ∈ l then mgF ts row k else 0
theorem setR_nil (n : Nat) (ts : List Int) (row : List Nat) : setR n ts row [] = List.replicate n 0 := by
  unfold setR
  refine List.ext_getElem (by simp) fun i h1 h2 => ?_
  simp
theorem setR_snoc {n : Nat} {ts : List Int} {row l : List Nat} {k : Nat} (hk : k < n) : (setR n ts row l).set k (mgF ts row k) = setR n ts row (l ++ [k]) := by
  unfold setR
  refine List.ext_getElem (by simp) fun i h1 h2 => ?_
  rw [List.getElem_set]
  by_cases e : k = i
  · subst e; simp
  · have : ¬ i = k := fun z => e z.symm
    simp [e, this]
theorem setR_all {n : Nat} {ts : List Int} {row : List Nat} (h : RowOk n row) : setR n ts row row = (List.range n).map (mgF ts row) := by
  unfold setR
  refine List.map_congr_left fun k hk => ?_
  rw [if_pos (h.all k (List.mem_range.mp hk))]
/-- votes that do not get less by more people -/
def MonoT (n : Nat) (ts : List Int) : Prop := ∀ l p, l < 2 ^ n → p < n → gt ts l ≤ gt ts (l ||| 2 ^ p)
theorem VotT.gt {n : Nat} {ts : List Int} (h : VotT n ts) {l : Nat} (hl : l < 2 ^ n) : RF.gt ts l = 0 ∨ RF.gt ts l = 1 := by
  rw [← h.tab.len] at hl
  rw [gt_at hl]
  exact h.bin _ (List.getElem_mem hl)
theorem mgF_vot {n : Nat} {ts : List Int} (h : VotT n ts) {row : List Nat} (hr : RowOk n row) {k : Nat} (hk : k < n) : (mgF ts row k = -1 ∨ mgF ts row k = 0 ∨ mgF ts row k = 1) ∧ (MonoT n ts → mgF ts row k ≠ -1) := by
  obtain ⟨l, rest, e⟩ := List.append_of_mem (hr.all k hk)
  obtain ⟨h1, h2, h3, h4, h5⟩ := hr.at_ e.symm
  unfold mgF
  rw [h3]
  have v1 := h.gt h4
  have v2 := h.gt (or_lt h4 (pow_lt hk))
  refine ⟨by omega, fun hm => ?_⟩
  have := hm _ k h4 hk
  omega
/-- what all add in all orders -/
theorem ord_all {n : Nat} {ds ts : List Int} (hT : Tab n ts) (h : IsDv ds ts) : ((List.range n).map fun k => ((ordL n).map fun o => mgF ts o k).sum).sum = (fac n : Int) * gt ts (2 ^ n - 1) := by
  have hn := hT.six
  have h1 := hT.one
  have e := (pot_of_dv h hT).eq (2 ^ n - 1) (by have := pow_lt h1; omega) (by have := Nat.two_pow_pos n; omega)
  rw [memL_full hn] at e
  have e2 : (fac n : Rat) * tot ((List.range n).map fun k => potF ds (2 ^ n - 1) - potF ds (2 ^ n - 1 - 2 ^ k)) = tot ((List.range n).map fun k => ((((ordL n).map fun o => mgF ts o k).sum : Int) : Rat)) := by
    rw [← tot_mul]
    refine tot_congr fun k hk => ?_
    have hk := List.mem_range.mp hk
    rw [← fair_pot hn ds hk, fair_ord hT h hk]
  rw [e] at e2
  have e3 : tot ((List.range n).map fun k => ((((ordL n).map fun o => mgF ts o k).sum : Int) : Rat)) = ((((List.range n).map fun k => ((ordL n).map fun o => mgF ts o k).sum).sum : Int) : Rat) := by
    rw [← tot_ints, List.map_map]; rfl
  rw [e3] at e2
  have : (((fac n : Int) * gt ts (2 ^ n - 1) : Int) : Rat) = ((((List.range n).map fun k => ((ordL n).map fun o => mgF ts o k).sum).sum : Int) : Rat) := by push_cast; exact e2
  exact (by exact_mod_cast this : (fac n : Int) * gt ts (2 ^ n - 1) = _).symm
theorem set_del {M : Mem} {p : Addr} {c : Cell} (h : M p = none) : (M.set p c).del p = M := by
  funext b
  by_cases e : b = p
  · subst e; rw [Mem.del_same, h]
  · rw [Mem.del_ne e, Mem.set_ne e]
theorem atI_rng {n : Nat} (f : Nat → Int) {k : Nat} (hk : k < n) : atI (((List.range n).map f).map D.int) (k : Int) = some (.int (f k)) := by
  rw [atI_ints (by simpa using hk)]; simp
theorem okR_frs {n : Nat} : ∀ {l : List Rat}, (∀ q ∈ l, q.num.natAbs < 10 ^ 12 ∧ q.den < 10 ^ 12) → okRs (n + 1) (l.map frD) = true
  | [], _ => by simp [okRs]
  | q :: l, h => by
    obtain ⟨h1, h2⟩ := h q (by simp)
    rw [List.map_cons]
    simp only [okRs, okR, Bool.and_eq_true, decide_eq_true_eq, Int.natAbs_natCast, and_true]
    refine ⟨?_, okR_frs (l := l) fun r hr => h r (by simp [hr])⟩
    cases n <;> simp [okR, h1, h2]
theorem bks_frs (l : List Rat) : bks (l.map frD) = 3 * l.length := by
  induction l with
  | nil => rfl
  | cons q l ih => rw [List.map_cons, List.length_cons]; simp only [bks, bk]; omega
end RF
namespace RF
open PySem PySem.Spec PyProof.Rows L2
/-! ### what a def that may raise ends with -/
/-- it tells d, it raises x -/
@[reducible] def outP (o : Except XD D) (M : Mem) (X : XQ) (Q : QD) : Prop := match o with
  | .ok d => Q d M
  | .error x => X x M
/-- a check: the first of a list of wrong things is raised -/
@[reducible] def chkP (c : Nat) (w : List D) (M : Mem) (X : XQ) (Q : QD) : Prop := match w with
  | [] => Q .non M
  | d :: _ => X ⟨c, some d⟩ M
def chkO (c : Nat) : List D → Except XD D
  | [] => .ok .non
  | d :: _ => .error ⟨c, some d⟩
theorem chkO_p {c : Nat} {w : List D} {M : Mem} {X : XQ} {Q : QD} : outP (chkO c w) M X Q = chkP c w M X Q := by cases w <;> rfl
theorem subX_here {X : XQ} {x : XD} {M : Mem} (h : X x M) : subX X x M := ⟨M, Sub.refl _, h⟩
/-- the handler of a try takes the error -/
theorem try_in {Φ : Nat → Spec} {i : Nat} {cs : List Nat} {hd : List CS} {ρ : DEnv} {X : XQ} {Z : DE} {xd : XD} {M1 : Mem} (hc : cs.contains xd.cls = true) (h : ∀ a, M1 a = none → wpSs Φ hd (setD' (blankE ρ) i (.cell a)) M1 (curX a xd) (excZ Z i)) : tryX Φ i cs hd ρ X Z xd M1 := by
  unfold tryX; rw [if_pos hc]; exact h
/-- the check of a table: the place of the first wrong worth -/
def okAt (p : D × Nat) : Bool := btB p.1 (-9999) 9999 && (p.2 != 0 || (match p.1 with | .int i => i == 0 | _ => false))
def badL (xs : List D) (k : Nat) : List D := (((xs.zipIdx k).filter fun p => !okAt p).map fun p => D.int (p.2 : Nat)).take 1
def wrongT : D → List D
  | .tup xs => if (polF (xs.length : Nat)).isEmpty = true then [.non] else badL xs 0
  | _ => [.non]
theorem badL_nil (k : Nat) : badL [] k = [] := rfl
theorem badL_ok {x : D} {xs : List D} {k : Nat} (h : okAt (x, k) = true) : badL (x :: xs) k = badL xs (k + 1) := by
  unfold badL
  rw [List.zipIdx_cons, List.filter_cons, h]
  rfl
theorem badL_no {x : D} {xs : List D} {k : Nat} (h : okAt (x, k) = false) : badL (x :: xs) k = [.int (k : Nat)] := by
  unfold badL
  rw [List.zipIdx_cons, List.filter_cons, h]
  rfl
theorem badL_empty : ∀ {xs : List D} {k : Nat}, (badL xs k).isEmpty = (xs.zipIdx k).all okAt
  | [], k => rfl
  | x :: xs, k => by
    rw [List.zipIdx_cons, List.all_cons]
    cases h : okAt (x, k) with
    | true => rw [badL_ok h, badL_empty, Bool.true_and]
    | false => rw [badL_no h]; rfl
theorem ok_succ {xs : List D} : ∀ {k : Nat}, (xs.zipIdx (k + 1)).all okAt = xs.all fun d => btB d (-9999) 9999 := by
  induction xs with
  | nil => intro k; rfl
  | cons x xs ih =>
    intro k
    rw [List.zipIdx_cons, List.all_cons, ih, List.all_cons]
    have : okAt (x, k + 1) = btB x (-9999) 9999 := by
      unfold okAt
      rw [show ((k + 1 != 0 || _) : Bool) = true from by simp]
      simp
    rw [this]
theorem wrongT_empty (v : D) : (wrongT v).isEmpty = isTabB v := by
  cases v <;> first | rfl | skip
  case tup xs =>
    show (if (polF (xs.length : Nat)).isEmpty = true then [D.non] else badL xs 0).isEmpty = (!(polF (xs.length : Nat)).isEmpty && ((xs.all fun d => btB d (-9999) 9999) && z0B xs))
    cases h : (polF (xs.length : Nat)).isEmpty with
    | true => rfl
    | false =>
      rw [if_neg (by decide), badL_empty]
      cases xs with
      | nil => exact absurd h (by decide)
      | cons x xs =>
        rw [List.zipIdx_cons, List.all_cons, ok_succ, List.all_cons]
        unfold okAt
        cases x <;> simp [z0B, btB]
        case int i =>
          generalize (i == 0) = z
          cases z <;> simp
theorem wrongT_tab {n : Nat} {ts : List Int} (ht : Tab n ts) : wrongT (tabD ts) = [] := by
  have := wrongT_empty (tabD ts)
  rw [isTab_tab ht] at this
  exact List.isEmpty_iff.mp this
theorem list_of {α : Type} (f : α → D) {P : α → Prop} : ∀ {vs : List D}, (∀ v ∈ vs, ∃ x, v = f x ∧ P x) → ∃ l : List α, vs = l.map f ∧ ∀ x ∈ l, P x
  | [], _ => ⟨[], rfl, fun _ h => by cases h⟩
  | v :: vs, h => by
    obtain ⟨x, rfl, hx⟩ := h v (List.mem_cons_self ..)
    obtain ⟨l, rfl, hl⟩ := list_of f (vs := vs) fun w hw => h w (List.mem_cons_of_mem _ hw)
    exact ⟨x :: l, rfl, fun y hy => by
      rcases List.mem_cons.mp hy with rfl | h
      · exact hx
      · exact hl y h⟩
/-- a comprehension that keeps some, drawing -/
theorem lcGo_some {g : D → (DEnv → Prop) → Prop} {t : DEnv → Mem → (Bool → Mem → Prop) → Prop} {e : DEnv → Mem → QD → Prop} {QL' : QL} {M : Mem} {C : Cell → Prop} {P : D → Prop} {a : Addr} : ∀ {xs acc : List D},
    (∀ x ∈ xs, ∀ c, C c → ∀ (K : QD) (K' : Mem → Prop), (∀ v c', P v → C c' → K v (M.set a c')) → (∀ c', C c' → K' (M.set a c')) → g x fun ρ => t ρ (M.set a c) fun b M1 => if b = true then e ρ M1 K else K' M1) →
    (∀ v ∈ acc, P v) → (∀ vs c, (∀ v ∈ vs, P v) → vs.length ≤ acc.length + xs.length → C c → QL' vs (M.set a c)) → ∀ {c}, C c → lcGo g t e xs acc (M.set a c) QL'
  | [], acc, _, ha, hq, c, hc => hq acc c ha (by simp) hc
  | x :: xs, acc, hs, ha, hq, c, hc => by
    unfold lcGo
    refine hs x (List.mem_cons_self ..) c hc _ _ (fun v c' hv hc' => ?_) (fun c' hc' => ?_)
    · refine lcGo_some (fun y hy => hs y (List.mem_cons_of_mem _ hy)) (fun w hw => ?_) (fun vs c h1 h2 h3 => hq vs c h1 (by simp at h2 ⊢; omega) h3) hc'
      rcases List.mem_append.mp hw with h | h
      · exact ha w h
      · rcases List.mem_singleton.mp h with rfl; exact hv
    · exact lcGo_some (fun y hy => hs y (List.mem_cons_of_mem _ hy)) ha (fun vs c h1 h2 h3 => hq vs c h1 (by simp at h2 ⊢; omega) h3) hc'
theorem ne_same {x : Str} : (!decide (x = x)) = false := by simp
@[reducible] def badE (w : Str) (p : D × D) : D := .lst [p.1, .str w, p.2]
theorem okV2_app {xs ys : List D} (h1 : okV2 (.tup xs) = true) (h2 : okV2 (.tup ys) = true) : okV2 (.tup (xs ++ ys)) = true := by
  refine okV2_all fun d hd => ?_
  have a1 := List.all_eq_true.mp (and2 (show (true && xs.all okV) = true from h1)).2
  have a2 := List.all_eq_true.mp (and2 (show (true && ys.all okV) = true from h2)).2
  rcases List.mem_append.mp hd with h | h
  · exact a1 d h
  · exact a2 d h
theorem okV2_take {ts : List Int} (k : Nat) : okV2 (.tup ((ts.map D.int).take k)) = true := okV2_all fun d hd => okV_ints d (List.mem_of_mem_take hd)
theorem okV2_drop {ts : List Int} (k : Nat) : okV2 (.tup ((ts.map D.int).drop k)) = true := okV2_all fun d hd => okV_ints d (List.mem_of_mem_drop hd)
theorem okV2_one {d : D} (h : okV d = true) : okV2 (.tup [d]) = true := okV2_all fun x hx => by rcases List.mem_singleton.mp hx with rfl; exact h
theorem cut_1 {α : Type} (xs : List α) : cutD xs (some 1) none = xs.drop 1 := cut_drop xs 1
theorem cut_2 {α : Type} (xs : List α) : cutD xs (some 2) none = xs.drop 2 := cut_drop xs 2
/-- whatever it tells, what it raises -/
@[reducible] def outH (o : Except XD D) (M : Mem) (X : XQ) (Q : QD) : Prop := match o with
  | .ok _ => ∀ d, Q d M
  | .error x => X x M
theorem outH_err {x : XD} {M : Mem} {X : XQ} {Q : QD} : outH (.error x) M X Q = X x M := rfl
/-! steps that the kernel need not run again: within an except clause -/
theorem wpE_lst0 {Φ : Nat → Spec} {ρ : DEnv} {M : Mem} {X : XQ} {Q : QD} (h : Q (.lst []) M) : wpE Φ (.lst false []) ρ M X Q := h
theorem seqZ_nx {Φ : Nat → Spec} {ss : List CS} {ρ : DEnv} {M : Mem} {X : XQ} {Z : DE} (h : wpSs Φ ss ρ M X Z) : (seqZ Φ ss X Z).nx ρ M := h
theorem forGo_cons {g : D → DEnv → (DEnv → Prop) → Prop} {b : DEnv → Mem → (DEnv → Mem → Prop) → Prop} {x : D} {xs : List D} {ρ : DEnv} {M : Mem} {Q : DEnv → Mem → Prop} (h : g x ρ fun ρ1 => b ρ1 M fun ρ2 M2 => forGo g b xs ρ2 M2 Q) : forGo g b (x :: xs) ρ M Q := h
theorem inFl_ints {n : Int} {l : List Int} {k : Bool → Prop} (h : k (decide (n ∈ l))) : inFl (.int n) (l.map D.int) k := by
  unfold inFl
  rw [flat_ints]
  show k (inV (.int n) (l.map V.int))
  have : inV (.int n) (l.map V.int) = decide (n ∈ l) := by
    unfold inV
    rw [Bool.eq_iff_iff]
    simp only [List.any_map, List.any_eq_true, decide_eq_true_eq]
    constructor
    · rintro ⟨m, hm, h⟩
      have : m = n := by simpa [eqV] using h
      exact this ▸ hm
    · intro h
      exact ⟨n, h, by simp [eqV]⟩
  rw [this]; exact h
theorem valP_of {v : D} {k : D → Prop} (h : k v) : valP (some v) k := h
theorem ok2_ints (l : List Int) : okV2 (tabD l) = true := okV2_all fun d hd => by obtain ⟨i, _, rfl⟩ := List.mem_map.mp hd; rfl
theorem rep_ints (k : Nat) : (List.replicate ((k : Nat) : Int).toNat [D.int 0]).flatten = (List.replicate k (0 : Int)).map D.int := by
  rw [Int.toNat_natCast]
  induction k with
  | zero => rfl
  | succ k ih => rw [List.replicate_succ, List.flatten_cons, ih, List.replicate_succ]; rfl
theorem nodup_len : ∀ (n : Nat) (l : List Nat), l.Nodup → (∀ x ∈ l, x < n) → l.length ≤ n
  | 0, l, _, h => by
    cases l with
    | nil => simp
    | cons a l => exact absurd (h a (by simp)) (by omega)
  | n + 1, l, hn, h => by
    have h1 := nodup_len n (l.erase n) (hn.erase n) fun x hx => by
      have h2 := (List.Nodup.mem_erase_iff hn).mp hx
      have h3 := h x h2.2
      have h4 := h2.1
      omega
    rw [List.length_erase] at h1
    split at h1 <;> omega
theorem nodup_le {n : Nat} {l : List Int} (hn : l.Nodup) (hb : ∀ x ∈ l, 1 ≤ x ∧ x < (n : Nat)) : l.length ≤ n := by
  have h1 : (l.map Int.toNat).Nodup := by
    refine List.pairwise_map.mpr ?_
    refine hn.imp_of_mem fun {a b} ha hb' ne e => ne ?_
    have := hb a ha; have := hb b hb'
    omega
  have := nodup_len n _ h1 fun x hx => by
    obtain ⟨y, hy, rfl⟩ := List.mem_map.mp hx
    have := hb y hy
    omega
  rwa [List.length_map] at this
end RF
namespace RF
open PySem PySem.Spec PyProof.Rows L2
local macro_rules | `(tactic| walk_at "rfq") => `(tactic| with_reducible first
  | refine wpSs_cons ?_
  | refine wpS_asg ?_ | refine wpS_iff ?_ | refine wpS_ret ?_ | refine wpS_for ?_ | refine wpSs_nil ?_ | refine wpS_append ?_ | refine wpS_par ?_ | refine wpS_asgT ?_
  | refine wpS_raise ?_ | refine wpS_raise0 ?_ | refine wpS_try ?_
  | refine wpS_expr ?_ | refine wpS_setix ?_ | refine wpS_asgM ?_ | refine wpS_while ?_ | refine wpS_pass ?_ | refine wpS_cont ?_ | refine wpS_brk ?_ | refine wpS_gfrz ?_
  | ((show wpSs _ _ _ _ _ _); (with_unfolding_all refine wpSs_cons ?_)))
local macro_rules | `(tactic| walk_at "rfw") => `(tactic| (with_reducible (conv => whnf); repeat (walk_at "rfq"; with_reducible (conv => whnf))))
local macro_rules | `(tactic| walk_at "rfd") => `(tactic| first
  | with_reducible rfl
  | assumption
  | exact mul_l (by omega) (by omega)
  | exact mul_r (by omega) (by omega)
  | exact div_s (by omega) (by omega)
  | exact pow_s (by omega) (by omega) (by omega) (by omega)
  | exact rngOk_s (by omega) (by omega) (by omega) (by omega)
  | omega
  | (simp only [List.length_map, List.length_cons, List.length_nil, List.length_append, natsD_len, List.length_range, List.length_range', sizeLine_eq, List.length_replicate]; first | exact rngOk_s (by omega) (by omega) (by omega) (by omega) | omega | exact pow_s (by omega) (by omega) (by omega) (by omega))
  | decide
  | rfl)
local macro_rules | `(tactic| walk_at "rfi") => `(tactic| first
  | with_reducible rfl
  | exact atI_ints (by omega)
  | exact atI_nats (by omega)
  | exact atI_get' (by omega)
  | rfl)
local macro_rules | `(tactic| walk_at "rfs") => `(tactic| ((repeat (walk_at "rfw"; first
  | with_reducible refine ite_t rfl ?_
  | with_reducible refine ite_f rfl ?_
  | refine ite_t rfl ?_
  | refine ite_f rfl ?_
  | ((with_reducible show cellL _ _ _); (refine cellL_of (by first | assumption | exact Mem.set_same) ?_))
  | ((with_reducible show ixL _ _ _); (refine ixL_of (by walk_at "rfi") ?_))
  | ((with_reducible show ixP _ _ _); (refine ixP_of (by first | with_reducible rfl | exact ixN_nat (by omega) | rfl) ?_))
  | ((with_reducible show permP _ _); (refine permP_of rfl ?_))
  | ((with_reducible refine And.intro ?_ ?_); (walk_at "rfd")))); try walk_at "rfw"))
local macro_rules | `(tactic| walk_at "rfo") => `(tactic| repeat (walk_at "rfs"; first
  | refine ite_pt (by omega) ?_
  | refine ite_pf (by omega) ?_))
/-! is_whole_094d: slots ('value',) -/
@[reducible] def B_is_whole_094d : List CS := [.ret (.and [(.bi (.isI .int) [(.var 0)]), (.not (.bi (.isI .bool) [(.var 0)]))])]
@[reducible] def S_is_whole_094d : Spec := fun ds M _ Q => ∃ d, ds = [d] ∧ okV d = true ∧ Q (.bl (whB d)) M
theorem T_is_whole_094d {Φ : Nat → Spec} : ∀ ds M X Q, ds.length = 1 → S_is_whole_094d ds M X Q → wpF Φ 1 B_is_whole_094d ds M X Q := by
  rintro ds M X Q - ⟨d, rfl, hd, hq⟩
  show wpSs Φ B_is_whole_094d [some d] M (subX X) _
  cases d <;> first | (cases hd; done) | skip
  case int i =>
    walk_at "rfw"; refine ite_t rfl ?_; walk_at "rfw"; exact subQ_here hq
  case bl b =>
    walk_at "rfw"; refine ite_t rfl ?_; walk_at "rfw"; exact subQ_here hq
  all_goals (walk_at "rfw"; refine ite_f rfl ?_; walk_at "rfw"; exact subQ_here hq)
/-! is_between_f089: slots ('value', 'low', 'high') -/
@[reducible] def B_is_between_f089 (i_is_whole : Nat) : List CS := [.ret (.and [(.call i_is_whole [(.var 0)]), (.chn .LtE .LtE (.var 1) (.var 0) (.var 2))])]
@[reducible] def S_is_between_f089 : Spec := fun ds M _ Q => ∃ d lo hi, ds = [d, .int lo, .int hi] ∧ okV d = true ∧ Q (.bl (btB d lo hi)) M
theorem T_is_between_f089 {Φ : Nat → Spec} (i : Nat) (h : Φ i = S_is_whole_094d) : ∀ ds M X Q, ds.length = 3 → S_is_between_f089 ds M X Q → wpF Φ 3 (B_is_between_f089 i) ds M X Q := by
  rintro ds M X Q - ⟨d, lo, hi, rfl, hd, hq⟩
  show wpSs Φ (B_is_between_f089 i) [some d, some (.int lo), some (.int hi)] M (subX X) _
  walk_at "rfw"; rw [h]; refine ⟨d, rfl, hd, ?_⟩; walk_at "rfw"
  cases d <;> first | (cases hd; done) | skip
  case int i =>
    refine ite_t rfl ?_; walk_at "rfw"
    refine ite_p (fun h1 => ?_) (fun h1 => ?_)
    · walk_at "rfw"; refine subQ_here ?_; simpa [btB, h1] using hq
    · walk_at "rfw"; refine subQ_here ?_; simpa [btB, h1] using hq
  all_goals (refine ite_f rfl ?_; walk_at "rfw"; exact subQ_here hq)
/-! is_tuple_of_1aaa: slots ('value', 'many') -/
@[reducible] def B_is_tuple_of_1aaa : List CS := [.ret (.and [(.bi (.isI .tuple) [(.var 0)]), (.cmp .Eq (.bi .len [(.var 0)]) (.var 1))])]
def tupLen : D → Int → Bool
  | .tup xs, m => decide ((xs.length : Int) = m)
  | _, _ => false
@[reducible] def S_is_tuple_of_1aaa : Spec := fun ds M _ Q => ∃ d, ∃ m : Int, ds = [d, .int m] ∧ okV d = true ∧ Q (.bl (tupLen d m)) M
theorem T_is_tuple_of_1aaa {Φ : Nat → Spec} : ∀ ds M X Q, ds.length = 2 → S_is_tuple_of_1aaa ds M X Q → wpF Φ 2 B_is_tuple_of_1aaa ds M X Q := by
  rintro ds M X Q - ⟨d, m, rfl, hd, hq⟩
  show wpSs Φ B_is_tuple_of_1aaa [some d, some (.int m)] M (subX X) _
  cases d <;> first | (cases hd; done) | skip
  all_goals (walk_at "rfs"; exact subQ_here hq)
/-! people_of_length_e5f5: slots ('length', 'many') -/
@[reducible] def B_people_of_length_e5f5 : List CS := [.ret (.lc [("many", 1)] (.nm 1) (.bi .range [(.lit (.int 1)), (.bop .Add (.gl "MOST_PEOPLE" (.int (6))) (.lit (.int 1)))]) [(.cmp .Eq (.bop .LShift (.lit (.int 1)) (.var 1)) (.var 0))] (.var 1))]
@[reducible] def S_people_of_length_e5f5 : Spec := fun ds M _ Q => ∃ k, ds = [.int k] ∧ Q (.lst (polF k)) M
theorem T_people_of_length_e5f5 {Φ : Nat → Spec} : ∀ ds M X Q, ds.length = 1 → S_people_of_length_e5f5 ds M X Q → wpF Φ 2 B_people_of_length_e5f5 ds M X Q := by
  rintro ds M X Q - ⟨k, rfl, hq⟩
  show wpSs Φ B_people_of_length_e5f5 [some (.int k), none] M (subX X) _
  walk_at "rfw"; refine ⟨rngOk_s (by decide) (by decide) (by decide) (by decide), ?_⟩
  refine lcGo_pure (M := M) (fun d => match d with | .int n => if 2 ^ n.toNat = k then some (.int n) else none | _ => none) (fun x hx K K' hK => ?_) ?_
  · have hx : x ∈ ([.int 1, .int 2, .int 3, .int 4, .int 5, .int 6] : List D) := hx
    simp only [List.mem_cons, List.not_mem_nil, or_false] at hx
    rcases hx with rfl | rfl | rfl | rfl | rfl | rfl
    all_goals
      walk_at "rfw"; refine ⟨pow_s (by decide) (by decide) (by decide) (by decide), ?_⟩
      refine ite_p (fun h1 => ?_) (fun h1 => ?_)
      · walk_at "rfw"
        have h2 : (2 : Int) ^ _ = k := (Int.one_mul _).symm.trans h1
        simp only [h2, if_true] at hK
        exact hK
      · have h2 : ¬ (2 : Int) ^ _ = k := fun z => h1 ((Int.one_mul _).trans z)
        simp only [h2, if_false] at hK
        exact hK
  · refine subQ_here ?_
    exact hq
/-! is_worth_6548: slots ('value',) -/
@[reducible] def B_is_worth_6548 (i_is_between : Nat) : List CS := [.ret (.call i_is_between [(.var 0), (.neg (.gl "MOST_WORTH" (.int (9999)))), (.gl "MOST_WORTH" (.int (9999)))])]
@[reducible] def S_is_worth_6548 : Spec := fun ds M _ Q => ∃ d, ds = [d] ∧ okV d = true ∧ Q (.bl (btB d (-9999) 9999)) M
theorem T_is_worth_6548 {Φ : Nat → Spec} (i : Nat) (h : Φ i = S_is_between_f089) : ∀ ds M X Q, ds.length = 1 → S_is_worth_6548 ds M X Q → wpF Φ 1 (B_is_worth_6548 i) ds M X Q := by
  rintro ds M X Q - ⟨d, rfl, hd, hq⟩
  show wpSs Φ (B_is_worth_6548 i) [some d] M (subX X) _
  walk_at "rfw"; rw [h]; exact ⟨d, _, _, rfl, hd, subQ_here hq⟩
/-! wrong_in_table_89b2: slots ('value', 'index', 'each') -/
@[reducible] def B_wrong_in_table_89b2_s0 (i_is_worth : Nat) (i_people_of_length : Nat) : CS := .iff (.or [(.not (.bi (.isI .tuple) [(.var 0)])), (.cmp .Eq (.call i_people_of_length [(.bi .len [(.var 0)])]) (.lst false []))]) [.ret (.lst false [(.lit .non)])] []
@[reducible] def B_wrong_in_table_89b2_s1 (i_is_worth : Nat) (i_people_of_length : Nat) : CS := .for_ (.tup [(.nm 1), (.nm 2)]) (.bi .enum [(.var 0)]) [.iff (.or [(.not (.call i_is_worth [(.var 2)])), (.and [(.cmp .Eq (.var 1) (.gl "NOBODY" (.int (0)))), (.cmp .NotEq (.var 2) (.lit (.int 0)))])]) [.ret (.lst false [(.var 1)])] []]
@[reducible] def B_wrong_in_table_89b2_s2 (i_is_worth : Nat) (i_people_of_length : Nat) : CS := .ret (.lst false [])
@[reducible] def B_wrong_in_table_89b2 (i_is_worth : Nat) (i_people_of_length : Nat) : List CS := [B_wrong_in_table_89b2_s0 i_is_worth i_people_of_length, B_wrong_in_table_89b2_s1 i_is_worth i_people_of_length, B_wrong_in_table_89b2_s2 i_is_worth i_people_of_length]
@[reducible] def S_wrong_in_table_89b2 : Spec := fun ds M _ Q => ∃ v, ds = [v] ∧ okV2 v = true ∧ Q (.lst (wrongT v)) M
theorem T_wrong_in_table_89b2 {Φ : Nat → Spec} (iw : Nat) (hw : Φ iw = S_is_worth_6548) (ip : Nat) (hp : Φ ip = S_people_of_length_e5f5) : ∀ ds M X Q, ds.length = 1 → S_wrong_in_table_89b2 ds M X Q → wpF Φ 3 (B_wrong_in_table_89b2 iw ip) ds M X Q := by
  rintro ds M X Q - ⟨v, rfl, hv0, hq⟩
  show wpSs Φ (B_wrong_in_table_89b2 iw ip) [some v, none, none] M (subX X) _
  obtain ⟨hv, hv2⟩ := and2 (show (okV v && _) = true from hv0)
  cases v <;> first | (cases hv; done) | (walk_at "rfs"; exact subQ_here hq) | skip
  case tup xs =>
    have hv2 : xs.all okV = true := hv2
    walk_at "rfw"; refine ite_f rfl ?_; walk_at "rfw"; rw [hp]; refine ⟨_, rfl, ?_⟩; walk_at "rfw"
    refine ⟨_, eqNilA, ?_⟩
    have e0 : wrongT (.tup xs) = if (polF (xs.length : Nat)).isEmpty = true then [.non] else badL xs 0 := rfl
    refine ite_b (fun h => ?_) (fun h => ?_)
    · rw [e0, if_pos h] at hq
      walk_at "rfs"; exact subQ_here hq
    · rw [e0, if_neg (by rw [h]; decide)] at hq
      walk_at "rfw"
      refine forGo_inv (fun ys ρ M' => M' = M ∧ ∃ k, ys = enumFrom k (xs.drop k) ∧ badL (xs.drop k) k = badL xs 0 ∧ ∃ a b, ρ = [some (.tup xs), a, b]) ?_ ?_ ⟨rfl, 0, rfl, rfl, _, _, rfl⟩
      · rintro x ys ρ M' ⟨rfl, k, e, hb, a, b, rfl⟩ K hK
        have hk : k < xs.length := by
          rcases Nat.lt_or_ge k xs.length with h | h
          · exact h
          · rw [List.drop_eq_nil_of_le h] at e; cases e
        rw [List.drop_eq_getElem_cons hk] at e hb
        cases e
        have hok : okV xs[k] = true := List.all_eq_true.mp hv2 _ (List.getElem_mem hk)
        have stop : okAt (xs[k], k) = false → subQ Q (.lst [.int (k : Nat)]) M' := fun z => by
          rw [badL_no z] at hb
          rw [hb]; exact subQ_here hq
        walk_at "rfw"; refine ⟨rfl, ?_⟩; walk_at "rfw"; rw [hw]; refine ⟨_, rfl, hok, ?_⟩; walk_at "rfw"
        refine ite_b (fun g => ?_) (fun g => ?_)
        · have g : btB xs[k] (-9999) 9999 = false := by simpa using g
          walk_at "rfs"; exact stop (by unfold okAt; rw [g]; rfl)
        · have g : btB xs[k] (-9999) 9999 = true := by simpa using g
          obtain ⟨i, hi⟩ : ∃ i, xs[k] = .int i := by
            revert g; cases xs[k] <;> intro g <;> first | exact ⟨_, rfl⟩ | cases g
          walk_at "rfw"; refine ite_p (fun h0 => ?_) (fun h0 => ?_)
          · have hk0 : k = 0 := by omega
            walk_at "rfw"; rw [hi]; walk_at "rfw"
            refine ite_b (fun n0 => ?_) (fun n0 => ?_)
            · walk_at "rfs"
              refine stop ?_
              unfold okAt
              have n1 : (i == 0) = false := by simpa using n0
              rw [hi]
              show (btB (D.int i) (-9999) 9999 && (k != 0 || (i == 0))) = false
              rw [n1, hk0]; simp
            · walk_at "rfw"
              rw [badL_ok (show okAt (xs[k], k) = true by unfold okAt; rw [hi] at g ⊢; rw [g]; have : i = 0 := (by simpa using n0); simp [this])] at hb
              exact hK _ _ ⟨rfl, _, rfl, hb, _, _, rfl⟩
          · walk_at "rfw"
            rw [badL_ok (show okAt (xs[k], k) = true by unfold okAt; rw [g]; have : k ≠ 0 := (by omega); simp [this])] at hb
            exact hK _ _ ⟨rfl, _, rfl, hb, _, _, rfl⟩
      · rintro ρ M' ⟨rfl, k, e, hb, a, b, rfl⟩
        have hk : xs.length ≤ k := by
          rcases Nat.lt_or_ge k xs.length with h | h
          · rw [List.drop_eq_getElem_cons h] at e; cases e
          · exact h
        rw [List.drop_eq_nil_of_le hk, badL_nil] at hb
        rw [← hb] at hq
        walk_at "rfw"; exact subQ_here hq
/-! is_table_by_e3ad: slots ('value',) -/
@[reducible] def B_is_table_by_e3ad (i_wrong_in_table : Nat) : List CS := [.ret (.cmp .Eq (.call i_wrong_in_table [(.var 0)]) (.lst false []))]
@[reducible] def S_is_table_by_e3ad : Spec := S_istab
theorem T_is_table_by_e3ad {Φ : Nat → Spec} (i : Nat) (h : Φ i = S_wrong_in_table_89b2) : ∀ ds M X Q, ds.length = 1 → S_is_table_by_e3ad ds M X Q → wpF Φ 1 (B_is_table_by_e3ad i) ds M X Q := by
  rintro ds M X Q - ⟨v, rfl, hv, hq⟩
  show wpSs Φ (B_is_table_by_e3ad i) [some v] M (subX X) _
  walk_at "rfw"; rw [h]; refine ⟨v, rfl, hv, ?_⟩; walk_at "rfw"
  refine ⟨_, eqNilA, ?_⟩; rw [wrongT_empty]; exact subQ_here hq
/-! is_lot_97ca: slots ('table', 'value') -/
@[reducible] def B_is_lot_97ca (i_is_between : Nat) : List CS := [.ret (.call i_is_between [(.var 1), (.gl "NOBODY" (.int (0))), (.bop .Sub (.bi .len [(.var 0)]) (.lit (.int 1)))])]
@[reducible] def S_is_lot_97ca : Spec := fun ds M _ Q => ∃ xs d, ds = [.tup xs, d] ∧ okV d = true ∧ Q (.bl (btB d 0 ((xs.length : Int) - 1))) M
theorem T_is_lot_97ca {Φ : Nat → Spec} (i : Nat) (h : Φ i = S_is_between_f089) : ∀ ds M X Q, ds.length = 2 → S_is_lot_97ca ds M X Q → wpF Φ 2 (B_is_lot_97ca i) ds M X Q := by
  rintro ds M X Q - ⟨xs, d, rfl, hd, hq⟩
  show wpSs Φ (B_is_lot_97ca i) [some (.tup xs), some d] M (subX X) _
  walk_at "rfw"; rw [h]; exact ⟨d, _, _, rfl, hd, subQ_here hq⟩
/-! is_lot_pair_648c: slots ('many', 'value') -/
@[reducible] def B_is_lot_pair_648c (i_is_between : Nat) (i_is_tuple_of : Nat) (i_is_worth : Nat) : List CS := [.ret (.and [(.call i_is_tuple_of [(.var 1), (.lit (.int 2))]), (.call i_is_between [(.ix (.var 1) (.lit (.int 0))), (.lit (.int 1)), (.bop .Sub (.bop .LShift (.lit (.int 1)) (.var 0)) (.lit (.int 1)))]), (.call i_is_worth [(.ix (.var 1) (.lit (.int 1)))])])]
def lotPB (n : Nat) : D → Bool
  | .tup [a, b] => btB a 1 ((2 ^ n : Nat) - 1 : Int) && btB b (-9999) 9999
  | _ => false
@[reducible] def S_is_lot_pair_648c : Spec := fun ds M _ Q => ∃ n : Nat, ∃ v, ds = [.int n, v] ∧ n ≤ 6 ∧ okV2 v = true ∧ Q (.bl (lotPB n v)) M
theorem T_is_lot_pair_648c {Φ : Nat → Spec} (ib : Nat) (hb : Φ ib = S_is_between_f089) (it : Nat) (ht : Φ it = S_is_tuple_of_1aaa) (iw : Nat) (hw : Φ iw = S_is_worth_6548) : ∀ ds M X Q, ds.length = 2 → S_is_lot_pair_648c ds M X Q → wpF Φ 2 (B_is_lot_pair_648c ib it iw) ds M X Q := by
  rintro ds M X Q - ⟨n, v, rfl, h6, hv0, hq⟩
  obtain ⟨hv, hv2⟩ := and2 (show (okV v && _) = true from hv0)
  show wpSs Φ (B_is_lot_pair_648c ib it iw) [some (.int n), some v] M (subX X) _
  walk_at "rfw"; rw [ht]; refine ⟨v, 2, rfl, hv, ?_⟩; walk_at "rfw"
  refine ite_b (fun g => ?_) (fun g => ?_)
  · cases v <;> first | (cases g; done) | skip
    case tup xs =>
      match xs, g, hv2, hq with
      | [a, b], _, hv2, hq =>
        have o : okV a = true ∧ okV b = true := by simpa using hv2
        walk_at "rfw"; refine ixL_of rfl ?_; walk_at "rfw"
        refine ⟨pow_s (by omega) (by omega) (by omega) (by omega), ?_⟩; walk_at "rfw"
        rw [show (1 : Int) * 2 ^ ((n : Nat) : Int).toNat - 1 = ((2 ^ n : Nat) - 1 : Int) from by rw [Int.toNat_natCast]; push_cast; omega]
        rw [hb]; refine ⟨a, _, _, rfl, o.1, ?_⟩; walk_at "rfw"
        refine ite_b (fun g1 => ?_) (fun g1 => ?_)
        · walk_at "rfw"; refine ixL_of rfl ?_; walk_at "rfw"; rw [hw]; refine ⟨b, rfl, o.2, subQ_here ?_⟩
          have : lotPB n (.tup [a, b]) = btB b (-9999) 9999 := by show (_ && _) = _; rw [g1]; rfl
          rw [this] at hq; exact hq
        · walk_at "rfw"
          have : lotPB n (.tup [a, b]) = false := by show (_ && _) = _; rw [g1]; rfl
          rw [this] at hq; rw [g1]; exact subQ_here hq
      | [], g, _, _ => cases g
      | [_], g, _, _ => cases g
      | _ :: _ :: _ :: l, g, _, _ =>
        exfalso
        have g : decide (((l.length + 1 + 1 + 1 : Nat) : Int) = 2) = true := g
        have := of_decide_eq_true g
        omega
  · walk_at "rfw"
    have : lotPB n v = false := by
      unfold lotPB
      split
      · cases g
      · rfl
    rw [this] at hq; rw [g]; exact subQ_here hq
/-! wrong_in_pairs_bcc7: slots ('many', 'value', 'index', 'each', 'lot', 'worth') -/
@[reducible] def B_wrong_in_pairs_bcc7_s0 (i_is_lot_pair : Nat) : CS := .iff (.not (.bi (.isI .tuple) [(.var 1)])) [.ret (.lst false [(.lit .non)])] []
@[reducible] def B_wrong_in_pairs_bcc7_s1 (i_is_lot_pair : Nat) : CS := .for_ (.tup [(.nm 2), (.nm 3)]) (.bi .enum [(.var 1)]) [.iff (.or [(.not (.call i_is_lot_pair [(.var 0), (.var 3)])), (.cmp .In (.ix (.var 3) (.lit (.int 0))) (.lc [("lot", 4), ("worth", 5)] (.tup [(.nm 4), (.nm 5)]) (.sl (.var 1) [] [(.var 2)]) [] (.var 4)))]) [.ret (.lst false [(.var 2)])] []]
@[reducible] def B_wrong_in_pairs_bcc7_s2 (i_is_lot_pair : Nat) : CS := .ret (.lst false [])
@[reducible] def B_wrong_in_pairs_bcc7 (i_is_lot_pair : Nat) : List CS := [B_wrong_in_pairs_bcc7_s0 i_is_lot_pair, B_wrong_in_pairs_bcc7_s1 i_is_lot_pair, B_wrong_in_pairs_bcc7_s2 i_is_lot_pair]
@[reducible] def prII (p : Int × Int) : D := .tup [.int p.1, .int p.2]
def okV3 (d : D) : Bool := okV d && (match d with | .tup xs => xs.all okV2 | _ => true)
def wpGo (n : Nat) : List D → List Int → Nat → List D
  | [], _, _ => []
  | e :: r, ls, k => if lotPB n e = true then (match e with
      | .tup (.int l :: _) => if l ∈ ls then [.int (k : Nat)] else wpGo n r (ls ++ [l]) (k + 1)
      | _ => []) else [.int (k : Nat)]
def wrongP (n : Nat) : D → List D
  | .tup xs => wpGo n xs [] 0
  | _ => [.non]
theorem lotP_of {n : Nat} {e : D} (h : lotPB n e = true) : ∃ p : Int × Int, e = prII p ∧ 1 ≤ p.1 ∧ p.1 < (2 ^ n : Nat) ∧ -9999 ≤ p.2 ∧ p.2 ≤ 9999 := by
  unfold lotPB at h
  split at h
  · rename_i a b
    obtain ⟨h1, h2⟩ := and2 h
    cases a <;> first | (cases h1; done) | skip
    cases b <;> first | (cases h2; done) | skip
    rename_i i j
    obtain ⟨a1, a2⟩ := and2 (show (decide _ && decide _) = true from h1)
    obtain ⟨b1, b2⟩ := and2 (show (decide _ && decide _) = true from h2)
    have a1 := of_decide_eq_true a1
    have a2 := of_decide_eq_true a2
    have b1 := of_decide_eq_true b1
    have b2 := of_decide_eq_true b2
    exact ⟨(i, j), rfl, a1, by show i < _; omega, b1, b2⟩
  · cases h
@[reducible] def S_wrong_in_pairs_bcc7 : Spec := fun ds M _ Q => ∃ n : Nat, ∃ v, ds = [.int n, v] ∧ n ≤ 6 ∧ okV3 v = true ∧ Q (.lst (wrongP n v)) M
theorem T_wrong_in_pairs_bcc7 {Φ : Nat → Spec} (i : Nat) (h : Φ i = S_is_lot_pair_648c) : ∀ ds M X Q, ds.length = 2 → S_wrong_in_pairs_bcc7 ds M X Q → wpF Φ 6 (B_wrong_in_pairs_bcc7 i) ds M X Q := by
  rintro ds M X Q - ⟨n, v, rfl, h6, hv0, hq⟩
  obtain ⟨hv, hv2⟩ := and2 (show (okV v && _) = true from hv0)
  show wpSs Φ (B_wrong_in_pairs_bcc7 i) [some (.int n), some v, none, none, none, none] M (subX X) _
  cases v <;> first | (cases hv; done) | skip
  case tup xs =>
    walk_at "rfw"; refine ite_f rfl ?_; walk_at "rfw"
    have hall := List.all_eq_true.mp hv2
    rw [show enumFrom 0 xs = enumFrom 0 (xs.map fun d => d) from by rw [List.map_id'], enum_zip]
    refine forGo_list (fun p : D × Nat => D.tup [.int (p.2 : Nat), p.1]) (fun done rest ρ M' => M' = M ∧ ∃ (P : List (Int × Int)) (x2 x3 x4 x5 : Option D), xs.take done.length = P.map prII ∧ P.length = done.length ∧ wrongP n (.tup xs) = wpGo n (rest.map (·.1)) (P.map (·.1)) done.length ∧ ρ = [some (.int n), some (.tup xs), x2, x3, x4, x5]) ?_ ?_ ⟨rfl, [], _, _, _, _, rfl, rfl, ?_, rfl⟩
    · rintro ⟨e, k⟩ done rest ρ M' eq ⟨rfl, P, x2, x3, x4, x5, hP, hl, hw, rfl⟩ K hK
      have hm : (e, k) ∈ xs.zipIdx := by rw [← eq]; simp
      have hk : xs.zipIdx[done.length]? = some (e, k) := by rw [← eq]; simp
      rw [List.getElem?_zipIdx] at hk
      obtain ⟨e', h1, h2⟩ := Option.map_eq_some_iff.mp hk
      have hkd : k = done.length := by have := congrArg Prod.snd h2; simp at this; exact this.symm
      have hee : e' = e := congrArg Prod.fst h2
      subst hkd hee
      have hmem := List.mem_of_getElem? h1
      walk_at "rfw"; refine ⟨rfl, ?_⟩; walk_at "rfw"; rw [h]; refine ⟨n, e', rfl, h6, hall _ hmem, ?_⟩; walk_at "rfw"
      have hw2 : wrongP n (.tup xs) = wpGo n (e' :: rest.map (·.1)) (P.map (·.1)) done.length := hw
      refine ite_b (fun g => ?_) (fun g => ?_)
      · have g : lotPB n e' = false := by simpa using g
        unfold wpGo at hw2
        rw [g, if_neg (by decide)] at hw2
        walk_at "rfw"; rw [hw2] at hq; exact subQ_here hq
      · have g : lotPB n e' = true := by simpa using g
        obtain ⟨p, rfl, p1, p2, p3, p4⟩ := lotP_of g
        walk_at "rfw"; refine ixL_of rfl ?_; walk_at "rfw"
        rw [cut_take, hP]
        refine lcGo_all (M := M') prII (fun p => .int p.1) (fun q hq K1 K1' e1 => ?_) ?_
        · walk_at "rfw"; refine ⟨rfl, ?_⟩; walk_at "rfw"; refine ite_t rfl ?_; walk_at "rfw"; exact e1
        rw [List.nil_append, show P.map (fun p => D.int p.1) = (P.map (·.1)).map D.int from map_int]
        walk_at "rfw"; refine inSeq_ints ?_
        unfold wpGo at hw2
        rw [g, if_pos rfl] at hw2
        have hw2 : wrongP n (.tup xs) = if p.1 ∈ P.map (·.1) then [.int (done.length : Nat)] else wpGo n (rest.map (·.1)) (P.map (·.1) ++ [p.1]) (done.length + 1) := hw2
        refine ite_p (fun m => ?_) (fun m => ?_)
        · rw [if_pos m] at hw2
          walk_at "rfw"; rw [hw2] at hq; exact subQ_here hq
        · rw [if_neg m] at hw2
          walk_at "rfw"; refine hK _ _ ⟨rfl, P ++ [p], _, _, _, _, ?_, by simp [hl], ?_, rfl⟩
          · rw [List.length_append, List.length_singleton, List.take_succ, h1, hP, List.map_append]; rfl
          · rw [hw2, List.map_append, List.length_append]; rfl
    · rintro ρ M' ⟨rfl, P, x2, x3, x4, x5, hP, hl, hw, rfl⟩
      walk_at "rfw"; rw [hw] at hq; exact subQ_here hq
    · show wpGo n xs [] 0 = _
      rw [show (xs.zipIdx 0).map (·.1) = xs from by
        have : ∀ (l : List D) (k : Nat), (l.zipIdx k).map (·.1) = l := fun l => by
          induction l with
          | nil => intro k; rfl
          | cons x l ih => intro k; rw [List.zipIdx_cons, List.map_cons, ih]
        exact this xs 0]
      rfl
  all_goals (walk_at "rfw"; refine ite_t rfl ?_; walk_at "rfw"; exact subQ_here hq)
/-! table_of_pairs_3cc1: slots ('many', 'pairs', 'worths', 'lot', 'worth') -/
@[reducible] def B_table_of_pairs_3cc1_s0 : CS := .asg 2 (.dc [("lot", 3), ("worth", 4)] (.tup [(.nm 3), (.nm 4)]) (.var 1) [] (.var 3) (.var 4))
@[reducible] def B_table_of_pairs_3cc1_s1 : CS := .ret (.bi .tupleOf [(.lc [("lot", 3)] (.nm 3) (.bi .range [(.bop .LShift (.lit (.int 1)) (.var 0))]) [] (.mt .dget (.var 2) [(.var 3), (.lit (.int 0))]))])
@[reducible] def B_table_of_pairs_3cc1 : List CS := [B_table_of_pairs_3cc1_s0, B_table_of_pairs_3cc1_s1]
/-- what a lot is worth in pairs -/
def pairW (P : List (Int × Int)) (l : Int) : Int := ((P.find? fun p => decide (p.1 = l)).map (·.2)).getD 0
def tabP (n : Nat) (P : List (Int × Int)) : List Int := (List.range (2 ^ n)).map fun l => pairW P (l : Nat)
theorem putL_fresh {ks : List Key} {xs : List D} {k : Key} {x : D} (h : k ∉ ks) : putL ks xs k x = (ks ++ [k], xs ++ [x]) := by
  unfold putL
  rw [if_neg]
  intro z
  obtain ⟨j, hj, e⟩ := List.any_eq_true.mp z
  exact h (of_decide_eq_true e ▸ hj)
theorem dcGo_pairs {g : D → (DEnv → Prop) → Prop} {t : DEnv → Mem → (Bool → Mem → Prop) → Prop} {e v : DEnv → Mem → QD → Prop} {M : Mem} {QQ : List Key → List D → Mem → Prop} : ∀ {P P0 : List (Int × Int)}, ((P0 ++ P).map (·.1)).Nodup → (P0 ++ P).length ≤ 1000 →
    (∀ p ∈ P, ∀ KK : DEnv → Prop, (∀ ρ, (∀ (K : Bool → Mem → Prop), K true M → t ρ M K) → (∀ K : QD, K (.int p.1) M → e ρ M K) → (∀ K : QD, K (.int p.2) M → v ρ M K) → KK ρ) → g (prII p) KK) →
    QQ ((P0 ++ P).map fun p => .inl p.1) ((P0 ++ P).map fun p => .int p.2) M → dcGo g t e v (P.map prII) (P0.map fun p => .inl p.1) (P0.map fun p => .int p.2) M QQ
  | [], P0, _, _, _, hq => by rw [List.append_nil] at hq; exact hq
  | p :: P, P0, hn, hl, hs, hq => by
    have ap : P0 ++ p :: P = (P0 ++ [p]) ++ P := by simp
    show g (prII p) _
    refine hs p (List.mem_cons_self ..) _ fun ρ h1 h2 h3 => ?_
    refine h1 _ ?_
    simp only [if_true]
    refine h2 _ ?_
    refine h3 _ ?_
    refine ⟨?_, ?_⟩
    · rw [List.length_map, sizeLine_eq]
      rw [List.length_append] at hl; omega
    · have fr : (Sum.inl p.1 : Key) ∉ P0.map fun p => (Sum.inl p.1 : Key) := fun z => by
        obtain ⟨q, hq2, e⟩ := List.mem_map.mp z
        have e := Sum.inl.inj e
        rw [List.map_append, List.map_cons, List.nodup_append] at hn
        exact hn.2.2 _ (List.mem_map.mpr ⟨q, hq2, rfl⟩) _ (List.mem_cons_self ..) e
      rw [putL_fresh fr]
      show dcGo g t e v (P.map prII) (P0.map (fun p => Sum.inl p.1) ++ [Sum.inl p.1]) (P0.map (fun p => D.int p.2) ++ [D.int p.2]) M QQ
      rw [show P0.map (fun p => (Sum.inl p.1 : Key)) ++ [Sum.inl p.1] = (P0 ++ [p]).map fun p => Sum.inl p.1 from by rw [List.map_append]; rfl, show P0.map (fun p => D.int p.2) ++ [D.int p.2] = (P0 ++ [p]).map fun p => D.int p.2 from by rw [List.map_append]; rfl]
      exact dcGo_pairs (by rw [← ap]; exact hn) (by rw [← ap]; exact hl) (fun q hq2 => hs q (List.mem_cons_of_mem _ hq2)) (by rw [← ap]; exact hq)
theorem valL_pairs {P : List (Int × Int)} {l : Int} : (valL (P.map fun p => (Sum.inl p.1 : Key)) (P.map fun p => D.int p.2) (.inl l)).getD (.int 0) = .int (pairW P l) := by
  unfold valL pairW
  induction P with
  | nil => rfl
  | cons p P ih =>
    rw [List.map_cons, List.map_cons, List.zip_cons_cons, List.find?_cons, List.find?_cons]
    by_cases h : p.1 = l
    · rw [show decide ((Sum.inl p.1 : Key) = Sum.inl l) = true from decide_eq_true (congrArg _ h), decide_eq_true h]; rfl
    · rw [show decide ((Sum.inl p.1 : Key) = Sum.inl l) = false from decide_eq_false (fun z => h (Sum.inl.inj z)), decide_eq_false h]
      exact ih
@[reducible] def S_table_of_pairs_3cc1 : Spec := fun ds M _ Q => ∃ (n : Nat) (P : List (Int × Int)), ds = [.int n, .tup (P.map prII)] ∧ n ≤ 6 ∧ (P.map (·.1)).Nodup ∧ P.length ≤ 1000 ∧ Q (tabD (tabP n P)) M
theorem T_table_of_pairs_3cc1 {Φ : Nat → Spec} : ∀ ds M X Q, ds.length = 2 → S_table_of_pairs_3cc1 ds M X Q → wpF Φ 5 B_table_of_pairs_3cc1 ds M X Q := by
  rintro ds M X Q - ⟨n, P, rfl, h6, hn, hl, hq⟩
  show wpSs Φ B_table_of_pairs_3cc1 [some (.int n), some (.tup (P.map prII)), none, none, none] M (subX X) _
  have h64 := pow64 h6
  walk_at "rfw"
  refine dcGo_pairs (P0 := []) (M := M) hn hl (fun p hp KK h => ?_) ?_
  · walk_at "rfw"; refine ⟨rfl, ?_⟩; walk_at "rfw"; refine h _ (fun K h => ?_) (fun K h => ?_) (fun K h => ?_) <;> (walk_at "rfw"; exact h)
  · rw [List.nil_append]
    walk_at "rfw"; refine ⟨pow_s (by omega) (by omega) (by omega) (by omega), ?_⟩; walk_at "rfw"
    rw [show (1 : Int) * 2 ^ ((n : Nat) : Int).toNat = ((2 ^ n : Nat) : Int) from by simp, rng0]
    refine ⟨rngOk0 (by omega), ?_⟩
    refine lcGo_nat (fun l => .int (pairW P (l : Nat))) (fun l hl K K' hK => ?_) ?_
    · walk_at "rfw"; refine ite_t rfl ?_; walk_at "rfw"; rw [valL_pairs]; exact hK
    · walk_at "rfw"; rw [show ((List.range (2 ^ n)).map fun l => D.int (pairW P (l : Nat))) = (tabP n P).map D.int from map_int]
      exact subQ_here hq
/-! check_table_6a78: slots ('value', 'index') -/
@[reducible] def B_check_table_6a78 (i_wrong_in_table : Nat) : List CS := [.for_ (.nm 1) (.call i_wrong_in_table [(.var 0)]) [.never]]
@[reducible] def S_check_table_6a78 : Spec := fun ds M _ Q => ∃ n ts, ds = [tabD ts] ∧ Tab n ts ∧ Q .non M
theorem T_check_table_6a78 {Φ : Nat → Spec} (i : Nat) (h : Φ i = S_wrong_in_table_89b2) : ∀ ds M X Q, ds.length = 1 → S_check_table_6a78 ds M X Q → wpF Φ 2 (B_check_table_6a78 i) ds M X Q := by
  rintro ds M X Q - ⟨n, ts, rfl, ht, hq⟩
  show wpSs Φ (B_check_table_6a78 i) [some (tabD ts), none] M (subX X) _
  walk_at "rfw"; rw [h]; refine ⟨tabD ts, rfl, by show (true && (ts.map D.int).all okV) = true; rw [Bool.true_and, List.all_map, List.all_eq_true]; exact fun _ _ => rfl, ?_⟩; walk_at "rfw"
  rw [wrongT_tab ht]
  exact forGo_nil (subQ_here hq)
/-! check_lot_ee10: slots ('table', 'value') -/
@[reducible] def B_check_lot_ee10 (i_is_lot : Nat) : List CS := [.iff (.not (.call i_is_lot [(.var 0), (.var 1)])) [.never] []]
@[reducible] def S_check_lot_ee10 : Spec := fun ds M _ Q => ∃ (xs : List D) (l : Nat), ds = [.tup xs, .int l] ∧ l < xs.length ∧ Q .non M
theorem T_check_lot_ee10 {Φ : Nat → Spec} (i : Nat) (h : Φ i = S_is_lot_97ca) : ∀ ds M X Q, ds.length = 2 → S_check_lot_ee10 ds M X Q → wpF Φ 2 (B_check_lot_ee10 i) ds M X Q := by
  rintro ds M X Q - ⟨xs, l, rfl, hl, hq⟩
  show wpSs Φ (B_check_lot_ee10 i) [some (.tup xs), some (.int l)] M (subX X) _
  walk_at "rfw"; rw [h]; refine ⟨_, _, rfl, rfl, ?_⟩; walk_at "rfw"
  refine ite_f (by rw [btB_nat (by omega) (by omega)]; rfl) ?_; walk_at "rfw"; exact subQ_here hq
/-! check_times_e793x: slots ('value', 'low', 'high') -/
@[reducible] def B_check_times_e793x (i_is_between : Nat) : List CS := [.iff (.not (.call i_is_between [(.var 0), (.var 1), (.var 2)])) [.raise_ 4 (.var 0)] []]
@[reducible] def S_check_times_e793x : Spec := fun ds M X Q => ∃ d lo hi, ds = [d, .int lo, .int hi] ∧ okV d = true ∧ (if btB d lo hi = true then Q .non M else X ⟨4, some d⟩ M)
theorem T_check_times_e793x {Φ : Nat → Spec} (i : Nat) (h : Φ i = S_is_between_f089) : ∀ ds M X Q, ds.length = 3 → S_check_times_e793x ds M X Q → wpF Φ 3 (B_check_times_e793x i) ds M X Q := by
  rintro ds M X Q - ⟨d, lo, hi, rfl, hd, hq⟩
  show wpSs Φ (B_check_times_e793x i) [some d, some (.int lo), some (.int hi)] M (subX X) _
  walk_at "rfw"; rw [h]; refine ⟨d, lo, hi, rfl, hd, ?_⟩; walk_at "rfw"
  refine ite_b (fun g => ?_) (fun g => ?_)
  · have g : btB d lo hi = false := by simpa using g
    rw [if_neg (by rw [g]; decide)] at hq
    walk_at "rfw"; exact subX_here hq
  · have g : btB d lo hi = true := by simpa using g
    rw [if_pos g] at hq
    walk_at "rfw"; exact subQ_here hq
/-! is_table_76a8: slots ('value',) -/
@[reducible] def B_is_table_76a8 (i_is_table_by : Nat) : List CS := [.ret (.call i_is_table_by [(.var 0)])]
@[reducible] def S_is_table_76a8 : Spec := S_istab
theorem T_is_table_76a8 {Φ : Nat → Spec} (i : Nat) (h : Φ i = S_is_table_by_e3ad) : ∀ ds M X Q, ds.length = 1 → S_is_table_76a8 ds M X Q → wpF Φ 1 (B_is_table_76a8 i) ds M X Q := by
  rintro ds M X Q - ⟨v, rfl, hv, hq⟩
  show wpSs Φ (B_is_table_76a8 i) [some v] M (subX X) _
  walk_at "rfw"; rw [h]; exact ⟨v, rfl, hv, subQ_here hq⟩
/-! check_asked_2f2b: slots ('table', 'lot') -/
@[reducible] def B_check_asked_2f2b_s0 (i_check_lot : Nat) (i_check_table : Nat) : CS := .expr (.call i_check_table [(.var 0)])
@[reducible] def B_check_asked_2f2b_s1 (i_check_lot : Nat) (i_check_table : Nat) : CS := .expr (.call i_check_lot [(.var 0), (.var 1)])
@[reducible] def B_check_asked_2f2b (i_check_lot : Nat) (i_check_table : Nat) : List CS := [B_check_asked_2f2b_s0 i_check_lot i_check_table, B_check_asked_2f2b_s1 i_check_lot i_check_table]
@[reducible] def S_check_asked_2f2b : Spec := fun ds M _ Q => ∃ n ts, ∃ l : Nat, ds = [tabD ts, .int l] ∧ Tab n ts ∧ l < ts.length ∧ Q .non M
theorem T_check_asked_2f2b {Φ : Nat → Spec} (il : Nat) (hl : Φ il = S_check_lot_ee10) (it : Nat) (ht : Φ it = S_check_table_6a78) : ∀ ds M X Q, ds.length = 2 → S_check_asked_2f2b ds M X Q → wpF Φ 2 (B_check_asked_2f2b il it) ds M X Q := by
  rintro ds M X Q - ⟨n, ts, l, rfl, hn, hlt, hq⟩
  show wpSs Φ (B_check_asked_2f2b il it) [some (tabD ts), some (.int l)] M (subX X) _
  walk_at "rfw"; rw [ht]; refine ⟨n, ts, rfl, hn, ?_⟩; walk_at "rfw"; rw [hl]; refine ⟨_, l, rfl, by simpa using hlt, ?_⟩; walk_at "rfw"; exact subQ_here hq
/-! worth_83ba: slots ('table', 'lot') -/
@[reducible] def B_worth_83ba_s0 (i_check_asked : Nat) : CS := .expr (.call i_check_asked [(.var 0), (.var 1)])
@[reducible] def B_worth_83ba_s1 (i_check_asked : Nat) : CS := .ret (.ix (.var 0) (.var 1))
@[reducible] def B_worth_83ba (i_check_asked : Nat) : List CS := [B_worth_83ba_s0 i_check_asked, B_worth_83ba_s1 i_check_asked]
@[reducible] def S_worth_83ba : Spec := fun ds M _ Q => ∃ n ts, ∃ l : Nat, ∃ h : l < ts.length, ds = [tabD ts, .int l] ∧ Tab n ts ∧ Q (.int ts[l]) M
theorem T_worth_83ba {Φ : Nat → Spec} (il : Nat) (hl : Φ il = S_check_asked_2f2b) : ∀ ds M X Q, ds.length = 2 → S_worth_83ba ds M X Q → wpF Φ 2 (B_worth_83ba il) ds M X Q := by
  rintro ds M X Q - ⟨n, ts, l, hlt, rfl, hn, hq⟩
  show wpSs Φ (B_worth_83ba il) [some (tabD ts), some (.int l)] M (subX X) _
  walk_at "rfw"; rw [hl]; refine ⟨n, ts, l, rfl, hn, hlt, ?_⟩; walk_at "rfw"; refine ixL_of (atI_ints hlt) ?_; exact subQ_here hq
/-! from_pairs_0e90x: slots ('times', 'pairs', 'index') -/
@[reducible] def B_from_pairs_0e90x_s0 (i_check_times : Nat) (i_table_of_pairs : Nat) (i_wrong_in_pairs : Nat) : CS := .expr (.call i_check_times [(.var 0), (.lit (.int 1)), (.gl "MOST_PEOPLE" (.int (6)))])
@[reducible] def B_from_pairs_0e90x_s1 (i_check_times : Nat) (i_table_of_pairs : Nat) (i_wrong_in_pairs : Nat) : CS := .for_ (.nm 2) (.call i_wrong_in_pairs [(.var 0), (.var 1)]) [.raise_ 15 (.var 2)]
@[reducible] def B_from_pairs_0e90x_s2 (i_check_times : Nat) (i_table_of_pairs : Nat) (i_wrong_in_pairs : Nat) : CS := .ret (.call i_table_of_pairs [(.var 0), (.var 1)])
@[reducible] def B_from_pairs_0e90x (i_check_times : Nat) (i_table_of_pairs : Nat) (i_wrong_in_pairs : Nat) : List CS := [B_from_pairs_0e90x_s0 i_check_times i_table_of_pairs i_wrong_in_pairs, B_from_pairs_0e90x_s1 i_check_times i_table_of_pairs i_wrong_in_pairs, B_from_pairs_0e90x_s2 i_check_times i_table_of_pairs i_wrong_in_pairs]
def pairsOf : D → List (Int × Int)
  | .tup xs => xs.filterMap fun | .tup [.int a, .int b] => some (a, b) | _ => none
  | _ => []
theorem pairsOf_map (P : List (Int × Int)) : pairsOf (.tup (P.map prII)) = P := by
  show (P.map prII).filterMap _ = P
  induction P with
  | nil => rfl
  | cons p P ih => rw [List.map_cons, List.filterMap_cons, ih]
def fromO (n : Nat) (v : D) : Except XD D := match wrongP n v with
  | d :: _ => .error ⟨15, some d⟩
  | [] => .ok (tabD (tabP n (pairsOf v)))
theorem wpGo_nil {n : Nat} : ∀ {xs : List D} {ls : List Int} {k : Nat}, wpGo n xs ls k = [] → ∃ P : List (Int × Int), xs = P.map prII ∧ (∀ p ∈ P, p.1 ∉ ls) ∧ (P.map (·.1)).Nodup ∧ ∀ p ∈ P, 1 ≤ p.1 ∧ p.1 < (2 ^ n : Nat)
  | [], ls, k, _ => ⟨[], rfl, (fun _ h => nomatch h), List.nodup_nil, (fun _ h => nomatch h)⟩
  | e :: r, ls, k, h => by
    unfold wpGo at h
    by_cases g : lotPB n e = true
    · rw [if_pos g] at h
      obtain ⟨p, rfl, p1, p2, _⟩ := lotP_of g
      have h : (if p.1 ∈ ls then [D.int (k : Nat)] else wpGo n r (ls ++ [p.1]) (k + 1)) = [] := h
      by_cases m : p.1 ∈ ls
      · rw [if_pos m] at h; cases h
      · rw [if_neg m] at h
        obtain ⟨P, rfl, h1, h2, h3⟩ := wpGo_nil h
        refine ⟨p :: P, rfl, fun q hq => ?_, ?_, fun q hq => ?_⟩
        · rcases List.mem_cons.mp hq with rfl | hq
          · exact m
          · exact fun z => h1 q hq (List.mem_append_left _ z)
        · rw [List.map_cons, List.nodup_cons]
          refine ⟨fun z => ?_, h2⟩
          obtain ⟨q, hq, e⟩ := List.mem_map.mp z
          exact h1 q hq (List.mem_append_right _ (by rw [e]; exact List.mem_singleton_self _))
        · rcases List.mem_cons.mp hq with rfl | hq
          · exact ⟨p1, p2⟩
          · exact h3 q hq
    · rw [if_neg g] at h; cases h
@[reducible] def S_from_pairs_0e90x : Spec := fun ds M X Q => ∃ n : Nat, ∃ v, ds = [.int n, v] ∧ 1 ≤ n ∧ n ≤ 6 ∧ okV3 v = true ∧ outP (fromO n v) M X Q
theorem T_from_pairs_0e90x {Φ : Nat → Spec} (ic : Nat) (hc : Φ ic = S_check_times_e793x) (it : Nat) (ht : Φ it = S_table_of_pairs_3cc1) (iw : Nat) (hw : Φ iw = S_wrong_in_pairs_bcc7) : ∀ ds M X Q, ds.length = 2 → S_from_pairs_0e90x ds M X Q → wpF Φ 3 (B_from_pairs_0e90x ic it iw) ds M X Q := by
  rintro ds M X Q - ⟨n, v, rfl, h1, h6, hv, hq⟩
  show wpSs Φ (B_from_pairs_0e90x ic it iw) [some (.int n), some v, none] M (subX X) _
  walk_at "rfw"; rw [hc]; refine ⟨_, _, _, rfl, rfl, ?_⟩
  rw [if_pos (by show (decide _ && decide _) = true; rw [decide_eq_true (by omega), decide_eq_true (by omega)]; rfl)]
  show wpSs _ _ _ _ _ _
  walk_at "rfw"; rw [hw]; refine ⟨n, v, rfl, h6, hv, ?_⟩; walk_at "rfw"
  unfold fromO at hq
  cases e : wrongP n v with
  | cons d r =>
    rw [e] at hq
    refine forGo_cons ?_
    walk_at "rfw"; exact subX_here hq
  | nil =>
    rw [e] at hq
    refine forGo_nil ?_
    show wpSs _ _ _ _ _ _
    cases v <;> first | (cases e; done) | skip
    case tup xs =>
      obtain ⟨P, rfl, _, hn, hb⟩ := wpGo_nil (show wpGo n xs [] 0 = [] from e)
      rw [pairsOf_map] at hq
      have hl : P.length ≤ 64 := by
        have := nodup_le (n := 2 ^ n) hn (fun x hx => by obtain ⟨p, hp, rfl⟩ := List.mem_map.mp hx; exact hb p hp)
        have := pow64 h6
        rw [List.length_map] at *
        omega
      walk_at "rfw"; rw [ht]; exact ⟨n, P, rfl, h6, hn, by omega, subQ_here hq⟩
/-! law_pool_3584: slots ('script', 'lap', 'own', 'stirred', 'cell') -/
@[reducible] def B_law_pool_3584_s0 : CS := .par [2, 3] [(.ifx (.cmp .Lt (.var 1) (.bi .len [(.var 0)])) (.bi .int1 [(.ix (.var 0) (.var 1))]) (.bop .Add (.bop .Mult (.lit (.int 70001)) (.var 1)) (.lit (.int 6455)))), (.bop .Add (.lit (.int 1124555)) (.bop .Mult (.lit (.int 5087)) (.var 1)))]
@[reducible] def B_law_pool_3584_s1 : CS := .for_ (.nm 4) (.sl (.var 0) [] [(.lit (.int 63))]) [.asg 3 (.bop .Mod (.bi .int1 [(.bop .Add (.bop .Add (.bop .Mult (.var 3) (.lit (.int 48271))) (.bop .Mod (.bi .int1 [(.var 4)]) (.lit (.int 2147483543)))) (.lit (.int 1015)))]) (.lit (.int 2147483543)))]
@[reducible] def B_law_pool_3584_s2 : CS := .ret (.lst true [(.bop .Mod (.bi .int1 [(.bop .Add (.var 3) (.bop .Mult (.var 2) (.lit (.int 1013))))]) (.lit (.int 2147483543))), (.ifx (.or [(.cmp .Lt (.var 2) (.lit (.int 0))), (.cmp .GtE (.var 2) (.bop .Pow (.lit (.int 10)) (.lit (.int 18))))]) (.bi .abs [(.var 2)]) (.lit (.int 0))), (.lit (.int 0))])
@[reducible] def B_law_pool_3584 : List CS := [B_law_pool_3584_s0, B_law_pool_3584_s1, B_law_pool_3584_s2]
@[reducible] def S_law_pool_3584 : Spec := S_pool
theorem T_law_pool_3584 {Φ : Nat → Spec} : ∀ ds M X Q, ds.length = 2 → S_law_pool_3584 ds M X Q → wpF Φ 5 B_law_pool_3584 ds M X Q := by
  rintro ds M X Q - ⟨ns, lap, hn, hl, rfl, hq⟩
  show wpSs Φ B_law_pool_3584 [some (.scr (ns.map D.int)), some (.int lap), none, none, none] M (subX X) _
  have fin : ∀ own st : Int, 0 ≤ st → st < 2147483543 → ∀ c, wpSs Φ [B_law_pool_3584.getD 2 .pass] [some (.scr (ns.map D.int)), some (.int lap), some (.int own), some (.int st), c] M (subX X) { nx := fun _ M1 => subQ Q .non M1, rt := subQ Q } := by
    intro own st h0 h1 c
    have last : ∀ b : Int, 0 ≤ b → ∀ p, M p = none → subQ Q (.cell p) (M.set p (.lst [.int ((st + own * 1013) % 2147483543), .int b, .int 0])) := fun b hb p hp => by
      have e := emod_b (a := st + own * 1013) (b := 2147483543) (by decide)
      exact subQ_here (hq p _ hp ⟨_, _, _, rfl, e.1, by omega, hb⟩)
    show wpSs Φ [.ret (.lst true [(.bop .Mod (.bi .int1 [(.bop .Add (.var 3) (.bop .Mult (.var 2) (.lit (.int 1013))))]) (.lit (.int 2147483543))), (.ifx (.or [(.cmp .Lt (.var 2) (.lit (.int 0))), (.cmp .GtE (.var 2) (.bop .Pow (.lit (.int 10)) (.lit (.int 18))))]) (.bi .abs [(.var 2)]) (.lit (.int 0))), (.lit (.int 0))])] _ _ _ _
    walk_at "rfw"; refine ⟨mul_r (by decide) (by decide), ?_⟩; walk_at "rfw"; refine ⟨by decide, ?_⟩; walk_at "rfw"
    refine ite_p (fun h2 => ?_) (fun h2 => ?_)
    · refine ite_t rfl ?_; walk_at "rfw"; refine last _ ?_; split <;> omega
    · walk_at "rfw"; refine ⟨pow_s (by decide) (by decide) (by decide) (by decide), ?_⟩; walk_at "rfw"
      refine ite_p (fun h3 => ?_) (fun h3 => ?_)
      · walk_at "rfw"; refine last _ ?_; split <;> omega
      · walk_at "rfw"; exact last 0 (Int.le_refl 0)
  have main : ∀ own st : Int, 0 ≤ st → st < 2147483543 → wpSs Φ (B_law_pool_3584.drop 1) [some (.scr (ns.map D.int)), some (.int lap), some (.int own), some (.int st), none] M (subX X) { nx := fun _ M1 => subQ Q .non M1, rt := subQ Q } := by
    intro own st h0 h1
    show wpSs Φ [.for_ (.nm 4) (.sl (.var 0) [] [(.lit (.int 63))]) [.asg 3 (.bop .Mod (.bi .int1 [(.bop .Add (.bop .Add (.bop .Mult (.var 3) (.lit (.int 48271))) (.bop .Mod (.bi .int1 [(.var 4)]) (.lit (.int 2147483543)))) (.lit (.int 1015)))]) (.lit (.int 2147483543)))], B_law_pool_3584.getD 2 .pass] _ _ _ _
    walk_at "rfw"
    rw [cutD_map]
    refine forGo_inv (fun xs ρ M' => M' = M ∧ (∃ ms : List Int, xs = ms.map D.int) ∧ ∃ (st : Int) (c : Option D), ρ = [some (.scr (ns.map D.int)), some (.int lap), some (.int own), some (.int st), c] ∧ 0 ≤ st ∧ st < 2147483543) ?_ ?_ ⟨rfl, ⟨_, rfl⟩, st, none, rfl, h0, h1⟩
    · rintro x xs ρ M' ⟨rfl, ⟨ms, e⟩, st, c, rfl, h0, h1⟩ K hK
      obtain ⟨m, ms, rfl⟩ : ∃ m ms', ms = m :: ms' := by
        cases ms with
        | nil => cases e
        | cons m ms => exact ⟨m, ms, rfl⟩
      cases e
      walk_at "rfw"; refine ⟨mul_r (by decide) (by decide), ?_⟩; walk_at "rfw"; refine ⟨by decide, ?_⟩; walk_at "rfw"; refine ⟨by decide, ?_⟩; walk_at "rfw"
      have e := emod_b (a := st * 48271 + m % 2147483543 + 1015) (b := 2147483543) (by decide)
      exact hK _ _ ⟨rfl, ⟨ms, rfl⟩, _, _, rfl, e.1, e.2⟩
    · rintro ρ M' ⟨rfl, -, st, c, rfl, h0, h1⟩
      exact fin own st h0 h1 c
  walk_at "rfw"; refine ite_p (fun h1 => ?_) (fun h1 => ?_)
  · have h1 : lap < ns.length := by simpa using h1
    walk_at "rfw"; refine ixL_of (atI_ints h1) ?_; walk_at "rfw"; refine ⟨mul_l (by decide) (by decide), ?_⟩; exact main _ _ (by omega) (by omega)
  · walk_at "rfw"; refine ⟨mul_l (by decide) (by decide), ?_⟩; walk_at "rfw"; refine ⟨mul_l (by decide) (by decide), ?_⟩; exact main _ _ (by omega) (by omega)
/-! law_draw_2fdf: slots ('pool', 'many', 'figure', 'held') -/
@[reducible] def B_law_draw_2fdf_s0 : CS := .iff (.cmp .Gt (.ix (.var 0) (.lit (.int 1))) (.lit (.int 0))) [.asgM [.sub 0 (.lit (.int 1)), .nm 2] (.bi .divmod [(.ix (.var 0) (.lit (.int 1))), (.var 1)]),
    .ret (.var 2)] []
@[reducible] def B_law_draw_2fdf_s1 : CS := .setix (.var 0) (.lit (.int 2)) (.bop .Add (.ix (.var 0) (.lit (.int 2))) (.lit (.int 1)))
@[reducible] def B_law_draw_2fdf_s2 : CS := .asg 3 (.bi .int1 [(.ix (.var 0) (.lit (.int 0)))])
@[reducible] def B_law_draw_2fdf_s3 : CS := .setix (.var 0) (.lit (.int 0)) (.bop .Mod (.bi .int1 [(.bop .Add (.bop .Add (.bop .Mult (.var 3) (.bop .Add (.bop .Mod (.var 3) (.lit (.int 20011))) (.lit (.int 30011)))) (.bop .Mult (.lit (.int 70001)) (.ix (.var 0) (.lit (.int 2))))) (.lit (.int 9)))]) (.lit (.int 2147483543)))
@[reducible] def B_law_draw_2fdf_s4 : CS := .ret (.bop .Mod (.bi .int1 [(.bop .FloorDiv (.ix (.var 0) (.lit (.int 0))) (.lit (.int 128)))]) (.var 1))
@[reducible] def B_law_draw_2fdf : List CS := [B_law_draw_2fdf_s0, B_law_draw_2fdf_s1, B_law_draw_2fdf_s2, B_law_draw_2fdf_s3, B_law_draw_2fdf_s4]
@[reducible] def S_law_draw_2fdf : Spec := S_draw
theorem T_law_draw_2fdf {Φ : Nat → Spec} : ∀ ds M X Q, ds.length = 2 → S_law_draw_2fdf ds M X Q → wpF Φ 4 B_law_draw_2fdf ds M X Q := by
  rintro ds M X Q - ⟨a, c, m, rfl, h0, h1, hM, ⟨p0, p1, p2, rfl, g0, g1, g2⟩, hq⟩
  show wpSs Φ B_law_draw_2fdf [some (.cell a), some (.int m), none, none] M (subX X) _
  walk_at "rfw"; refine cellL_of hM ?_; walk_at "rfw"; refine ixL_of rfl ?_; walk_at "rfw"
  refine ite_p (fun h2 => ?_) (fun h2 => ?_)
  · walk_at "rfw"; refine cellL_of hM ?_; walk_at "rfw"; refine ixL_of rfl ?_; walk_at "rfw"; refine ⟨div_40 h0 h1, ?_⟩; walk_at "rfw"; refine ⟨rfl, ?_⟩; walk_at "rfw"
    refine cellL_of hM ?_; walk_at "rfw"; refine ixP_of rfl ?_; walk_at "rfw"
    have e := emod_b (a := p1) h0
    exact subQ_here (hq _ _ e.1 e.2 ⟨p0, p1 / m, p2, rfl, g0, g1, Int.ediv_nonneg g2 (by omega)⟩)
  · walk_at "rfw"; refine cellL_of hM ?_; walk_at "rfw"; refine ixL_of rfl ?_; walk_at "rfw"; refine cellL_of hM ?_; walk_at "rfw"; refine ixP_of rfl ?_; walk_at "rfw"
    refine cellL_of Mem.set_same ?_; walk_at "rfw"; refine ixL_of rfl ?_; walk_at "rfw"; refine ⟨by decide, ?_⟩; walk_at "rfw"; refine ⟨mul_l (by omega) (by omega), ?_⟩; walk_at "rfw"
    refine cellL_of Mem.set_same ?_; walk_at "rfw"; refine ixL_of rfl ?_; walk_at "rfw"; refine ⟨mul_l (by decide) (by decide), ?_⟩; walk_at "rfw"; refine ⟨by decide, ?_⟩; walk_at "rfw"
    refine cellL_of Mem.set_same ?_; walk_at "rfw"; refine ixP_of rfl ?_; walk_at "rfw"
    refine cellL_of Mem.set_same ?_; walk_at "rfw"; refine ixL_of rfl ?_; walk_at "rfw"; refine ⟨div_s (by decide) (by decide), ?_⟩; walk_at "rfw"; refine ⟨h0, ?_⟩; walk_at "rfw"
    rw [Mem.set_set]
    have e := emod_b (a := p0 * (p0 % 20011 + 30011) + 70001 * (p2 + 1) + 9) (b := 2147483543) (by decide)
    have e2 := emod_b (a := (p0 * (p0 % 20011 + 30011) + 70001 * (p2 + 1) + 9) % 2147483543 / 128) h0
    exact subQ_here (hq _ _ e2.1 e2.2 ⟨_, p1, p2 + 1, rfl, e.1, by omega, g2⟩)
/-! law_pick_c6c2: slots ('pool', 'some') -/
@[reducible] def B_law_pick_c6c2 (i__law_draw : Nat) : List CS := [.ret (.ix (.var 1) (.call i__law_draw [(.var 0), (.bi .len [(.var 1)])]))]
@[reducible] def S_law_pick_c6c2 : Spec := S_pick
theorem T_law_pick_c6c2 {Φ : Nat → Spec} (i : Nat) (h : Φ i = S_draw) : ∀ ds M X Q, ds.length = 2 → S_law_pick_c6c2 ds M X Q → wpF Φ 2 (B_law_pick_c6c2 i) ds M X Q := by
  rintro ds M X Q - ⟨a, c, xs, hd, hn, hl, hM, hc, hq⟩
  have pos : 0 < xs.length := List.length_pos_iff.mpr hn
  have go : ∀ (r : Int) c', 0 ≤ r → r < xs.length → PoolC c' → ixL xs r fun d => subQ Q d (M.set a c') := fun r c' h1 h2 hc' => by
    obtain ⟨k, rfl⟩ := Int.eq_ofNat_of_zero_le h1
    have hk : k < xs.length := by omega
    exact ixL_of (atI_get' hk) (subQ_here (hq _ _ (List.getElem_mem hk) hc'))
  rcases hd with rfl | rfl
  · show wpSs Φ (B_law_pick_c6c2 i) [some (.cell a), some (.lst xs)] M (subX X) _
    walk_at "rfw"; rw [h]; refine ⟨a, c, _, rfl, by omega, by omega, hM, hc, fun r c' h1 h2 hc' => ?_⟩; walk_at "rfw"; exact go r c' h1 h2 hc'
  · show wpSs Φ (B_law_pick_c6c2 i) [some (.cell a), some (.tup xs)] M (subX X) _
    walk_at "rfw"; rw [h]; refine ⟨a, c, _, rfl, by omega, by omega, hM, hc, fun r c' h1 h2 hc' => ?_⟩; walk_at "rfw"; exact go r c' h1 h2 hc'
/-! law_same_ae9a: slots ('one', 'other', 'k') -/
@[reducible] def B_law_same_ae9a0_s0 : CS := .iff (.bi (.isI .tuple) [(.var 0)]) [.ret (.and [(.bi (.isI .tuple) [(.var 1)]), (.cmp .Eq (.bi .len [(.var 0)]) (.bi .len [(.var 1)])), (.cmp .Eq (.lc [("k", 2)] (.nm 2) (.bi .range [(.bi .len [(.var 0)])]) [(.not .nev)] (.var 2)) (.lst false []))])] []
@[reducible] def B_law_same_ae9a0_s1 : CS := .iff (.or [(.bi (.isI .bool) [(.var 0)]), (.bi (.isI .bool) [(.var 1)])]) [.ret (.and [(.bi (.isI .bool) [(.var 0)]), (.bi (.isI .bool) [(.var 1)]), (.cmp .Eq (.var 0) (.var 1))])] []
@[reducible] def B_law_same_ae9a0_s2 : CS := .ret (.and [(.cmp .Eq (.bi (.isI .int) [(.var 0)]) (.bi (.isI .int) [(.var 1)])), (.cmp .Eq (.bi (.isI .str) [(.var 0)]) (.bi (.isI .str) [(.var 1)])), (.cmp .Eq (.var 0) (.var 1))])
@[reducible] def B_law_same_ae9a0 : List CS := [B_law_same_ae9a0_s0, B_law_same_ae9a0_s1, B_law_same_ae9a0_s2]
@[reducible] def B_law_same_ae9a_s0 (i_self : Nat) : CS := .iff (.bi (.isI .tuple) [(.var 0)]) [.ret (.and [(.bi (.isI .tuple) [(.var 1)]), (.cmp .Eq (.bi .len [(.var 0)]) (.bi .len [(.var 1)])), (.cmp .Eq (.lc [("k", 2)] (.nm 2) (.bi .range [(.bi .len [(.var 0)])]) [(.not (.call i_self [(.ix (.var 0) (.var 2)), (.ix (.var 1) (.var 2))]))] (.var 2)) (.lst false []))])] []
@[reducible] def B_law_same_ae9a_s1 (i_self : Nat) : CS := .iff (.or [(.bi (.isI .bool) [(.var 0)]), (.bi (.isI .bool) [(.var 1)])]) [.ret (.and [(.bi (.isI .bool) [(.var 0)]), (.bi (.isI .bool) [(.var 1)]), (.cmp .Eq (.var 0) (.var 1))])] []
@[reducible] def B_law_same_ae9a_s2 (i_self : Nat) : CS := .ret (.and [(.cmp .Eq (.bi (.isI .int) [(.var 0)]) (.bi (.isI .int) [(.var 1)])), (.cmp .Eq (.bi (.isI .str) [(.var 0)]) (.bi (.isI .str) [(.var 1)])), (.cmp .Eq (.var 0) (.var 1))])
@[reducible] def B_law_same_ae9a (i_self : Nat) : List CS := [B_law_same_ae9a_s0 i_self, B_law_same_ae9a_s1 i_self, B_law_same_ae9a_s2 i_self]
@[reducible] def S_law_same_ae9a (j : Nat) : Spec := fun ds M _ Q => ∃ x, ds = [x, x] ∧ smB j x = true ∧ Q (.bl true) M
theorem T_law_same_ae9a_flat {Φ : Nat → Spec} {ss : List CS} {x : D} {M : Mem} {X : XQ} {Q : QD} (hx : nice 60 x = true) (ht : isB x .tuple = false) (hq : Q (.bl true) M) : wpSs Φ [.iff (.or [(.bi (.isI .bool) [(.var 0)]), (.bi (.isI .bool) [(.var 1)])]) [.ret (.and [(.bi (.isI .bool) [(.var 0)]), (.bi (.isI .bool) [(.var 1)]), (.cmp .Eq (.var 0) (.var 1))])] [],
    .ret (.and [(.cmp .Eq (.bi (.isI .int) [(.var 0)]) (.bi (.isI .int) [(.var 1)])), (.cmp .Eq (.bi (.isI .str) [(.var 0)]) (.bi (.isI .str) [(.var 1)])), (.cmp .Eq (.var 0) (.var 1))])] [some x, some x, none] M (subX X) { nx := fun _ M1 => subQ Q .non M1, rt := subQ Q } := by
  have e := eqB_refl _ x hx
  have n64 := nice_mono x (m := 64) (by decide) hx
  cases x <;> first | (cases ht; done) | (simp [nice] at hx; done) | skip
  case bl b =>
    walk_at "rfw"; refine ite_t rfl ?_; walk_at "rfw"; refine ite_t rfl ?_; walk_at "rfw"; refine ite_t rfl ?_; walk_at "rfw"; refine ite_t rfl ?_; walk_at "rfw"
    refine subQ_here ?_; rw [decide_eq_true rfl]; exact hq
  case non =>
    walk_at "rfw"; refine ite_f rfl ?_; walk_at "rfw"; refine ite_f rfl ?_; walk_at "rfw"; refine ite_pt rfl ?_; walk_at "rfw"; refine ite_pt rfl ?_; walk_at "rfw"; exact subQ_here hq
  case lst xs =>
    walk_at "rfw"; refine ite_f rfl ?_; walk_at "rfw"; refine ite_f rfl ?_; walk_at "rfw"; refine ite_pt rfl ?_; walk_at "rfw"; refine ite_pt rfl ?_; walk_at "rfw"
    refine ⟨_, eqOk_nice n64 n64, ?_⟩; refine subQ_here ?_; rw [e]; exact hq
  all_goals
    walk_at "rfw"; refine ite_f rfl ?_; walk_at "rfw"; refine ite_f rfl ?_; walk_at "rfw"; refine ite_pt rfl ?_; walk_at "rfw"; refine ite_pt rfl ?_; walk_at "rfw"
    refine subQ_here ?_; rw [decide_eq_true rfl]; exact hq
theorem T_law_same_ae9a0 {Φ : Nat → Spec} : ∀ ds M X Q, ds.length = 2 → S_law_same_ae9a 0 ds M X Q → wpF Φ 3 B_law_same_ae9a0 ds M X Q := by
  rintro ds M X Q - ⟨x, rfl, hx, hq⟩
  have go := fun h1 h2 => T_law_same_ae9a_flat (Φ := Φ) (ss := []) (x := x) (M := M) (X := X) (Q := Q) h1 h2 hq
  show wpSs Φ B_law_same_ae9a0 [some x, some x, none] M (subX X) _
  cases x <;> first | (cases hx; done) | skip
  all_goals (walk_at "rfw"; refine ite_f rfl ?_; exact go hx rfl)
theorem T_law_same_ae9a {Φ : Nat → Spec} (j i : Nat) (h : Φ i = S_law_same_ae9a j) : ∀ ds M X Q, ds.length = 2 → S_law_same_ae9a (j + 1) ds M X Q → wpF Φ 3 (B_law_same_ae9a i) ds M X Q := by
  rintro ds M X Q - ⟨x, rfl, hx, hq⟩
  have go := fun h1 h2 => T_law_same_ae9a_flat (Φ := Φ) (ss := []) (x := x) (M := M) (X := X) (Q := Q) h1 h2 hq
  show wpSs Φ (B_law_same_ae9a i) [some x, some x, none] M (subX X) _
  cases x <;> first | (cases hx; done) | skip
  case tup xs =>
    obtain ⟨hl, hx⟩ := and2 (show (decide (xs.length ≤ 5000) && xs.all (smB j)) = true from hx)
    have hl := of_decide_eq_true hl
    walk_at "rfw"; refine ite_t rfl ?_; walk_at "rfw"; refine ite_t rfl ?_; walk_at "rfw"; refine ite_pt rfl ?_; walk_at "rfw"
    refine ⟨rngOk_s (by decide) (by decide) (by omega) (by omega), ?_⟩
    rw [rng0]
    refine lcGo_pure (M := M) (fun _ => none) (fun x hx' K K' hK => ?_) ?_
    · obtain ⟨k, hk, rfl⟩ := mem_natsD hx'
      have hk := List.mem_range.mp hk
      have hs := List.all_eq_true.mp hx xs[k] (List.getElem_mem hk)
      walk_at "rfw"; refine ixL_of (atI_get' hk) ?_; walk_at "rfw"; refine ixL_of (atI_get' hk) ?_; walk_at "rfw"; rw [h]; refine ⟨_, rfl, hs, ?_⟩; walk_at "rfw"
      exact ite_f rfl hK
    · rw [filterMap_no]
      walk_at "rfw"; refine ⟨_, eqOk_nice rfl rfl, ?_⟩; refine subQ_here ?_; exact hq
  all_goals (walk_at "rfw"; refine ite_f rfl ?_; exact go hx rfl)
/-! law_power_5969: slots ('many', 'found', 'lap') -/
@[reducible] def B_law_power_5969_s0 : CS := .asg 1 (.lit (.int 1))
@[reducible] def B_law_power_5969_s1 : CS := .for_ (.nm 2) (.bi .range [(.var 0)]) [.asg 1 (.bop .Mult (.var 1) (.lit (.int 2)))]
@[reducible] def B_law_power_5969_s2 : CS := .ret (.var 1)
@[reducible] def B_law_power_5969 : List CS := [B_law_power_5969_s0, B_law_power_5969_s1, B_law_power_5969_s2]
@[reducible] def S_law_power_5969 : Spec := fun ds M _ Q => ∃ n : Nat, n ≤ 1000 ∧ ds = [.int n] ∧ Q (.int (2 ^ n : Nat)) M
theorem T_law_power_5969 {Φ : Nat → Spec} : ∀ ds M X Q, ds.length = 1 → S_law_power_5969 ds M X Q → wpF Φ 3 B_law_power_5969 ds M X Q := by
  rintro ds M X Q - ⟨n, hn, rfl, hq⟩
  show wpSs Φ B_law_power_5969 [some (.int n), none, none] M (subX X) _
  walk_at "rfw"; refine ⟨rngOk_s (by omega) (by omega) (by omega) (by omega), ?_⟩
  rw [rng0]
  refine forGo_inv (fun xs ρ M' => M' = M ∧ ∃ k, k ≤ n ∧ xs = natsD ((List.range n).drop k) ∧ ∃ c, ρ = [some (.int n), some (.int (2 ^ k : Nat)), c]) ?_ ?_ ⟨rfl, 0, Nat.zero_le n, rfl, _, rfl⟩
  · rintro x xs ρ M' ⟨rfl, k, hk, e, c, rfl⟩ K hK
    have hlt : k < (List.range n).length := by
      rcases Nat.lt_or_ge k (List.range n).length with h | h
      · exact h
      · rw [List.drop_eq_nil_of_le h] at e; cases e
    rw [List.drop_eq_getElem_cons hlt] at e
    cases e
    rw [List.length_range] at hlt
    walk_at "rfw"; refine ⟨mul_r (by decide) (by decide), ?_⟩
    refine hK _ _ ⟨rfl, k + 1, hlt, rfl, ?_⟩
    rw [show ((2 ^ (k + 1) : Nat) : Int) = ((2 ^ k : Nat) : Int) * 2 by rw [Nat.pow_succ]; push_cast; rfl]
    exact ⟨_, rfl⟩
  · rintro ρ M' ⟨rfl, k, hk, e, c, rfl⟩
    have : k = n := by
      have := congrArg List.length e
      simp [natsD] at this
      omega
    subst this
    walk_at "rfw"; exact subQ_here hq
/-! law_refused_614a: slots ('times', 'pairs', 'e') -/
@[reducible] def B_law_refused_614a_s0 (i_from_pairs : Nat) : CS := .tryAs 2 "JointError" [0, 1, 2, 3, 4, 5, 6, 7, 8, 9, 10, 11, 12, 13, 14, 15, 16, 17, 18, 19, 20, 21, 22, 23, 24, 25, 26, 27, 28, 29, 30, 31, 32, 33, 34, 35, 36] [.expr (.call i_from_pairs [(.var 0), (.var 1)])] [.ret (.ifx (.and [(.excIs 2 "InvalidTable" [15]), (.not (.excIs 2 "InvalidNumber" [4]))]) (.lst false [(.excAt 2 [15, 16, 17, 18, 19, 20, 21, 22, 23, 24, 25, 26, 27, 28, 29, 30])]) (.lst false []))]
@[reducible] def B_law_refused_614a_s1 (i_from_pairs : Nat) : CS := .ret (.lit .non)
@[reducible] def B_law_refused_614a (i_from_pairs : Nat) : List CS := [B_law_refused_614a_s0 i_from_pairs, B_law_refused_614a_s1 i_from_pairs]
def refP (n : Nat) (v : D) : D := match wrongP n v with
  | d :: _ => .lst [d]
  | [] => .non
@[reducible] def S_law_refused_614a : Spec := fun ds M _ Q => ∃ n : Nat, ∃ v, ds = [.int n, v] ∧ 1 ≤ n ∧ n ≤ 6 ∧ okV3 v = true ∧ Q (refP n v) M
theorem T_law_refused_614a {Φ : Nat → Spec} (i : Nat) (h : Φ i = S_from_pairs_0e90x) : ∀ ds M X Q, ds.length = 2 → S_law_refused_614a ds M X Q → wpF Φ 3 (B_law_refused_614a i) ds M X Q := by
  rintro ds M X Q - ⟨n, v, rfl, h1, h6, hv, hq⟩
  show wpSs Φ (B_law_refused_614a i) [some (.int n), some v, none] M (subX X) _
  walk_at "rfw"; rw [h]; refine ⟨n, v, rfl, h1, h6, hv, ?_⟩
  unfold refP at hq
  unfold fromO
  cases e : wrongP n v with
  | nil =>
    rw [e] at hq
    show wpSs _ _ _ _ _ _
    walk_at "rfw"; exact subQ_here hq
  | cons d r =>
    rw [e] at hq
    show tryX _ _ _ _ _ _ _ _ _
    refine try_in rfl fun p hp => ?_
    walk_at "rfw"
    refine curP_of ?_
    refine ite_t rfl ?_; walk_at "rfw"
    refine curP_of ?_; walk_at "rfw"
    refine ite_t rfl ?_; walk_at "rfw"
    refine curP_of ?_
    refine ⟨rfl, valP_of ?_⟩; walk_at "rfw"
    exact subQ_here hq
/-! law_pairs_c66b: slots ('pool', 'many', 'found', 'lots', 'lap', 'lot') -/
@[reducible] def B_law_pairs_c66b_s0 (i__law_draw : Nat) (i__law_pick : Nat) (i__law_power : Nat) : CS := .par [2, 3] [(.lst true []), (.lst true [])]
@[reducible] def B_law_pairs_c66b_s1 (i__law_draw : Nat) (i__law_pick : Nat) (i__law_power : Nat) : CS := .for_ (.nm 4) (.bi .range [(.call i__law_draw [(.var 0), (.call i__law_power [(.var 1)])])]) [.asg 5 (.bop .Add (.lit (.int 1)) (.call i__law_draw [(.var 0), (.bop .Sub (.call i__law_power [(.var 1)]) (.lit (.int 1)))])),
    .iff (.cmp .NotIn (.var 5) (.var 3)) [.append (.var 2) (.tup [(.var 5), (.call i__law_pick [(.var 0), (.lst false [(.lit (.int 0)), (.lit (.int 1)), (.neg (.lit (.int 1))), (.lit (.int 9999)), (.neg (.lit (.int 9999))), (.bop .Sub (.call i__law_draw [(.var 0), (.lit (.int 1000))]) (.lit (.int 500)))])])]),
    .append (.var 3) (.var 5)] []]
@[reducible] def B_law_pairs_c66b_s2 (i__law_draw : Nat) (i__law_pick : Nat) (i__law_power : Nat) : CS := .ret (.bi .tupleOf [(.var 2)])
@[reducible] def B_law_pairs_c66b (i__law_draw : Nat) (i__law_pick : Nat) (i__law_power : Nat) : List CS := [B_law_pairs_c66b_s0 i__law_draw i__law_pick i__law_power, B_law_pairs_c66b_s1 i__law_draw i__law_pick i__law_power, B_law_pairs_c66b_s2 i__law_draw i__law_pick i__law_power]
structure GoodP (n : Nat) (P : List (Int × Int)) : Prop where
  lot : ∀ p ∈ P, 1 ≤ p.1 ∧ p.1 < (2 ^ n : Nat)
  wor : ∀ p ∈ P, -9999 ≤ p.2 ∧ p.2 ≤ 9999
  nd : (P.map (·.1)).Nodup
@[reducible] def S_law_pairs_c66b : Spec := fun ds M _ Q => ∃ a c, ∃ n : Nat, ds = [.cell a, .int n] ∧ 1 ≤ n ∧ n ≤ 6 ∧ M a = some c ∧ PoolC c ∧ ∀ (P : List (Int × Int)) c', GoodP n P → PoolC c' → Q (.tup (P.map prII)) (M.set a c')
theorem T_law_pairs_c66b {Φ : Nat → Spec} (id : Nat) (hd : Φ id = S_draw) (ip : Nat) (hp : Φ ip = S_pick) (iw : Nat) (hw : Φ iw = S_law_power_5969) : ∀ ds M X Q, ds.length = 2 → S_law_pairs_c66b ds M X Q → wpF Φ 6 (B_law_pairs_c66b id ip iw) ds M X Q := by
  rintro ds M X Q - ⟨a, c, n, rfl, h1, h6, hM, hc, hq⟩
  show wpSs Φ (B_law_pairs_c66b id ip iw) [some (.cell a), some (.int n), none, none, none, none] M (subX X) _
  have szl := sizeLine_eq
  have h64 := pow64 h6
  have h2p : 2 ≤ 2 ^ n := by
    have := Nat.pow_le_pow_right (n := 2) (by decide) h1
    simpa using this
  rw [← set_self hM]
  walk_at "rfw"; intro p hpn
  have hap : a ≠ p := fun e => by subst e; rw [Mem.set_same] at hpn; cases hpn
  have hMp : M p = none := by rw [Mem.set_ne (Ne.symm hap)] at hpn; exact hpn
  walk_at "rfw"; intro q hqn
  have hpq : p ≠ q := fun e => by subst e; rw [Mem.set_same] at hqn; cases hqn
  rw [Mem.set_ne (Ne.symm hpq)] at hqn
  have haq : a ≠ q := fun e => by subst e; rw [Mem.set_same] at hqn; cases hqn
  have hMq : M q = none := by rw [Mem.set_ne (Ne.symm haq)] at hqn; exact hqn
  have mem : ∀ c cp cq, ((M.set a c).set p cp).set q cq = (((M.set p cp).set q cq).set a c) := fun c cp cq => by
    rw [Mem.set_comm hap, Mem.set_comm haq]
  rw [mem]
  walk_at "rfw"; rw [hw]; refine ⟨n, by omega, rfl, ?_⟩; walk_at "rfw"
  refine draw_set hd (by omega) (by omega) hc fun r c1 r0 r1 hc1 => ?_
  obtain ⟨m, rfl⟩ := Int.eq_ofNat_of_zero_le r0
  walk_at "rfw"; rw [rng0]; refine ⟨rngOk_s (by decide) (by decide) (by omega) (by omega), ?_⟩
  refine forGo_range0 (fun k ρ M' => ∃ (P : List (Int × Int)) (c : Cell), GoodP n P ∧ P.length ≤ k ∧ PoolC c ∧ M' = ((M.set p (.lst (P.map prII))).set q (.lst ((P.map (·.1)).map D.int))).set a c ∧ ∃ x4 x5, ρ = [some (.cell a), some (.int n), some (.cell p), some (.cell q), x4, x5]) ?_ ?_ ⟨[], c1, ⟨(fun _ h => nomatch h), (fun _ h => nomatch h), List.nodup_nil⟩, Nat.le_refl _, hc1, rfl, _, _, rfl⟩
  · rintro k ρ M' hk ⟨P, c, hP, hl, hc, rfl, x4, x5, rfl⟩ K hK
    walk_at "rfw"; rw [hw]; refine ⟨n, by omega, rfl, ?_⟩; walk_at "rfw"
    refine draw_set hd (by omega) (by omega) hc fun r c2 r0 r1 hc2 => ?_; walk_at "rfw"
    have gq : ∀ c, (((M.set p (.lst (P.map prII))).set q (.lst ((P.map (·.1)).map D.int))).set a c) q = some (.lst ((P.map (·.1)).map D.int)) := fun c => by rw [Mem.set_ne (Ne.symm haq), Mem.set_same]
    have gp : ∀ c, (((M.set p (.lst (P.map prII))).set q (.lst ((P.map (·.1)).map D.int))).set a c) p = some (.lst (P.map prII)) := fun c => by rw [Mem.set_ne (Ne.symm hap), Mem.set_ne hpq, Mem.set_same]
    refine cellL_of (gq _) ?_; refine inFl_ints ?_
    refine ite_n (fun hn => ?_) (fun hn => ?_)
    · walk_at "rfw"; refine cellL_of (gp _) ?_; walk_at "rfw"
      refine draw_set hd (by omega) (by omega) hc2 fun r2 c3 r3 r4 hc3 => ?_; walk_at "rfw"
      refine pick_set hp (.inl rfl) (by simp) (by simp) hc3 fun y c4 hy hc4 => ?_
      obtain ⟨z, rfl, hz⟩ : ∃ z : Int, y = .int z ∧ (-9999 ≤ z ∧ z ≤ 9999) := by
        simp only [List.mem_cons, List.not_mem_nil, or_false] at hy
        rcases hy with rfl | rfl | rfl | rfl | rfl | rfl
        · exact ⟨_, rfl, by decide⟩
        · exact ⟨_, rfl, by decide⟩
        · exact ⟨_, rfl, by decide⟩
        · exact ⟨_, rfl, by decide⟩
        · exact ⟨_, rfl, by decide⟩
        · exact ⟨_, rfl, by omega⟩
      walk_at "rfw"; refine cellL_of (gp _) ?_; walk_at "rfw"; refine ⟨by rw [List.length_map]; omega, ?_⟩
      have m2 : ∀ c cp, ((((M.set p (.lst (P.map prII))).set q (.lst ((P.map (·.1)).map D.int))).set a c).set p cp) = (((M.set p cp).set q (.lst ((P.map (·.1)).map D.int))).set a c) := fun c cp => by
        rw [Mem.set_comm hap, Mem.set_comm (Ne.symm hpq), Mem.set_set]
      rw [m2]
      have gq2 : ∀ c cp, (((M.set p cp).set q (.lst ((P.map (·.1)).map D.int))).set a c) q = some (.lst ((P.map (·.1)).map D.int)) := fun c cp => by rw [Mem.set_ne (Ne.symm haq), Mem.set_same]
      walk_at "rfw"; refine cellL_of (gq2 _ _) ?_; walk_at "rfw"; refine cellL_of (gq2 _ _) ?_; walk_at "rfw"; refine ⟨by rw [List.length_map, List.length_map]; omega, ?_⟩
      rw [Mem.set_comm haq, Mem.set_set]
      refine hK _ _ ⟨P ++ [(1 + r, z)], c4, ⟨fun x hx => ?_, fun x hx => ?_, ?_⟩, by rw [List.length_append]; simp; omega, hc4, by rw [List.map_append, List.map_append, List.map_append]; rfl, _, _, rfl⟩
      · rcases List.mem_append.mp hx with h | h
        · exact hP.lot x h
        · rcases List.mem_singleton.mp h with rfl
          exact ⟨by show 1 ≤ 1 + r; omega, by show 1 + r < _; omega⟩
      · rcases List.mem_append.mp hx with h | h
        · exact hP.wor x h
        · rcases List.mem_singleton.mp h with rfl
          exact hz
      · rw [List.map_append, List.nodup_append]
        refine ⟨hP.nd, by simp, fun x hx y hy => ?_⟩
        rcases List.mem_singleton.mp hy with rfl
        exact fun e => hn (by have e : x = 1 + r := e; rw [← e]; exact hx)
    · walk_at "rfw"; exact hK _ _ ⟨P, c2, hP, by omega, hc2, rfl, _, _, rfl⟩
  · rintro ρ M' ⟨P, c, hP, hl, hc, rfl, x4, x5, rfl⟩
    have gp : ∀ c, (((M.set p (.lst (P.map prII))).set q (.lst ((P.map (·.1)).map D.int))).set a c) p = some (.lst (P.map prII)) := fun c => by rw [Mem.set_ne (Ne.symm hap), Mem.set_ne hpq, Mem.set_same]
    walk_at "rfw"; refine cellL_of (gp _) ?_; walk_at "rfw"
    refine ⟨M.set a c, ?_, hq P c hP hc⟩
    intro b d hb
    by_cases e1 : b = a
    · subst e1; rw [Mem.set_same] at hb ⊢; exact hb
    · rw [Mem.set_ne e1] at hb ⊢
      have e2 : b ≠ q := fun z => by subst z; rw [hMq] at hb; cases hb
      have e3 : b ≠ p := fun z => by subst z; rw [hMp] at hb; cases hb
      rw [Mem.set_ne e2, Mem.set_ne e3]; exact hb
/-! law_right_9be6: slots ('pool', 'many', 'pairs', 'due', 'one', 'each', 'lot', 'told', 'whole', 'lap', 'at', 'worth_of', 'some', 'odd', 'wrong', 'value') -/
@[reducible] def B_law_right_9be6_s0 (i__law_draw : Nat) (i__law_pairs : Nat) (i__law_pick : Nat) (i__law_power : Nat) (i__law_refused : Nat) (i__law_same : Nat) (i_from_pairs : Nat) (i_is_table : Nat) (i_worth : Nat) : CS := .for_ (.nm 1) (.bi .range [(.lit (.int 1)), (.lit (.int 7))]) [.asg 2 (.call i__law_pairs [(.var 0), (.var 1)]),
    .asg 3 (.bi .tupleOf [(.lc [("lot", 6)] (.nm 6) (.bi .range [(.call i__law_power [(.var 1)])]) [] (.bi .sum [(.lc [("one", 4), ("each", 5)] (.tup [(.nm 4), (.nm 5)]) (.var 2) [(.cmp .Eq (.var 4) (.var 6))] (.var 5))]))]),
    .asg 7 (.ifx (.cmp .Eq (.call i__law_draw [(.var 0), (.lit (.int 2))]) (.lit (.int 0))) (.callK i_from_pairs [] ["pairs", "times"] [(.var 2), (.var 1)] [1, 0]) (.call i_from_pairs [(.var 1), (.var 2)])),
    .iff (.or [(.not (.call i__law_same [(.var 7), (.var 3)])), (.cmp .IsNot (.call i_is_table [(.var 7)]) (.lit (.bl true))), (.not (.call i__law_same [(.call i_from_pairs [(.var 1), (.slr (.var 2))]), (.var 3)]))]) [.ret (.lit (.bl false))] [],
    .iff (.or [(.cmp .NotEq (.lc [("lot", 6), ("each", 5)] (.tup [(.nm 6), (.nm 5)]) (.var 2) [(.cmp .NotEq (.call i_worth [(.var 7), (.var 6)]) (.var 5))] (.var 6)) (.lst false [])), (.cmp .NotEq (.call i_from_pairs [(.var 1), (.tup [])]) (.bop .Mult (.tup [(.lit (.int 0))]) (.call i__law_power [(.var 1)])))]) [.ret (.lit (.bl false))] [],
    .asg 8 (.bi .tupleOf [(.lc [("lot", 6)] (.nm 6) (.bi .range [(.lit (.int 1)), (.bi .len [(.var 7)])]) [] (.tup [(.var 6), (.ix (.var 7) (.var 6))]))]),
    .iff (.not (.call i__law_same [(.call i_from_pairs [(.var 1), (.var 8)]), (.var 7)])) [.ret (.lit (.bl false))] [],
    .for_ (.nm 9) (.bi .range [(.lit (.int 8))]) [.asg 10 (.call i__law_draw [(.var 0), (.bop .Add (.bi .len [(.var 2)]) (.lit (.int 1)))]),
    .asg 6 (.lc [("each", 5)] (.nm 5) (.bi .range [(.lit (.int 1)), (.call i__law_power [(.var 1)])]) [(.cmp .NotIn (.var 5) (.lc [("one", 4), ("worth_of", 11)] (.tup [(.nm 4), (.nm 11)]) (.sl (.var 2) [] [(.var 10)]) [] (.var 4)))] (.var 5)),
    .asg 12 (.lst false [(.lit .non), (.tup []), (.tup [(.lit (.int 1))]), (.tup [(.lit (.int 1)), (.lit (.int 2)), (.lit (.int 3))]), (.lst false [(.lit (.int 1)), (.lit (.int 2))]), (.lit (.int 5)), (.lit (.str "1")), (.tup [(.call i__law_power [(.var 1)]), (.lit (.int 1))]), (.tup [(.neg (.lit (.int 1))), (.lit (.int 1))]), (.tup [(.lit (.bl true)), (.lit (.int 1))]), (.tup [(.lit (.str "1")), (.lit (.int 1))]), (.tup [(.lit .non), (.lit (.int 1))]), (.tup [(.bop .Pow (.lit (.int 10)) (.lit (.int 29))), (.lit (.int 1))])]),
    .asg 12 (.ifx (.cmp .NotEq (.var 6) (.lst false [])) (.bop .Add (.var 12) (.lc [("odd", 13)] (.nm 13) (.lst false [(.lit (.int 10000)), (.neg (.lit (.int 10000))), (.lit .non), (.lit (.bl true)), (.lit (.str "1")), (.tup [(.lit (.int 1)), (.lit (.int 1))]), (.bop .Pow (.lit (.int 10)) (.lit (.int 29)))]) [] (.tup [(.ix (.var 6) (.lit (.int 0))), (.var 13)]))) (.var 12)),
    .asg 14 (.bop .Add (.bop .Add (.sl (.var 2) [] [(.var 10)]) (.tup [(.call i__law_pick [(.var 0), (.var 12)])])) (.ifx (.cmp .Eq (.call i__law_draw [(.var 0), (.lit (.int 2))]) (.lit (.int 0))) (.sl (.var 2) [(.var 10)] []) (.tup [(.lit .non)]))),
    .iff (.not (.call i__law_same [(.call i__law_refused [(.var 1), (.var 14)]), (.lst false [(.var 10)])])) [.ret (.lit (.bl false))] []],
    .iff (.and [(.cmp .NotEq (.var 2) (.tup [])), (.not (.call i__law_same [(.call i__law_refused [(.var 1), (.bop .Add (.var 2) (.sl (.var 2) [] [(.lit (.int 1))]))]), (.lst false [(.bi .len [(.var 2)])])]))]) [.ret (.lit (.bl false))] [],
    .for_ (.nm 15) (.lst false [(.lit .non), (.bi .listOf [(.var 2)]), (.lit (.int 0)), (.lit (.bl true)), .dctE, (.lit (.str "pairs"))]) [.iff (.not (.call i__law_same [(.call i__law_refused [(.var 1), (.var 15)]), (.lst false [(.lit .non)])])) [.ret (.lit (.bl false))] []]]
@[reducible] def B_law_right_9be6_s1 (i__law_draw : Nat) (i__law_pairs : Nat) (i__law_pick : Nat) (i__law_power : Nat) (i__law_refused : Nat) (i__law_same : Nat) (i_from_pairs : Nat) (i_is_table : Nat) (i_worth : Nat) : CS := .ret (.lit (.bl true))
@[reducible] def B_law_right_9be6 (i__law_draw : Nat) (i__law_pairs : Nat) (i__law_pick : Nat) (i__law_power : Nat) (i__law_refused : Nat) (i__law_same : Nat) (i_from_pairs : Nat) (i_is_table : Nat) (i_worth : Nat) : List CS := [B_law_right_9be6_s0 i__law_draw i__law_pairs i__law_pick i__law_power i__law_refused i__law_same i_from_pairs i_is_table i_worth, B_law_right_9be6_s1 i__law_draw i__law_pairs i__law_pick i__law_power i__law_refused i__law_same i_from_pairs i_is_table i_worth]
def dueW (P : List (Int × Int)) (l : Int) : Int := ((P.filter fun p => decide (p.1 = l)).map (·.2)).sum
theorem pairW_due {P : List (Int × Int)} {l : Int} (h : (P.map (·.1)).Nodup) : pairW P l = dueW P l := by
  unfold pairW dueW
  induction P with
  | nil => rfl
  | cons p P ih =>
    rw [List.map_cons, List.nodup_cons] at h
    rw [List.find?_cons, List.filter_cons]
    by_cases e : p.1 = l
    · rw [decide_eq_true e, if_pos rfl]
      have : P.filter (fun p => decide (p.1 = l)) = [] := List.filter_eq_nil_iff.mpr fun q hq z => h.1 (by
        have := of_decide_eq_true z
        exact List.mem_map.mpr ⟨q, hq, by rw [this, e]⟩)
      rw [this]
      show p.2 = [p.2].sum
      simp
    · rw [decide_eq_false e, if_neg (by decide)]
      exact ih h.2
theorem dueW_rev {P : List (Int × Int)} {l : Int} : dueW P.reverse l = dueW P l := by
  unfold dueW
  rw [List.filter_reverse]
  exact perm_sum (List.reverse_perm _) _
def dueT (n : Nat) (P : List (Int × Int)) : List Int := (List.range (2 ^ n)).map fun l => dueW P (l : Nat)
theorem tabP_due {n : Nat} {P : List (Int × Int)} (h : (P.map (·.1)).Nodup) : tabP n P = dueT n P := List.map_congr_left fun l _ => pairW_due h
theorem GoodP.rev {n : Nat} {P : List (Int × Int)} (h : GoodP n P) : GoodP n P.reverse := ⟨fun p hp => h.lot p (List.mem_reverse.mp hp), fun p hp => h.wor p (List.mem_reverse.mp hp), by rw [List.map_reverse]; exact (List.reverse_perm _).nodup_iff.mpr h.nd⟩
theorem tabP_rev {n : Nat} {P : List (Int × Int)} (h : GoodP n P) : tabP n P.reverse = dueT n P := by
  rw [tabP_due h.rev.nd]
  exact List.map_congr_left fun l _ => dueW_rev
theorem pairW_mem {P : List (Int × Int)} (h : (P.map (·.1)).Nodup) {p : Int × Int} (hp : p ∈ P) : pairW P p.1 = p.2 := by
  unfold pairW
  induction P with
  | nil => cases hp
  | cons q P ih =>
    rw [List.map_cons, List.nodup_cons] at h
    rw [List.find?_cons]
    rcases List.mem_cons.mp hp with rfl | hm
    · rw [decide_eq_true rfl]; rfl
    · rw [decide_eq_false (fun z => h.1 (List.mem_map.mpr ⟨p, hm, z.symm⟩))]
      exact ih h.2 hm
theorem pairW_no {P : List (Int × Int)} {l : Int} (h : ∀ p ∈ P, p.1 ≠ l) : pairW P l = 0 := by
  unfold pairW
  rw [List.find?_eq_none.mpr fun p hp z => h p hp (of_decide_eq_true z)]; rfl
theorem pairW_b {n : Nat} {P : List (Int × Int)} (h : GoodP n P) (l : Int) : -9999 ≤ pairW P l ∧ pairW P l ≤ 9999 := by
  unfold pairW
  cases e : P.find? fun p => decide (p.1 = l) with
  | none => exact ⟨by decide, by decide⟩
  | some p => exact h.wor p (List.mem_of_find?_eq_some e)
theorem tabP_len {n : Nat} {P : List (Int × Int)} : (tabP n P).length = 2 ^ n := by unfold tabP; simp
theorem tabP_tab {n : Nat} {P : List (Int × Int)} (h1 : 1 ≤ n) (h6 : n ≤ 6) (h : GoodP n P) : Tab n (tabP n P) := ⟨h1, h6, tabP_len, by
  unfold tabP
  rw [List.getElem?_map, List.getElem?_range (Nat.two_pow_pos n)]
  show some (pairW P 0) = some 0
  rw [pairW_no fun p hp z => by have := h.lot p hp; omega], fun t ht => by
  obtain ⟨l, _, rfl⟩ := List.mem_map.mp ht
  exact pairW_b h _⟩
theorem tabP_at {n : Nat} {P : List (Int × Int)} {l : Nat} (h : l < (tabP n P).length) : (tabP n P)[l] = pairW P (l : Nat) := by
  refine (List.getElem_eq_iff h).mpr ?_
  have hl : l < 2 ^ n := by rw [tabP_len] at h; exact h
  unfold tabP
  rw [List.getElem?_map, List.getElem?_range hl]; rfl
theorem lotP_good {n : Nat} {P : List (Int × Int)} (h : GoodP n P) {p : Int × Int} (hp : p ∈ P) : lotPB n (prII p) = true := by
  show ((decide _ && decide _) && (decide _ && decide _)) = true
  have h1 := h.lot p hp
  have h2 := h.wor p hp
  rw [decide_eq_true h1.1, decide_eq_true (by omega), decide_eq_true h2.1, decide_eq_true h2.2]; rfl
theorem wpGo_pre {n : Nat} {r : List D} : ∀ {P : List (Int × Int)} {ls : List Int} {k : Nat}, (∀ p ∈ P, lotPB n (prII p) = true) → (P.map (·.1)).Nodup → (∀ p ∈ P, p.1 ∉ ls) → wpGo n (P.map prII ++ r) ls k = wpGo n r (ls ++ P.map (·.1)) (k + P.length)
  | [], ls, k, _, _, _ => by simp
  | p :: P, ls, k, hg, hn, hd => by
    rw [List.map_cons, List.nodup_cons] at hn
    rw [List.map_cons, List.cons_append]
    show (if lotPB n (prII p) = true then (if p.1 ∈ ls then _ else wpGo n (P.map prII ++ r) (ls ++ [p.1]) (k + 1)) else _) = _
    rw [if_pos (hg p (List.mem_cons_self ..)), if_neg (hd p (List.mem_cons_self ..)), wpGo_pre (fun q hq => hg q (List.mem_cons_of_mem _ hq)) hn.2 fun q hq z => ?_]
    · rw [List.map_cons, List.length_cons, List.append_assoc, show k + 1 + P.length = k + (P.length + 1) by omega]; rfl
    · rcases List.mem_append.mp z with h | h
      · exact hd q (List.mem_cons_of_mem _ hq) h
      · exact hn.1 (List.mem_map.mpr ⟨q, hq, List.mem_singleton.mp h⟩)
theorem wrongP_good {n : Nat} {P : List (Int × Int)} (h : GoodP n P) : wrongP n (.tup (P.map prII)) = [] := by
  show wpGo n (P.map prII) [] 0 = []
  have := wpGo_pre (n := n) (r := []) (P := P) (ls := []) (k := 0) (fun p hp => lotP_good h hp) h.nd (fun _ _ => List.not_mem_nil)
  rw [List.append_nil] at this
  rw [this]; rfl
theorem fromO_good {n : Nat} {P : List (Int × Int)} (h : GoodP n P) : fromO n (.tup (P.map prII)) = .ok (tabD (tabP n P)) := by
  unfold fromO
  rw [wrongP_good h, pairsOf_map]
theorem GoodP.take {n : Nat} {P : List (Int × Int)} (h : GoodP n P) (k : Nat) : GoodP n (P.take k) := ⟨fun p hp => h.lot p (List.mem_of_mem_take hp), fun p hp => h.wor p (List.mem_of_mem_take hp), by rw [List.map_take]; exact (List.take_sublist _ _).nodup h.nd⟩
theorem wrongP_at {n : Nat} {P : List (Int × Int)} {x : D} {r : List D} (h : GoodP n P) (hx : lotPB n x = false) : wrongP n (.tup (P.map prII ++ [x] ++ r)) = [.int (P.length : Nat)] := by
  show wpGo n (P.map prII ++ [x] ++ r) [] 0 = _
  rw [List.append_assoc, wpGo_pre (fun p hp => lotP_good h hp) h.nd (fun _ _ => List.not_mem_nil), Nat.zero_add, List.singleton_append]
  unfold wpGo
  rw [hx, if_neg (by decide)]
theorem wrongP_two {n : Nat} {P : List (Int × Int)} {p : Int × Int} (h : GoodP n P) (hp : p ∈ P) : wrongP n (.tup (P.map prII ++ [prII p])) = [.int (P.length : Nat)] := by
  show wpGo n (P.map prII ++ [prII p]) [] 0 = _
  rw [wpGo_pre (fun p hp => lotP_good h hp) h.nd (fun _ _ => List.not_mem_nil), Nat.zero_add]
  show (if lotPB n (prII p) = true then (if p.1 ∈ [] ++ P.map (·.1) then _ else _) else _) = _
  rw [if_pos (lotP_good h hp), if_pos (by rw [List.nil_append]; exact List.mem_map.mpr ⟨p, hp, rfl⟩)]
theorem okV2_pr (p : Int × Int) : okV2 (prII p) = true := rfl
theorem okV3_of {xs : List D} (h : ∀ d ∈ xs, okV2 d = true) : okV3 (.tup xs) = true := by
  show (true && xs.all okV2) = true
  rw [Bool.true_and]; exact List.all_eq_true.mpr h
theorem okV3_pr (P : List (Int × Int)) : okV3 (.tup (P.map prII)) = true := okV3_of fun d hd => by
  obtain ⟨p, _, rfl⟩ := List.mem_map.mp hd
  exact okV2_pr p
@[reducible] def S_law_right_9be6 : Spec := S_right
theorem T_law_right_9be6 {Φ : Nat → Spec} (id : Nat) (hd : Φ id = S_draw) (iq : Nat) (hq9 : Φ iq = S_law_pairs_c66b) (ip : Nat) (hp : Φ ip = S_pick) (iw : Nat) (hw : Φ iw = S_law_power_5969) (ir : Nat) (hr : Φ ir = S_law_refused_614a) (is : Nat) (hs : Φ is = S_law_same_ae9a 2) (jf : Nat) (hf : Φ jf = S_from_pairs_0e90x) (jt : Nat) (ht : Φ jt = S_istab) (jw : Nat) (hwo : Φ jw = S_worth_83ba) :
    ∀ ds M X Q, ds.length = 1 → S_law_right_9be6 ds M X Q → wpF Φ 16 (B_law_right_9be6 id iq ip iw ir is jf jt jw) ds M X Q := by
  rintro ds M X Q - ⟨a, c, rfl, hM, hc, hq⟩
  show wpSs Φ (B_law_right_9be6 id iq ip iw ir is jf jt jw) [some (.cell a), none, none, none, none, none, none, none, none, none, none, none, none, none, none, none] M (subX X) _
  have szl := sizeLine_eq
  rw [← set_self hM]
  walk_at "rfw"; rw [show rngD 1 7 = natsD (List.range' 1 6) from rngN (a := 1) (b := 7)]
  refine ⟨rngOk_s (by decide) (by decide) (by decide) (by decide), ?_⟩
  refine forGo_range (fun k ρ M' => ∃ c, PoolC c ∧ M' = M.set a c ∧ ∃ x1 x2 x3 x4 x5 x6 x7 x8 x9 x10 x11 x12 x13 x14 x15, ρ = [some (.cell a), x1, x2, x3, x4, x5, x6, x7, x8, x9, x10, x11, x12, x13, x14, x15]) ?_ ?_ ⟨c, hc, rfl, _, _, _, _, _, _, _, _, _, _, _, _, _, _, _, rfl⟩
  · rintro n ρ M' h1 h7 ⟨c, hc, rfl, x1, x2, x3, x4, x5, x6, x7, x8, x9, x10, x11, x12, x13, x14, x15, rfl⟩ K hK
    have h6 : n ≤ 6 := by omega
    have h64 := pow64 h6
    have h2p : 2 ≤ 2 ^ n := by
      have := Nat.pow_le_pow_right (n := 2) (by decide) h1
      simpa using this
    walk_at "rfw"; rw [hq9]; refine ⟨a, c, n, rfl, h1, h6, Mem.set_same, hc, fun P c1 hP hc1 => ?_⟩; rw [Mem.set_set]
    have hTab := tabP_tab h1 h6 hP
    have lP : P.length ≤ 64 := by
      have := nodup_le (n := 2 ^ n) hP.nd (fun x hx => by obtain ⟨p, hp, rfl⟩ := List.mem_map.mp hx; exact hP.lot p hp)
      rw [List.length_map] at this; omega
    have smT : smB 2 (tabD (tabP n P)) = true := smB_ints (by rw [tabP_len]; omega)
    walk_at "rfw"; rw [hw]; refine ⟨n, by omega, rfl, ?_⟩; walk_at "rfw"; rw [rng0]; refine ⟨rngOk0 (by omega), ?_⟩
    refine lcGo_nat (fun l => .int (dueW P (l : Nat))) (fun l hl K2 K2' hK2 => ?_) ?_
    · walk_at "rfw"; refine ite_t rfl ?_; walk_at "rfw"
      refine lcGo_keep (M := M.set a c1) prII (fun p => decide (p.1 = (l : Int))) (fun p => .int p.2) (fun p hp K3 K3' e1 e2 => ?_) ?_
      · walk_at "rfw"; refine ⟨rfl, ?_⟩; walk_at "rfw"; refine ite_p (fun e => ?_) (fun e => ?_)
        · walk_at "rfw"; exact e1 (decide_eq_true e)
        · exact e2 (decide_eq_false e)
      · rw [List.nil_append, show ((P.filter fun p => decide (p.1 = (l : Int))).map fun p => D.int p.2) = ((P.filter fun p => decide (p.1 = (l : Int))).map (·.2)).map D.int from map_int]
        walk_at "rfw"; rw [asInts_map]; exact hK2
    rw [show ((List.range (2 ^ n)).map fun l => D.int (dueW P (l : Nat))) = (dueT n P).map D.int from map_int, ← tabP_due hP.nd]
    walk_at "rfw"; refine draw_set hd (by decide) (by decide) hc1 fun r c2 r0 r1 hc2 => ?_; walk_at "rfw"
    have call : ∀ {P' : List (Int × Int)} {M : Mem} {X' : XQ} {Q' : QD}, GoodP n P' → Q' (tabD (tabP n P')) M → Φ jf [.int n, .tup (P'.map prII)] M X' Q' := fun {P' M X' Q'} g q => by
      rw [hf]; exact ⟨n, _, rfl, h1, h6, okV3_pr _, by rw [fromO_good g]; exact q⟩
    have rest : ∀ c2, PoolC c2 → wpSs Φ ((forB (B_law_right_9be6_s0 id iq ip iw ir is jf jt jw)).drop 3) [some (.cell a), some (.int n), some (.tup (P.map prII)), some (tabD (tabP n P)), x4, x5, x6, some (tabD (tabP n P)), x8, x9, x10, x11, x12, x13, x14, x15] (M.set a c2) (subX X) (lopZ (seqZ Φ [B_law_right_9be6_s1 id iq ip iw ir is jf jt jw] (subX X) { nx := fun x M1 => subQ Q .non M1, rt := subQ Q }) K) := by
      intro c2 hc2
      dsimp only [forB, List.drop]
      walk_at "rfw"; rw [hs]; refine ⟨_, rfl, smT, ?_⟩; walk_at "rfw"; refine ite_f rfl ?_; walk_at "rfw"
      rw [ht]; refine ⟨_, rfl, ok2_ints _, ?_⟩; rw [isTab_tab hTab]; walk_at "rfw"; refine ite_f rfl ?_; walk_at "rfw"
      rw [← List.map_reverse]; refine call hP.rev ?_; walk_at "rfw"
      rw [tabP_rev hP, ← tabP_due hP.nd]; rw [hs]; refine ⟨_, rfl, smT, ?_⟩; walk_at "rfw"; refine ite_f rfl ?_; walk_at "rfw"
      refine lcGo_keep (M := M.set a c2) prII (fun _ => false) (fun p => .int p.1) (fun p hp K3 K3' e1 e2 => ?_) ?_
      · obtain ⟨l, hl⟩ := Int.eq_ofNat_of_zero_le (show 0 ≤ p.1 by have := hP.lot p hp; omega)
        have hl2 : l < (tabP n P).length := by rw [tabP_len]; have := hP.lot p hp; omega
        walk_at "rfw"; refine ⟨rfl, ?_⟩; walk_at "rfw"; rw [hwo]; refine ⟨n, tabP n P, l, hl2, by rw [hl], hTab, ?_⟩
        rw [tabP_at hl2, ← hl, pairW_mem hP.nd hp]
        walk_at "rfw"; refine ite_f (by simp) ?_; exact e2 rfl
      rw [List.nil_append, show P.filter (fun _ => false) = [] from List.filter_eq_nil_iff.mpr fun _ _ => by decide]
      walk_at "rfw"; refine ⟨_, eqNilA, ?_⟩; refine ite_f rfl ?_; walk_at "rfw"
      refine call (P' := []) ⟨(fun _ h => nomatch h), (fun _ h => nomatch h), List.nodup_nil⟩ ?_; walk_at "rfw"
      rw [hw]; refine ⟨n, by omega, rfl, ?_⟩; walk_at "rfw"
      refine ⟨⟨List.cons_ne_nil _ _, by omega, by omega, by decide⟩, ?_⟩; rw [rep_ints]
      refine ⟨_, eqInts, ?_⟩
      have ez : tabP n [] = List.replicate (2 ^ n) 0 := by
        unfold tabP
        refine List.ext_getElem (by simp) fun i i1 i2 => ?_
        simp [pairW]
      rw [ez, decide_eq_true rfl]; refine ite_f rfl ?_; walk_at "rfw"
      rw [List.length_map, tabP_len, show rngD 1 ((2 ^ n : Nat) : Int) = natsD (List.range' 1 (2 ^ n - 1)) from rngN (a := 1)]; refine ⟨rngOk_s (by decide) (by decide) (by have : (0 : Int) ≤ ((2 ^ n : Nat) : Int) := Int.natCast_nonneg _; omega) (by omega), ?_⟩
      refine lcGo_nat (fun l => prII ((l : Nat), pairW P (l : Nat))) (fun l hl K2 K2' hK2 => ?_) ?_
      · have hl2 : l < (tabP n P).length := by rw [tabP_len]; have := List.mem_range'_1.mp hl; omega
        walk_at "rfw"; refine ite_t rfl ?_; walk_at "rfw"; refine ixL_of (atI_ints hl2) ?_; rw [tabP_at hl2]; walk_at "rfw"; exact hK2
      rw [show ((List.range' 1 (2 ^ n - 1)).map fun l => prII ((l : Nat), pairW P (l : Nat))) = ((List.range' 1 (2 ^ n - 1)).map fun l : Nat => (((l : Nat) : Int), pairW P (l : Nat))).map prII from by rw [List.map_map]; rfl]
      have gW : GoodP n ((List.range' 1 (2 ^ n - 1)).map fun l : Nat => (((l : Nat) : Int), pairW P (l : Nat))) := ⟨fun p hp => by
          obtain ⟨l, hl, rfl⟩ := List.mem_map.mp hp
          have := List.mem_range'_1.mp hl
          exact ⟨by show (1 : Int) ≤ (l : Nat); omega, by show ((l : Nat) : Int) < _; omega⟩, fun p hp => by
          obtain ⟨l, hl, rfl⟩ := List.mem_map.mp hp
          exact pairW_b hP _, by
          rw [List.map_map]
          refine List.pairwise_map.mpr ?_
          refine (List.pairwise_lt_range' ..).imp fun {x y} lt e => ?_
          have e : ((x : Nat) : Int) = ((y : Nat) : Int) := e
          omega⟩
      have eW : tabP n ((List.range' 1 (2 ^ n - 1)).map fun l : Nat => (((l : Nat) : Int), pairW P (l : Nat))) = tabP n P := by
        unfold tabP
        refine List.map_congr_left fun l hl => ?_
        have hl := List.mem_range.mp hl
        by_cases h0 : l = 0
        · subst h0
          rw [pairW_no fun p hp z => by
            obtain ⟨k, hk, rfl⟩ := List.mem_map.mp hp
            have := List.mem_range'_1.mp hk
            have z : ((k : Nat) : Int) = ((0 : Nat) : Int) := z
            omega, pairW_no fun p hp z => by have := hP.lot p hp; have z : p.1 = ((0 : Nat) : Int) := z; omega]
        · exact pairW_mem gW.nd (p := (((l : Nat) : Int), pairW P (l : Nat))) (List.mem_map.mpr ⟨l, List.mem_range'_1.mpr ⟨by omega, by omega⟩, rfl⟩)
      walk_at "rfw"; refine call gW ?_; walk_at "rfw"; rw [eW, hs]; refine ⟨_, rfl, smT, ?_⟩; walk_at "rfw"; refine ite_f rfl ?_; walk_at "rfw"
      rw [show rngD 0 8 = natsD (List.range 8) from rng0 (b := 8)]; refine ⟨rngOk_s (by decide) (by decide) (by decide) (by decide), ?_⟩
      refine forGo_range0 (fun k ρ M' => ∃ c, PoolC c ∧ M' = M.set a c ∧ ∃ x3 x4 x5 x6 x7 x8 x9 x10 x11 x12 x13 x14 x15, ρ = [some (.cell a), some (.int n), some (.tup (P.map prII)), x3, x4, x5, x6, x7, x8, x9, x10, x11, x12, x13, x14, x15]) ?_ ?_ ⟨c2, hc2, rfl, _, _, _, _, _, _, _, _, _, _, _, _, _, rfl⟩
      · rintro k ρ M' hk ⟨c3, hc3, rfl, x3, x4, x5, x6, x7, x8, x9, x10, x11, x12, x13, x14, x15, rfl⟩ K2 hK2
        walk_at "rfw"; rw [List.length_map]; refine draw_set hd (by omega) (by omega) hc3 fun r c4 r0 r1 hc4 => ?_
        obtain ⟨at_, rfl⟩ := Int.eq_ofNat_of_zero_le r0
        have hat : at_ ≤ P.length := by omega
        walk_at "rfw"; rw [hw]; refine ⟨n, by omega, rfl, ?_⟩; walk_at "rfw"
        rw [show rngD 1 ((2 ^ n : Nat) : Int) = natsD (List.range' 1 (2 ^ n - 1)) from rngN (a := 1)]; refine ⟨rngOk_s (by decide) (by decide) (by have : (0 : Int) ≤ ((2 ^ n : Nat) : Int) := Int.natCast_nonneg _; omega) (by omega), ?_⟩
        refine lcGo_keep (M := M.set a c4) (fun n : Nat => D.int n) (fun l => !decide (((l : Nat) : Int) ∈ (P.take at_).map (·.1))) (fun n => D.int n) (fun l hl K3 K3' e1 e2 => ?_) ?_
        · walk_at "rfw"; rw [cut_take, ← List.map_take]
          refine lcGo_all (M := M.set a c4) prII (fun p => .int p.1) (fun q hq K1 K1' e1 => ?_) ?_
          · walk_at "rfw"; refine ⟨rfl, ?_⟩; walk_at "rfw"; refine ite_t rfl ?_; walk_at "rfw"; exact e1
          rw [List.nil_append, show (P.take at_).map (fun p => D.int p.1) = ((P.take at_).map (·.1)).map D.int from map_int]
          walk_at "rfw"; refine inSeq_ints ?_
          refine ite_b (fun g => ?_) (fun g => ?_)
          · walk_at "rfw"; exact e1 g
          · exact e2 g
        rw [List.nil_append]
        generalize (List.range' 1 (2 ^ n - 1)).filter (fun l : Nat => !decide (((l : Nat) : Int) ∈ (P.take at_).map fun x => x.1)) = L
        have e29 : (10 : Int) ^ (29 : Int).toNat = 100000000000000000000000000000 := by decide
        walk_at "rfw"; rw [hw]; refine ⟨n, by omega, rfl, ?_⟩; walk_at "rfw"
        refine ⟨pow_s (by decide) (by decide) (by decide) (by decide), ?_⟩; rw [e29]
        walk_at "rfw"
        generalize e0 : [D.non, D.tup [], D.tup [D.int 1], D.tup [D.int 1, D.int 2, D.int 3], D.lst [D.int 1, D.int 2], D.int 5, D.str "1", D.tup [D.int ((2 ^ n : Nat) : Int), D.int 1], D.tup [D.int (-1), D.int 1], D.tup [D.bl true, D.int 1], D.tup [D.str "1", D.int 1], D.tup [D.non, D.int 1], D.tup [D.int 100000000000000000000000000000, D.int 1]] = S0
        have z0 : ∀ d ∈ S0, okV2 d = true ∧ lotPB n d = false := by
          subst e0
          intro d hd
          have lb : ∀ i : Int, i < 1 ∨ ((2 ^ n : Nat) : Int) ≤ i → lotPB n (.tup [.int i, .int 1]) = false := fun i h => by
            show ((decide _ && decide _) && _) = false
            rcases h with h | h
            · rw [decide_eq_false (by omega)]; rfl
            · rw [show decide (i ≤ ((2 ^ n : Nat) : Int) - 1) = false from decide_eq_false (by omega), Bool.and_false, Bool.false_and]
          simp only [List.mem_cons, List.not_mem_nil, or_false] at hd
          rcases hd with rfl | rfl | rfl | rfl | rfl | rfl | rfl | rfl | rfl | rfl | rfl | rfl | rfl
          · exact ⟨rfl, rfl⟩
          · exact ⟨rfl, rfl⟩
          · exact ⟨rfl, rfl⟩
          · exact ⟨rfl, rfl⟩
          · exact ⟨rfl, rfl⟩
          · exact ⟨rfl, rfl⟩
          · exact ⟨rfl, rfl⟩
          · exact ⟨rfl, lb _ (.inr (by omega))⟩
          · exact ⟨rfl, lb _ (.inl (by omega))⟩
          · exact ⟨rfl, rfl⟩
          · exact ⟨rfl, rfl⟩
          · exact ⟨rfl, rfl⟩
          · exact ⟨rfl, lb _ (.inr (by omega))⟩
        have l0 : S0.length = 13 := by subst e0; rfl
        have go : ∀ S1 : List D, (∀ d ∈ S1, okV2 d = true ∧ lotPB n d = false) → 0 < S1.length → S1.length ≤ 100 → wpSs Φ ((forB ((forB (B_law_right_9be6_s0 id iq ip iw ir is jf jt jw)).getD 7 .pass)).drop 4) [some (.cell a), some (.int n), some (.tup (P.map prII)), x3, x4, x5, some (.lst (natsD L)), x7, x8, some (.int k), some (.int at_), x11, some (.lst S1), x13, x14, x15] (M.set a c4) (subX X) (lopZ (seqZ Φ ((forB (B_law_right_9be6_s0 id iq ip iw ir is jf jt jw)).drop 8) (subX X) (lopZ (seqZ Φ [B_law_right_9be6_s1 id iq ip iw ir is jf jt jw] (subX X) { nx := fun x M1 => subQ Q .non M1, rt := subQ Q }) K)) K2) := by
          intro S1 hS p1 p2
          dsimp only [forB, List.drop, List.getD, List.getElem?_cons_succ, List.getElem?_cons_zero, Option.getD]
          walk_at "rfw"; rw [cut_take, ← List.map_take]; refine pick_set hp (.inl rfl) p1 (by omega) hc4 fun x c5 hx hc5 => ?_
          obtain ⟨ox, lx⟩ := hS x hx
          have gT := hP.take at_
          have lT : (P.take at_).length = at_ := by rw [List.length_take]; omega
          walk_at "rfw"; refine ⟨by simp; omega, ?_⟩; walk_at "rfw"
          refine draw_set hd (by decide) (by decide) hc5 fun r c6 r0 r1 hc6 => ?_; walk_at "rfw"
          have sm1 : smB 2 (.lst [.int (at_ : Nat)]) = true := by simp [smB, nice, nices]
          have fin : ∀ r : List D, (∀ d ∈ r, okV2 d = true) → r.length ≤ 64 → (((P.take at_).map prII ++ [x]).length + r.length ≤ sizeLine) ∧ ∀ Q', Q' (.lst [.int (at_ : Nat)]) (M.set a c6) → Φ ir [.int n, .tup ((P.take at_).map prII ++ [x] ++ r)] (M.set a c6) (subX X) Q' := fun r hr9 hl => ⟨by simp; omega, fun Q' q => by
            rw [hr]
            refine ⟨n, _, rfl, h1, h6, okV3_of fun d hd => ?_, ?_⟩
            · rcases List.mem_append.mp hd with h | h
              · rcases List.mem_append.mp h with h | h
                · obtain ⟨p, _, rfl⟩ := List.mem_map.mp h
                  exact okV2_pr p
                · rcases List.mem_singleton.mp h with rfl; exact ox
              · exact hr9 d h
            · unfold refP
              rw [wrongP_at gT lx, lT]; exact q⟩
          refine ite_p (fun _ => ?_) (fun _ => ?_)
          · walk_at "rfw"; rw [cut_drop, ← List.map_drop]
            have f := fin ((P.drop at_).map prII) (fun d hd => by obtain ⟨p, _, rfl⟩ := List.mem_map.mp hd; exact okV2_pr p) (by simp; omega)
            refine ⟨f.1, ?_⟩; walk_at "rfw"; refine f.2 _ ?_; walk_at "rfw"; rw [hs]; refine ⟨_, rfl, sm1, ?_⟩; walk_at "rfw"; refine ite_f rfl ?_; walk_at "rfw"
            exact hK2 _ _ ⟨c6, hc6, rfl, _, _, _, _, _, _, _, _, _, _, _, _, _, rfl⟩
          · walk_at "rfw"
            have f := fin [.non] (fun d hd => by rcases List.mem_singleton.mp hd with rfl; rfl) (by decide)
            refine ⟨f.1, ?_⟩; walk_at "rfw"; refine f.2 _ ?_; walk_at "rfw"; rw [hs]; refine ⟨_, rfl, sm1, ?_⟩; walk_at "rfw"; refine ite_f rfl ?_; walk_at "rfw"
            exact hK2 _ _ ⟨c6, hc6, rfl, _, _, _, _, _, _, _, _, _, _, _, _, _, rfl⟩
        refine ⟨_, eqNilA, ?_⟩
        cases L with
        | nil =>
          refine ite_f rfl ?_; walk_at "rfw"
          exact go S0 z0 (by omega) (by omega)
        | cons l0' L' =>
          refine ite_t rfl ?_; walk_at "rfw"
          refine ⟨pow_s (by decide) (by decide) (by decide) (by decide), ?_⟩; rw [e29]; walk_at "rfw"
          generalize e1 : [D.int 10000, D.int (-10000), D.non, D.bl true, D.str "1", D.tup [D.int 1, D.int 1], D.int 100000000000000000000000000000] = OD
          have zo : ∀ d ∈ OD, okV d = true ∧ btB d (-9999) 9999 = false := by
            subst e1
            intro d hd
            simp only [List.mem_cons, List.not_mem_nil, or_false] at hd
            rcases hd with rfl | rfl | rfl | rfl | rfl | rfl | rfl <;> exact ⟨rfl, by decide⟩
          have lo : OD.length = 7 := by subst e1; rfl
          refine lcGo_Da (M := M.set a c4) (fun d => .tup [.int (l0' : Nat), d]) (fun x hx K K' hK => ?_) ?_
          · have ea : atI (natsD (l0' :: L')) 0 = some (.int (l0' : Nat)) := atI_nats (i := 0) (by simp)
            walk_at "rfw"; refine ite_t rfl ?_; walk_at "rfw"; refine ixL_of ea ?_; walk_at "rfw"; exact hK
          rw [List.nil_append]
          walk_at "rfw"; refine ⟨by simp; omega, ?_⟩; walk_at "rfw"
          refine go (S0 ++ OD.map fun d => .tup [.int (l0' : Nat), d]) (fun d hd => ?_) (by simp; omega) (by simp; omega)
          rcases List.mem_append.mp hd with h | h
          · exact z0 d h
          · obtain ⟨o, ho, rfl⟩ := List.mem_map.mp h
            obtain ⟨o1, o2⟩ := zo o ho
            refine ⟨?_, ?_⟩
            · show (true && [D.int (l0' : Nat), o].all okV) = true
              rw [Bool.true_and, List.all_cons, List.all_cons, o1]; rfl
            · show (_ && btB o (-9999) 9999) = false
              rw [o2, Bool.and_false]
      · rintro ρ M' ⟨c3, hc3, rfl, x3, x4, x5, x6, x7, x8, x9, x10, x11, x12, x13, x14, x15, rfl⟩
        have np : nices 60 (P.map prII) = true := nices_map fun p _ => by simp [nice, nices]
        have last : wpSs Φ ((forB (B_law_right_9be6_s0 id iq ip iw ir is jf jt jw)).drop 9) [some (.cell a), some (.int n), some (.tup (P.map prII)), x3, x4, x5, x6, x7, x8, x9, x10, x11, x12, x13, x14, x15] (M.set a c3) (subX X) (lopZ (seqZ Φ [B_law_right_9be6_s1 id iq ip iw ir is jf jt jw] (subX X) { nx := fun x M1 => subQ Q .non M1, rt := subQ Q }) K) := by
          dsimp only [forB, List.drop]
          walk_at "rfw"
          generalize e1 : [D.non, D.lst (P.map prII), D.int 0, D.bl true, D.dct [] [], D.str "pairs"] = VS
          have zv : ∀ d ∈ VS, okV3 d = true ∧ refP n d = .lst [.non] := by
            subst e1
            intro d hd
            simp only [List.mem_cons, List.not_mem_nil, or_false] at hd
            rcases hd with rfl | rfl | rfl | rfl | rfl | rfl <;> exact ⟨rfl, rfl⟩
          rw [show VS = VS.map fun d => d from (List.map_id' VS).symm]
          refine forGo_list (fun d : D => d) (fun done rest ρ M' => M' = M.set a c3 ∧ ∃ x15, ρ = [some (.cell a), some (.int n), some (.tup (P.map prII)), x3, x4, x5, x6, x7, x8, x9, x10, x11, x12, x13, x14, x15]) ?_ ?_ ⟨rfl, _, rfl⟩
          · rintro d done rest ρ M' e ⟨rfl, x15, rfl⟩ K2 hK2
            obtain ⟨o1, o2⟩ := zv d (by rw [← e]; simp)
            walk_at "rfw"; rw [hr]; refine ⟨n, d, rfl, h1, h6, o1, ?_⟩; rw [o2]; walk_at "rfw"; rw [hs]; refine ⟨_, rfl, rfl, ?_⟩; walk_at "rfw"; refine ite_f rfl ?_; walk_at "rfw"
            exact hK2 _ _ ⟨rfl, _, rfl⟩
          · rintro ρ M' ⟨rfl, x15, rfl⟩
            exact hK _ _ ⟨c3, hc3, rfl, _, _, _, _, _, _, _, _, _, _, _, _, _, _, _, rfl⟩
        walk_at "rfw"; refine ⟨_, eqNilT np, ?_⟩
        cases P with
        | nil => refine ite_f rfl ?_; exact last
        | cons p P' =>
          refine ite_t rfl ?_; walk_at "rfw"
          rw [show (1 : Int) = ((1 : Nat) : Int) from rfl, cut_take]
          have et : ((p :: P').map prII).take 1 = [prII p] := rfl
          rw [et]; refine ⟨by simp at lP ⊢; omega, ?_⟩; walk_at "rfw"
          rw [hr]; refine ⟨n, _, rfl, h1, h6, okV3_of fun d hd => ?_, ?_⟩
          · rcases List.mem_append.mp hd with h | h
            · obtain ⟨p, _, rfl⟩ := List.mem_map.mp h
              exact okV2_pr p
            · rcases List.mem_singleton.mp h with rfl; exact okV2_pr p
          · have e2 : refP n (.tup ((p :: P').map prII ++ [prII p])) = .lst [.int ((p :: P').length : Nat)] := by
              unfold refP
              rw [wrongP_two hP (List.mem_cons_self ..)]
            rw [e2]; walk_at "rfw"; rw [List.length_map, hs]; refine ⟨_, rfl, by simp [smB, nice, nices], ?_⟩; walk_at "rfw"; refine ite_f rfl ?_; exact last
    refine ite_p (fun _ => ?_) (fun _ => ?_)
    · walk_at "rfw"; refine permP_of rfl ?_; refine call hP ?_; exact rest c2 hc2
    · walk_at "rfw"; refine call hP ?_; exact rest c2 hc2
  · rintro ρ M' ⟨c, hc, rfl, x1, x2, x3, x4, x5, x6, x7, x8, x9, x10, x11, x12, x13, x14, x15, rfl⟩
    walk_at "rfw"; exact subQ_here (hq c hc)
/-! law_037a: slots ('script', 'lap') -/
@[reducible] def B_law_037a_s0 (i__law_pool : Nat) (i__law_right : Nat) : CS := .for_ (.nm 1) (.bi .range [(.bi .max2 [(.lit (.int 2)), (.bi .min2 [(.bi .len [(.var 0)]), (.lit (.int 3))])])]) [.iff (.not (.call i__law_right [(.call i__law_pool [(.var 0), (.var 1)])])) [.ret (.lit (.bl false))] []]
@[reducible] def B_law_037a_s1 (i__law_pool : Nat) (i__law_right : Nat) : CS := .ret (.lit (.bl true))
@[reducible] def B_law_037a (i__law_pool : Nat) (i__law_right : Nat) : List CS := [B_law_037a_s0 i__law_pool i__law_right, B_law_037a_s1 i__law_pool i__law_right]
@[reducible] def S_law_037a : Spec := lawS
theorem T_law_037a {Φ : Nat → Spec} (ip : Nat) (hp : Φ ip = S_pool) (ir : Nat) (hr : Φ ir = S_right) : ∀ ds M X Q, ds.length = 1 → S_law_037a ds M X Q → wpF Φ 2 (B_law_037a ip ir) ds M X Q := by
  rintro ds M X Q - ⟨ns, hn, rfl, rfl, hq⟩
  show wpSs Φ (B_law_037a ip ir) [some (.scr (ns.map D.int)), none] _ (subX X) _
  walk_at "rfw"
  obtain ⟨n, hn3, e⟩ : ∃ n : Nat, n ≤ 3 ∧ (if (if (3 : Int) < ((ns.map D.int).length : Int) then (3 : Int) else ((ns.map D.int).length : Int)) > 2 then (if (3 : Int) < ((ns.map D.int).length : Int) then (3 : Int) else ((ns.map D.int).length : Int)) else 2) = (n : Int) := by
    generalize (ns.map D.int).length = m
    by_cases h : (3 : Int) < (m : Int)
    · exact ⟨3, Nat.le_refl 3, by simp [h]⟩
    · by_cases h2 : (m : Int) > 2
      · exact ⟨m, by omega, by simp [h, h2]⟩
      · exact ⟨2, by decide, by simp [h, h2]⟩
  rw [e]
  refine ⟨rngOk_s (by decide) (by decide) (by omega) (by omega), ?_⟩
  rw [rng0]
  refine forGo_inv (fun xs ρ M' => ∃ l : List Nat, xs = natsD l ∧ (∀ k ∈ l, k < 3) ∧ ∃ x, ρ = [some (.scr (ns.map D.int)), x]) ?_ ?_ ⟨_, rfl, fun k h => by have := List.mem_range.mp h; omega, _, rfl⟩
  · rintro x xs ρ M' ⟨l, e, hl, x1, rfl⟩ K hK
    obtain ⟨k, l, rfl⟩ : ∃ p l', l = p :: l' := by
      cases l with
      | nil => cases e
      | cons p l => exact ⟨p, l, rfl⟩
    cases e
    have hk := hl k (by simp)
    walk_at "rfw"; rw [hp]; refine ⟨ns, k, hn, by omega, rfl, fun p c hp' hc => ?_⟩; walk_at "rfw"
    rw [hr]; refine ⟨p, c, rfl, Mem.set_same, hc, fun c' hc' => ?_⟩; walk_at "rfw"; refine ite_f rfl ?_; walk_at "rfw"
    exact hK _ _ ⟨l, rfl, fun q hq' => hl q (by simp [hq']), _, rfl⟩
  · rintro ρ M' ⟨l, -, -, x, rfl⟩
    walk_at "rfw"; exact subQ_here (hq _)
end RF
namespace K05
open PySem PySem.Spec PyProof.Rows L2 RF
def top (i : Nat) : Stmt := PySem.Challenge.pw_jointshares_k05_whole_tables_from_pairs.main.body.getD i (.Pass ⟨0, 0, 0, 0⟩)
def FNS : List FI := [⟨"is_whole", ["value"], 1⟩,
  ⟨"is_between", ["value", "low", "high"], 2⟩,
  ⟨"is_tuple_of", ["value", "many"], 1⟩,
  ⟨"people_of_length", ["length"], 1⟩,
  ⟨"is_worth", ["value"], 3⟩,
  ⟨"wrong_in_table", ["value"], 4⟩,
  ⟨"is_table_by", ["value"], 5⟩,
  ⟨"is_lot", ["table", "value"], 3⟩,
  ⟨"is_lot_pair", ["many", "value"], 4⟩,
  ⟨"wrong_in_pairs", ["many", "value"], 5⟩,
  ⟨"table_of_pairs", ["many", "pairs"], 1⟩,
  ⟨"check_table", ["value"], 5⟩,
  ⟨"check_lot", ["table", "value"], 4⟩,
  ⟨"check_times", ["value", "low", "high"], 3⟩,
  ⟨"is_table", ["value"], 6⟩,
  ⟨"check_asked", ["table", "lot"], 6⟩,
  ⟨"worth", ["table", "lot"], 7⟩,
  ⟨"from_pairs", ["times", "pairs"], 6⟩,
  ⟨"_law_pool", ["script", "lap"], 1⟩,
  ⟨"_law_draw", ["pool", "many"], 1⟩,
  ⟨"_law_pick", ["pool", "some"], 2⟩,
  ⟨"_law_same", ["one", "other"], 1⟩,
  ⟨"_law_same", ["one", "other"], 2⟩,
  ⟨"_law_same", ["one", "other"], 3⟩,
  ⟨"_law_power", ["many"], 1⟩,
  ⟨"_law_refused", ["times", "pairs"], 7⟩,
  ⟨"_law_pairs", ["pool", "many"], 3⟩,
  ⟨"_law_right", ["pool"], 8⟩,
  ⟨"law", ["script"], 9⟩]
def KWS : List KW := [⟨17, 0, ["pairs", "times"], [1, 0]⟩]
def INTS : List (Str × Int) := [("MOST_PEOPLE", 6), ("MOST_WORTH", 9999), ("NOBODY", 0)]
def STRS : List (Str × Str) := []
def TUPS : List (Str × List He.Dv) := []
def MTH : List Str := []
def XDS : List (Nat × RF.ED) := [(4, ⟨"InvalidNumber", "given", "InvalidNumber.__init__", ⟨48, 17, 48, 21⟩, ⟨48, 23, 48, 28⟩, ⟨49, 8, 49, 12⟩, ⟨49, 8, 49, 18⟩, ⟨49, 21, 49, 26⟩, ⟨49, 8, 49, 26⟩⟩),
  (15, ⟨"InvalidTable", "index", "InvalidTable.__init__", ⟨52, 17, 52, 21⟩, ⟨52, 23, 52, 28⟩, ⟨53, 8, 53, 12⟩, ⟨53, 8, 53, 18⟩, ⟨53, 21, 53, 26⟩, ⟨53, 8, 53, 26⟩⟩)]
def XD0 : List (Nat × Str) := []
def EXS : List (Nat × (Str × Str)) := XDS.map RF.ED.p ++ XD0.map RF.ED.p0
def EIS : List (Str × List Nat) := [("JointError", [0, 1, 2, 3, 4, 5, 6, 7, 8, 9, 10, 11, 12, 13, 14, 15, 16, 17, 18, 19, 20, 21, 22, 23, 24, 25, 26, 27, 28, 29, 30, 31, 32, 33, 34, 35, 36]), ("InvalidTable", [15]), ("InvalidNumber", [4])]
def EX (K : PySem.W.Frag) : Bool := (RF.gtB K TUPS && RF.mtB K MTH) && RF.exB K EXS EIS
def BLT : List Str := ["abs", "bool", "divmod", "enumerate", "int", "isinstance", "len", "list", "max", "min", "range", "str", "sum", "tuple"]
def cfg (N : List Str) (l : Nat) : Cfg := ⟨N, FNS, KWS, INTS.map (fun p => ⟨p.1, .int p.2⟩) ++ STRS.map (fun p => ⟨p.1, .str p.2⟩), RF.gtsOf TUPS, MTH, BLT, EXS, EIS, true, l⟩
-- 0 is_whole
def n_is_whole : List Str := ["value"]
def b_is_whole : List CS := B_is_whole_094d
-- 1 is_between
def n_is_between : List Str := ["value", "low", "high"]
def b_is_between : List CS := B_is_between_f089 0
-- 2 is_tuple_of
def n_is_tuple_of : List Str := ["value", "many"]
def b_is_tuple_of : List CS := B_is_tuple_of_1aaa
-- 3 people_of_length
def n_people_of_length : List Str := ["length", "many"]
def b_people_of_length : List CS := B_people_of_length_e5f5
-- 4 is_worth
def n_is_worth : List Str := ["value"]
def b_is_worth : List CS := B_is_worth_6548 1
-- 5 wrong_in_table
def n_wrong_in_table : List Str := ["value", "index", "each"]
def b_wrong_in_table : List CS := B_wrong_in_table_89b2 4 3
-- 6 is_table_by
def n_is_table_by : List Str := ["value"]
def b_is_table_by : List CS := B_is_table_by_e3ad 5
-- 7 is_lot
def n_is_lot : List Str := ["table", "value"]
def b_is_lot : List CS := B_is_lot_97ca 1
-- 8 is_lot_pair
def n_is_lot_pair : List Str := ["many", "value"]
def b_is_lot_pair : List CS := B_is_lot_pair_648c 1 2 4
-- 9 wrong_in_pairs
def n_wrong_in_pairs : List Str := ["many", "value", "index", "each", "lot", "worth"]
def b_wrong_in_pairs : List CS := B_wrong_in_pairs_bcc7 8
-- 10 table_of_pairs
def n_table_of_pairs : List Str := ["many", "pairs", "worths", "lot", "worth"]
def b_table_of_pairs : List CS := B_table_of_pairs_3cc1
-- 11 check_table
def n_check_table : List Str := ["value", "index"]
def b_check_table : List CS := B_check_table_6a78 5
-- 12 check_lot
def n_check_lot : List Str := ["table", "value"]
def b_check_lot : List CS := B_check_lot_ee10 7
-- 13 check_times
def n_check_times : List Str := ["value", "low", "high"]
def b_check_times : List CS := B_check_times_e793x 1
-- 14 is_table
def n_is_table : List Str := ["value"]
def b_is_table : List CS := B_is_table_76a8 6
-- 15 check_asked
def n_check_asked : List Str := ["table", "lot"]
def b_check_asked : List CS := B_check_asked_2f2b 12 11
-- 16 worth
def n_worth : List Str := ["table", "lot"]
def b_worth : List CS := B_worth_83ba 15
-- 17 from_pairs
def n_from_pairs : List Str := ["times", "pairs", "index"]
def b_from_pairs : List CS := B_from_pairs_0e90x 13 10 9
-- 18 _law_pool
def n__law_pool : List Str := ["script", "lap", "own", "stirred", "cell"]
def b__law_pool : List CS := B_law_pool_3584
-- 19 _law_draw
def n__law_draw : List Str := ["pool", "many", "figure", "held"]
def b__law_draw : List CS := B_law_draw_2fdf
-- 20 _law_pick
def n__law_pick : List Str := ["pool", "some"]
def b__law_pick : List CS := B_law_pick_c6c2 19
-- 21 _law_same_0
def n__law_same_0 : List Str := ["one", "other", "k"]
def b__law_same_0 : List CS := B_law_same_ae9a0
-- 22 _law_same_1
def n__law_same_1 : List Str := ["one", "other", "k"]
def b__law_same_1 : List CS := B_law_same_ae9a 21
-- 23 _law_same_2
def n__law_same_2 : List Str := ["one", "other", "k"]
def b__law_same_2 : List CS := B_law_same_ae9a 22
-- 24 _law_power
def n__law_power : List Str := ["many", "found", "lap"]
def b__law_power : List CS := B_law_power_5969
-- 25 _law_refused
def n__law_refused : List Str := ["times", "pairs", "e"]
def b__law_refused : List CS := B_law_refused_614a 17
-- 26 _law_pairs
def n__law_pairs : List Str := ["pool", "many", "found", "lots", "lap", "lot"]
def b__law_pairs : List CS := B_law_pairs_c66b 19 20 24
-- 27 _law_right
def n__law_right : List Str := ["pool", "many", "pairs", "due", "one", "each", "lot", "told", "whole", "lap", "at", "worth_of", "some", "odd", "wrong", "value"]
def b__law_right : List CS := B_law_right_9be6 19 26 20 24 25 23 17 14 16
-- 28 law
def n_law : List Str := ["script", "lap"]
def b_law : List CS := B_law_037a 18 27
end K05
namespace K05
open PySem PySem.Spec PyProof.Rows L2 RF
theorem m_is_whole : mSs (cfg n_is_whole 0) (defScope (top 1)) b_is_whole (defBody (top 1)) = true := by decide +kernel
theorem s_is_whole : FnScope n_is_whole ["value"] (defScope (top 1)) := ⟨rfl, rfl, rfl, by decide +kernel, rfl, by decide +kernel, by decide +kernel⟩
theorem m_is_between : mSs (cfg n_is_between 1) (defScope (top 2)) b_is_between (defBody (top 2)) = true := by decide +kernel
theorem s_is_between : FnScope n_is_between ["value", "low", "high"] (defScope (top 2)) := ⟨rfl, rfl, rfl, by decide +kernel, rfl, by decide +kernel, by decide +kernel⟩
theorem m_is_tuple_of : mSs (cfg n_is_tuple_of 0) (defScope (top 3)) b_is_tuple_of (defBody (top 3)) = true := by decide +kernel
theorem s_is_tuple_of : FnScope n_is_tuple_of ["value", "many"] (defScope (top 3)) := ⟨rfl, rfl, rfl, by decide +kernel, rfl, by decide +kernel, by decide +kernel⟩
theorem m_people_of_length : mSs (cfg n_people_of_length 0) (defScope (top 8)) b_people_of_length (defBody (top 8)) = true := by decide +kernel
theorem s_people_of_length : FnScope n_people_of_length ["length"] (defScope (top 8)) := ⟨rfl, rfl, rfl, by decide +kernel, rfl, by decide +kernel, by decide +kernel⟩
theorem m_is_worth : mSs (cfg n_is_worth 2) (defScope (top 9)) b_is_worth (defBody (top 9)) = true := by decide +kernel
theorem s_is_worth : FnScope n_is_worth ["value"] (defScope (top 9)) := ⟨rfl, rfl, rfl, by decide +kernel, rfl, by decide +kernel, by decide +kernel⟩
theorem m_wrong_in_table : mSs (cfg n_wrong_in_table 3) (defScope (top 10)) b_wrong_in_table (defBody (top 10)) = true := by decide +kernel
theorem s_wrong_in_table : FnScope n_wrong_in_table ["value"] (defScope (top 10)) := ⟨rfl, rfl, rfl, by decide +kernel, rfl, by decide +kernel, by decide +kernel⟩
theorem m_is_table_by : mSs (cfg n_is_table_by 4) (defScope (top 11)) b_is_table_by (defBody (top 11)) = true := by decide +kernel
theorem s_is_table_by : FnScope n_is_table_by ["value"] (defScope (top 11)) := ⟨rfl, rfl, rfl, by decide +kernel, rfl, by decide +kernel, by decide +kernel⟩
theorem m_is_lot : mSs (cfg n_is_lot 2) (defScope (top 12)) b_is_lot (defBody (top 12)) = true := by decide +kernel
theorem s_is_lot : FnScope n_is_lot ["table", "value"] (defScope (top 12)) := ⟨rfl, rfl, rfl, by decide +kernel, rfl, by decide +kernel, by decide +kernel⟩
theorem m_is_lot_pair : mSs (cfg n_is_lot_pair 3) (defScope (top 13)) b_is_lot_pair (defBody (top 13)) = true := by decide +kernel
theorem s_is_lot_pair : FnScope n_is_lot_pair ["many", "value"] (defScope (top 13)) := ⟨rfl, rfl, rfl, by decide +kernel, rfl, by decide +kernel, by decide +kernel⟩
theorem m_wrong_in_pairs : mSs (cfg n_wrong_in_pairs 4) (defScope (top 14)) b_wrong_in_pairs (defBody (top 14)) = true := by decide +kernel
theorem s_wrong_in_pairs : FnScope n_wrong_in_pairs ["many", "value"] (defScope (top 14)) := ⟨rfl, rfl, rfl, by decide +kernel, rfl, by decide +kernel, by decide +kernel⟩
theorem m_table_of_pairs : mSs (cfg n_table_of_pairs 0) (defScope (top 15)) b_table_of_pairs (defBody (top 15)) = true := by decide +kernel
theorem s_table_of_pairs : FnScope n_table_of_pairs ["many", "pairs"] (defScope (top 15)) := ⟨rfl, rfl, rfl, by decide +kernel, rfl, by decide +kernel, by decide +kernel⟩
theorem m_check_table : mSs (cfg n_check_table 4) (defScope (top 22)) b_check_table (defBody (top 22)) = true := by decide +kernel
theorem s_check_table : FnScope n_check_table ["value"] (defScope (top 22)) := ⟨rfl, rfl, rfl, by decide +kernel, rfl, by decide +kernel, by decide +kernel⟩
theorem m_check_lot : mSs (cfg n_check_lot 3) (defScope (top 23)) b_check_lot (defBody (top 23)) = true := by decide +kernel
theorem s_check_lot : FnScope n_check_lot ["table", "value"] (defScope (top 23)) := ⟨rfl, rfl, rfl, by decide +kernel, rfl, by decide +kernel, by decide +kernel⟩
theorem m_check_times : mSs (cfg n_check_times 2) (defScope (top 24)) b_check_times (defBody (top 24)) = true := by decide +kernel
theorem s_check_times : FnScope n_check_times ["value", "low", "high"] (defScope (top 24)) := ⟨rfl, rfl, rfl, by decide +kernel, rfl, by decide +kernel, by decide +kernel⟩
theorem m_is_table : mSs (cfg n_is_table 5) (defScope (top 26)) b_is_table (defBody (top 26)) = true := by decide +kernel
theorem s_is_table : FnScope n_is_table ["value"] (defScope (top 26)) := ⟨rfl, rfl, rfl, by decide +kernel, rfl, by decide +kernel, by decide +kernel⟩
theorem m_check_asked : mSs (cfg n_check_asked 5) (defScope (top 27)) b_check_asked (defBody (top 27)) = true := by decide +kernel
theorem s_check_asked : FnScope n_check_asked ["table", "lot"] (defScope (top 27)) := ⟨rfl, rfl, rfl, by decide +kernel, rfl, by decide +kernel, by decide +kernel⟩
theorem m_worth : mSs (cfg n_worth 6) (defScope (top 28)) b_worth (defBody (top 28)) = true := by decide +kernel
theorem s_worth : FnScope n_worth ["table", "lot"] (defScope (top 28)) := ⟨rfl, rfl, rfl, by decide +kernel, rfl, by decide +kernel, by decide +kernel⟩
theorem m_from_pairs : mSs (cfg n_from_pairs 5) (defScope (top 29)) b_from_pairs (defBody (top 29)) = true := by decide +kernel
theorem s_from_pairs : FnScope n_from_pairs ["times", "pairs"] (defScope (top 29)) := ⟨rfl, rfl, rfl, by decide +kernel, rfl, by decide +kernel, by decide +kernel⟩
theorem m__law_pool : mSs (cfg n__law_pool 0) (defScope (top 31)) b__law_pool (defBody (top 31)) = true := by decide +kernel
theorem s__law_pool : FnScope n__law_pool ["script", "lap"] (defScope (top 31)) := ⟨rfl, rfl, rfl, by decide +kernel, rfl, by decide +kernel, by decide +kernel⟩
theorem m__law_draw : mSs (cfg n__law_draw 0) (defScope (top 32)) b__law_draw (defBody (top 32)) = true := by decide +kernel
theorem s__law_draw : FnScope n__law_draw ["pool", "many"] (defScope (top 32)) := ⟨rfl, rfl, rfl, by decide +kernel, rfl, by decide +kernel, by decide +kernel⟩
theorem m__law_pick : mSs (cfg n__law_pick 1) (defScope (top 33)) b__law_pick (defBody (top 33)) = true := by decide +kernel
theorem s__law_pick : FnScope n__law_pick ["pool", "some"] (defScope (top 33)) := ⟨rfl, rfl, rfl, by decide +kernel, rfl, by decide +kernel, by decide +kernel⟩
theorem m__law_same_0 : mSs (cfg n__law_same_0 0) (defScope (top 34)) b__law_same_0 (defBody (top 34)) = true := by decide +kernel
theorem s__law_same : FnScope n__law_same_0 ["one", "other"] (defScope (top 34)) := ⟨rfl, rfl, rfl, by decide +kernel, rfl, by decide +kernel, by decide +kernel⟩
theorem m__law_same_1 : mSs (cfg n__law_same_1 1) (defScope (top 34)) b__law_same_1 (defBody (top 34)) = true := by decide +kernel
theorem m__law_same_2 : mSs (cfg n__law_same_2 2) (defScope (top 34)) b__law_same_2 (defBody (top 34)) = true := by decide +kernel
theorem m__law_power : mSs (cfg n__law_power 0) (defScope (top 35)) b__law_power (defBody (top 35)) = true := by decide +kernel
theorem s__law_power : FnScope n__law_power ["many"] (defScope (top 35)) := ⟨rfl, rfl, rfl, by decide +kernel, rfl, by decide +kernel, by decide +kernel⟩
theorem m__law_refused : mSs (cfg n__law_refused 6) (defScope (top 36)) b__law_refused (defBody (top 36)) = true := by decide +kernel
theorem s__law_refused : FnScope n__law_refused ["times", "pairs"] (defScope (top 36)) := ⟨rfl, rfl, rfl, by decide +kernel, rfl, by decide +kernel, by decide +kernel⟩
theorem m__law_pairs : mSs (cfg n__law_pairs 2) (defScope (top 37)) b__law_pairs (defBody (top 37)) = true := by decide +kernel
theorem s__law_pairs : FnScope n__law_pairs ["pool", "many"] (defScope (top 37)) := ⟨rfl, rfl, rfl, by decide +kernel, rfl, by decide +kernel, by decide +kernel⟩
theorem m__law_right : mSs (cfg n__law_right 7) (defScope (top 38)) b__law_right (defBody (top 38)) = true := by decide +kernel
theorem s__law_right : FnScope n__law_right ["pool"] (defScope (top 38)) := ⟨rfl, rfl, rfl, by decide +kernel, rfl, by decide +kernel, by decide +kernel⟩
theorem m_law : mSs (cfg n_law 8) (defScope (top 39)) b_law (defBody (top 39)) = true := by decide +kernel
theorem s_law : FnScope n_law ["script"] (defScope (top 39)) := ⟨rfl, rfl, rfl, by decide +kernel, rfl, by decide +kernel, by decide +kernel⟩
end K05
namespace K05
open PySem PySem.Spec PyProof.Rows L2 RF
def Phi : Nat → RF.Spec
  | 0 => S_is_whole_094d
  | 1 => S_is_between_f089
  | 2 => S_is_tuple_of_1aaa
  | 3 => S_people_of_length_e5f5
  | 4 => S_is_worth_6548
  | 5 => S_wrong_in_table_89b2
  | 6 => S_is_table_by_e3ad
  | 7 => S_is_lot_97ca
  | 8 => S_is_lot_pair_648c
  | 9 => S_wrong_in_pairs_bcc7
  | 10 => S_table_of_pairs_3cc1
  | 11 => S_check_table_6a78
  | 12 => S_check_lot_ee10
  | 13 => S_check_times_e793x
  | 14 => S_is_table_76a8
  | 15 => S_check_asked_2f2b
  | 16 => S_worth_83ba
  | 17 => S_from_pairs_0e90x
  | 18 => S_law_pool_3584
  | 19 => S_law_draw_2fdf
  | 20 => S_law_pick_c6c2
  | 21 => S_law_same_ae9a 0
  | 22 => S_law_same_ae9a 1
  | 23 => S_law_same_ae9a 2
  | 24 => S_law_power_5969
  | 25 => S_law_refused_614a
  | 26 => S_law_pairs_c66b
  | 27 => S_law_right_9be6
  | 28 => S_law_037a
  | _ => fun _ _ _ _ => False
theorem p_is_whole : ∀ ds M X Q, ds.length = 1 → Phi 0 ds M X Q → wpF Phi (n_is_whole).length b_is_whole ds M X Q := T_is_whole_094d (Φ := Phi)
theorem p_is_between : ∀ ds M X Q, ds.length = 3 → Phi 1 ds M X Q → wpF Phi (n_is_between).length b_is_between ds M X Q := T_is_between_f089 (Φ := Phi) 0 rfl
theorem p_is_tuple_of : ∀ ds M X Q, ds.length = 2 → Phi 2 ds M X Q → wpF Phi (n_is_tuple_of).length b_is_tuple_of ds M X Q := T_is_tuple_of_1aaa (Φ := Phi)
theorem p_people_of_length : ∀ ds M X Q, ds.length = 1 → Phi 3 ds M X Q → wpF Phi (n_people_of_length).length b_people_of_length ds M X Q := T_people_of_length_e5f5 (Φ := Phi)
theorem p_is_worth : ∀ ds M X Q, ds.length = 1 → Phi 4 ds M X Q → wpF Phi (n_is_worth).length b_is_worth ds M X Q := T_is_worth_6548 (Φ := Phi) 1 rfl
theorem p_wrong_in_table : ∀ ds M X Q, ds.length = 1 → Phi 5 ds M X Q → wpF Phi (n_wrong_in_table).length b_wrong_in_table ds M X Q := T_wrong_in_table_89b2 (Φ := Phi) 4 rfl 3 rfl
theorem p_is_table_by : ∀ ds M X Q, ds.length = 1 → Phi 6 ds M X Q → wpF Phi (n_is_table_by).length b_is_table_by ds M X Q := T_is_table_by_e3ad (Φ := Phi) 5 rfl
theorem p_is_lot : ∀ ds M X Q, ds.length = 2 → Phi 7 ds M X Q → wpF Phi (n_is_lot).length b_is_lot ds M X Q := T_is_lot_97ca (Φ := Phi) 1 rfl
theorem p_is_lot_pair : ∀ ds M X Q, ds.length = 2 → Phi 8 ds M X Q → wpF Phi (n_is_lot_pair).length b_is_lot_pair ds M X Q := T_is_lot_pair_648c (Φ := Phi) 1 rfl 2 rfl 4 rfl
theorem p_wrong_in_pairs : ∀ ds M X Q, ds.length = 2 → Phi 9 ds M X Q → wpF Phi (n_wrong_in_pairs).length b_wrong_in_pairs ds M X Q := T_wrong_in_pairs_bcc7 (Φ := Phi) 8 rfl
theorem p_table_of_pairs : ∀ ds M X Q, ds.length = 2 → Phi 10 ds M X Q → wpF Phi (n_table_of_pairs).length b_table_of_pairs ds M X Q := T_table_of_pairs_3cc1 (Φ := Phi)
theorem p_check_table : ∀ ds M X Q, ds.length = 1 → Phi 11 ds M X Q → wpF Phi (n_check_table).length b_check_table ds M X Q := T_check_table_6a78 (Φ := Phi) 5 rfl
theorem p_check_lot : ∀ ds M X Q, ds.length = 2 → Phi 12 ds M X Q → wpF Phi (n_check_lot).length b_check_lot ds M X Q := T_check_lot_ee10 (Φ := Phi) 7 rfl
theorem p_check_times : ∀ ds M X Q, ds.length = 3 → Phi 13 ds M X Q → wpF Phi (n_check_times).length b_check_times ds M X Q := T_check_times_e793x (Φ := Phi) 1 rfl
theorem p_is_table : ∀ ds M X Q, ds.length = 1 → Phi 14 ds M X Q → wpF Phi (n_is_table).length b_is_table ds M X Q := T_is_table_76a8 (Φ := Phi) 6 rfl
theorem p_check_asked : ∀ ds M X Q, ds.length = 2 → Phi 15 ds M X Q → wpF Phi (n_check_asked).length b_check_asked ds M X Q := T_check_asked_2f2b (Φ := Phi) 12 rfl 11 rfl
theorem p_worth : ∀ ds M X Q, ds.length = 2 → Phi 16 ds M X Q → wpF Phi (n_worth).length b_worth ds M X Q := T_worth_83ba (Φ := Phi) 15 rfl
theorem p_from_pairs : ∀ ds M X Q, ds.length = 2 → Phi 17 ds M X Q → wpF Phi (n_from_pairs).length b_from_pairs ds M X Q := T_from_pairs_0e90x (Φ := Phi) 13 rfl 10 rfl 9 rfl
theorem p__law_pool : ∀ ds M X Q, ds.length = 2 → Phi 18 ds M X Q → wpF Phi (n__law_pool).length b__law_pool ds M X Q := T_law_pool_3584 (Φ := Phi)
theorem p__law_draw : ∀ ds M X Q, ds.length = 2 → Phi 19 ds M X Q → wpF Phi (n__law_draw).length b__law_draw ds M X Q := T_law_draw_2fdf (Φ := Phi)
theorem p__law_pick : ∀ ds M X Q, ds.length = 2 → Phi 20 ds M X Q → wpF Phi (n__law_pick).length b__law_pick ds M X Q := T_law_pick_c6c2 (Φ := Phi) 19 rfl
theorem p__law_same_0 : ∀ ds M X Q, ds.length = 2 → Phi 21 ds M X Q → wpF Phi (n__law_same_0).length b__law_same_0 ds M X Q := T_law_same_ae9a0 (Φ := Phi)
theorem p__law_same_1 : ∀ ds M X Q, ds.length = 2 → Phi 22 ds M X Q → wpF Phi (n__law_same_1).length b__law_same_1 ds M X Q := T_law_same_ae9a (Φ := Phi) 0 21 rfl
theorem p__law_same_2 : ∀ ds M X Q, ds.length = 2 → Phi 23 ds M X Q → wpF Phi (n__law_same_2).length b__law_same_2 ds M X Q := T_law_same_ae9a (Φ := Phi) 1 22 rfl
theorem p__law_power : ∀ ds M X Q, ds.length = 1 → Phi 24 ds M X Q → wpF Phi (n__law_power).length b__law_power ds M X Q := T_law_power_5969 (Φ := Phi)
theorem p__law_refused : ∀ ds M X Q, ds.length = 2 → Phi 25 ds M X Q → wpF Phi (n__law_refused).length b__law_refused ds M X Q := T_law_refused_614a (Φ := Phi) 17 rfl
theorem p__law_pairs : ∀ ds M X Q, ds.length = 2 → Phi 26 ds M X Q → wpF Phi (n__law_pairs).length b__law_pairs ds M X Q := T_law_pairs_c66b (Φ := Phi) 19 rfl 20 rfl 24 rfl
theorem p__law_right : ∀ ds M X Q, ds.length = 1 → Phi 27 ds M X Q → wpF Phi (n__law_right).length b__law_right ds M X Q := T_law_right_9be6 (Φ := Phi) 19 rfl 26 rfl 20 rfl 24 rfl 25 rfl 23 rfl 17 rfl 14 rfl 16 rfl
theorem p_law : ∀ ds M X Q, ds.length = 1 → Phi 28 ds M X Q → wpF Phi (n_law).length b_law ds M X Q := T_law_037a (Φ := Phi) 18 rfl 27 rfl
end K05
namespace K05
open PySem PySem.Spec PyProof.Rows L2 RF
def fn : List He.DefD := [⟨("is_whole", none), "is_whole", "is_whole", defArgs (top 1), defBody (top 1), defScope (top 1), [], []⟩,
 ⟨("is_between", none), "is_between", "is_between", defArgs (top 2), defBody (top 2), defScope (top 2), [], []⟩,
 ⟨("is_tuple_of", none), "is_tuple_of", "is_tuple_of", defArgs (top 3), defBody (top 3), defScope (top 3), [], []⟩,
 ⟨("people_of_length", none), "people_of_length", "people_of_length", defArgs (top 8), defBody (top 8), defScope (top 8), [], []⟩,
 ⟨("is_worth", none), "is_worth", "is_worth", defArgs (top 9), defBody (top 9), defScope (top 9), [], []⟩,
 ⟨("wrong_in_table", none), "wrong_in_table", "wrong_in_table", defArgs (top 10), defBody (top 10), defScope (top 10), [], []⟩,
 ⟨("is_table_by", none), "is_table_by", "is_table_by", defArgs (top 11), defBody (top 11), defScope (top 11), [], []⟩,
 ⟨("is_lot", none), "is_lot", "is_lot", defArgs (top 12), defBody (top 12), defScope (top 12), [], []⟩,
 ⟨("is_lot_pair", none), "is_lot_pair", "is_lot_pair", defArgs (top 13), defBody (top 13), defScope (top 13), [], []⟩,
 ⟨("wrong_in_pairs", none), "wrong_in_pairs", "wrong_in_pairs", defArgs (top 14), defBody (top 14), defScope (top 14), [], []⟩,
 ⟨("table_of_pairs", none), "table_of_pairs", "table_of_pairs", defArgs (top 15), defBody (top 15), defScope (top 15), [], []⟩,
 ⟨("check_table", none), "check_table", "check_table", defArgs (top 22), defBody (top 22), defScope (top 22), [], []⟩,
 ⟨("check_lot", none), "check_lot", "check_lot", defArgs (top 23), defBody (top 23), defScope (top 23), [], []⟩,
 ⟨("check_times", none), "check_times", "check_times", defArgs (top 24), defBody (top 24), defScope (top 24), [], []⟩,
 ⟨("is_table", none), "is_table", "is_table", defArgs (top 26), defBody (top 26), defScope (top 26), [], []⟩,
 ⟨("check_asked", none), "check_asked", "check_asked", defArgs (top 27), defBody (top 27), defScope (top 27), [], []⟩,
 ⟨("worth", none), "worth", "worth", defArgs (top 28), defBody (top 28), defScope (top 28), [], []⟩,
 ⟨("from_pairs", none), "from_pairs", "from_pairs", defArgs (top 29), defBody (top 29), defScope (top 29), [], []⟩,
 ⟨("_law_pool", none), "_law_pool", "_law_pool", defArgs (top 31), defBody (top 31), defScope (top 31), [], []⟩,
 ⟨("_law_draw", none), "_law_draw", "_law_draw", defArgs (top 32), defBody (top 32), defScope (top 32), [], []⟩,
 ⟨("_law_pick", none), "_law_pick", "_law_pick", defArgs (top 33), defBody (top 33), defScope (top 33), [], []⟩,
 ⟨("_law_same", none), "_law_same", "_law_same", defArgs (top 34), defBody (top 34), defScope (top 34), [], []⟩,
 ⟨("_law_power", none), "_law_power", "_law_power", defArgs (top 35), defBody (top 35), defScope (top 35), [], []⟩,
 ⟨("_law_refused", none), "_law_refused", "_law_refused", defArgs (top 36), defBody (top 36), defScope (top 36), [], []⟩,
 ⟨("_law_pairs", none), "_law_pairs", "_law_pairs", defArgs (top 37), defBody (top 37), defScope (top 37), [], []⟩,
 ⟨("_law_right", none), "_law_right", "_law_right", defArgs (top 38), defBody (top 38), defScope (top 38), [], []⟩,
 ⟨("law", none), "law", "law", defArgs (top 39), defBody (top 39), defScope (top 39), [], []⟩] ++ XDS.map (fun e => e.2.d)
def fa : List He.Fa := [.glo "is_whole", .glo "is_between", .glo "is_tuple_of", .glo "people_of_length", .glo "is_worth", .glo "wrong_in_table", .glo "is_table_by", .glo "is_lot", .glo "is_lot_pair", .glo "wrong_in_pairs", .glo "table_of_pairs", .glo "check_table", .glo "check_lot", .glo "check_times", .glo "is_table", .glo "check_asked", .glo "worth", .glo "from_pairs", .glo "_law_pool", .glo "_law_draw", .glo "_law_pick", .glo "_law_same", .glo "_law_power", .glo "_law_refused", .glo "_law_pairs", .glo "_law_right", .glo "law"] ++ (BLT.map He.Fa.free ++ (INTS.map (fun p => He.Fa.int p.1 p.2) ++ STRS.map fun p => He.Fa.str p.1 p.2))
abbrev R : PySem.W.OpenRow := PySem.W.OpenLaw.row PySem.Challenge.rw_jointshares_k05_whole_tables_from_pairs
abbrev hk : PySem.W.Hook := RF.hookY 4 fa fn EX
def ob (s : PySem.W.SharedT) : He.AlD × Bool := RF.obsYG 4 fa fn EX (HandSHeadRun.getT s)
theorem ob_eq (s : PySem.W.SharedT) : ob s = hk.obs s.abs := RF.obsYG_eq (HandSHeadRun.getT_eq s)
def loose0 : List PySem.Str := ["is_whole", "is_between", "is_tuple_of", "MOST_PEOPLE", "MOST_WORTH", "NOBODY", "people_of_length", "is_worth", "wrong_in_table", "is_table_by", "is_lot", "is_lot_pair", "wrong_in_pairs", "table_of_pairs", "JointError", "InvalidLot", "InvalidNumber", "InvalidTable", "check_table", "check_lot"]
def loose1 : List PySem.Str := ["check_times", "is_table", "check_asked", "worth", "from_pairs", "_law_pool", "_law_draw", "_law_pick", "_law_same", "_law_power", "_law_refused", "_law_pairs", "_law_right"]
def loose : List PySem.Str := loose0 ++ loose1
noncomputable abbrev RU (w : World) (os : OsState) : Option PySem.W.SharedT := HandSHeadRun.endF (HandSHeadRun.stepQ (HandSHeadRun.denQ HandSHeadRun.tabQ) R.prog w) 4000 R.prog w os
theorem runA (w : World) (os : OsState) : (RU w os).map (fun x => (HandSHeadRun.looksF R.prog (PySem.W.boot_heap w.params) x.abs, HandSHeadRun.seenQ (PySem.W.view R.prog [39]) loose (importedModules R.prog.main.body) (fun s => PySem.W.xlAt (PySem.W.view R.prog [39]) [] s && PySem.W.recOk R.toRowW.records s) x.abs)) = some (true, PySem.W.openGood (PySem.W.view R.prog [39]) loose) := by kernel_rfl
theorem runB (w : World) (os : OsState) : (RU w os).map (fun x => He.obsDG 4 fa fn (HandSHeadRun.getT x)) = some (He.valD fn) := by kernel_rfl
theorem runC (w : World) (os : OsState) : (RU w os).map (fun x => EX (He.frG (HandSHeadRun.getT x) (He.asD (HandSHeadRun.getT x) 4))) = some true := by kernel_rfl
theorem run (w : World) : HandSHeadRun.RunEq R (PySem.W.view R.prog [39]) hk ob 4000 loose w := fun os => RF.run3 (runA w os) (runB w os) (runC w os)
theorem nd : FNS.Nodup := by decide +kernel
theorem blt_in : ∀ x ∈ BLT, He.Fa.free x ∈ fa := fun x h => List.mem_append_right _ (List.mem_append_left _ (List.mem_map.mpr ⟨x, h, rfl⟩))
theorem int_in : ∀ p ∈ INTS, He.Fa.int p.1 p.2 ∈ fa := fun p h => List.mem_append_right _ (List.mem_append_right _ (List.mem_append_left _ (List.mem_map.mpr ⟨p, h, rfl⟩)))
theorem str_in : ∀ p ∈ STRS, He.Fa.str p.1 p.2 ∈ fa := fun p h => List.mem_append_right _ (List.mem_append_right _ (List.mem_append_right _ (List.mem_map.mpr ⟨p, h, rfl⟩)))
theorem tup_pl : (TUPS.all fun p => p.2.all RF.dvPlain) = true := by decide +kernel
theorem exc_in : ∀ e ∈ XDS, e.2.d ∈ fn := fun e h => List.mem_append_right _ (List.mem_map.mpr ⟨e, h, rfl⟩)
theorem exc_ok {K : PySem.W.Frag} {mg : Str → Option Value} {h : Heap} (X : K.In h) (G : h.Ns mainGlobals mg) (c : RF.SaysY fa fn EX K) : RF.ExAll K mg EXS EIS := RF.exAll_ok X G c.d (and2 c.more).2 exc_in
section
variable {P : Program} {w : World} {K : PySem.W.Frag} {mg : Str → Option Value} {h base : Heap}
theorem d_is_whole (X : K.In h) (G : h.Ns mainGlobals mg) (c : RF.SaysY fa fn EX K) (ih : ∀ j fj, FNS[j]? = some fj → fj.lvl < 1 → Def0 EXS KWS FNS P w K mg base fj (Phi j)) : Def0 EXS KWS FNS P w K mg base ⟨"is_whole", ["value"], 1⟩ (Phi 0) := by
  obtain ⟨fd, F⟩ := c.d.def_ 0 rfl
  exact def0_ok (Γ := cfg n_is_whole 0) (Φ := Phi) F (He.glo_ok X G (c.d.fact 0 (f := .glo "is_whole") rfl)) s_is_whole rfl m_is_whole rfl ih (blt_ok X G c.d blt_in) (gls2_ok X G c.d int_in str_in) (gts_ok X G (and2 (and2 c.more).1).1 tup_pl) (mth_ok X G (and2 (and2 c.more).1).2) (exc_ok X G c) p_is_whole
    (FunD.bindsN (ps := ["value"]) F fun _ _ _ _ _ _ us hl => match us, hl with | [_], _ => rfl)
    (kws_at (i := 0) nd rfl fun kw h => nomatch (show kw ∈ ([] : List KW) from h))
theorem d_is_between (X : K.In h) (G : h.Ns mainGlobals mg) (c : RF.SaysY fa fn EX K) (ih : ∀ j fj, FNS[j]? = some fj → fj.lvl < 2 → Def0 EXS KWS FNS P w K mg base fj (Phi j)) : Def0 EXS KWS FNS P w K mg base ⟨"is_between", ["value", "low", "high"], 2⟩ (Phi 1) := by
  obtain ⟨fd, F⟩ := c.d.def_ 1 rfl
  exact def0_ok (Γ := cfg n_is_between 1) (Φ := Phi) F (He.glo_ok X G (c.d.fact 1 (f := .glo "is_between") rfl)) s_is_between rfl m_is_between rfl ih (blt_ok X G c.d blt_in) (gls2_ok X G c.d int_in str_in) (gts_ok X G (and2 (and2 c.more).1).1 tup_pl) (mth_ok X G (and2 (and2 c.more).1).2) (exc_ok X G c) p_is_between
    (FunD.bindsN (ps := ["value", "low", "high"]) F fun _ _ _ _ _ _ us hl => match us, hl with | [_, _, _], _ => rfl)
    (kws_at (i := 1) nd rfl fun kw h => nomatch (show kw ∈ ([] : List KW) from h))
theorem d_is_tuple_of (X : K.In h) (G : h.Ns mainGlobals mg) (c : RF.SaysY fa fn EX K) (ih : ∀ j fj, FNS[j]? = some fj → fj.lvl < 1 → Def0 EXS KWS FNS P w K mg base fj (Phi j)) : Def0 EXS KWS FNS P w K mg base ⟨"is_tuple_of", ["value", "many"], 1⟩ (Phi 2) := by
  obtain ⟨fd, F⟩ := c.d.def_ 2 rfl
  exact def0_ok (Γ := cfg n_is_tuple_of 0) (Φ := Phi) F (He.glo_ok X G (c.d.fact 2 (f := .glo "is_tuple_of") rfl)) s_is_tuple_of rfl m_is_tuple_of rfl ih (blt_ok X G c.d blt_in) (gls2_ok X G c.d int_in str_in) (gts_ok X G (and2 (and2 c.more).1).1 tup_pl) (mth_ok X G (and2 (and2 c.more).1).2) (exc_ok X G c) p_is_tuple_of
    (FunD.bindsN (ps := ["value", "many"]) F fun _ _ _ _ _ _ us hl => match us, hl with | [_, _], _ => rfl)
    (kws_at (i := 2) nd rfl fun kw h => nomatch (show kw ∈ ([] : List KW) from h))
theorem d_people_of_length (X : K.In h) (G : h.Ns mainGlobals mg) (c : RF.SaysY fa fn EX K) (ih : ∀ j fj, FNS[j]? = some fj → fj.lvl < 1 → Def0 EXS KWS FNS P w K mg base fj (Phi j)) : Def0 EXS KWS FNS P w K mg base ⟨"people_of_length", ["length"], 1⟩ (Phi 3) := by
  obtain ⟨fd, F⟩ := c.d.def_ 3 rfl
  exact def0_ok (Γ := cfg n_people_of_length 0) (Φ := Phi) F (He.glo_ok X G (c.d.fact 3 (f := .glo "people_of_length") rfl)) s_people_of_length rfl m_people_of_length rfl ih (blt_ok X G c.d blt_in) (gls2_ok X G c.d int_in str_in) (gts_ok X G (and2 (and2 c.more).1).1 tup_pl) (mth_ok X G (and2 (and2 c.more).1).2) (exc_ok X G c) p_people_of_length
    (FunD.bindsN (ps := ["length"]) F fun _ _ _ _ _ _ us hl => match us, hl with | [_], _ => rfl)
    (kws_at (i := 3) nd rfl fun kw h => nomatch (show kw ∈ ([] : List KW) from h))
theorem d_is_worth (X : K.In h) (G : h.Ns mainGlobals mg) (c : RF.SaysY fa fn EX K) (ih : ∀ j fj, FNS[j]? = some fj → fj.lvl < 3 → Def0 EXS KWS FNS P w K mg base fj (Phi j)) : Def0 EXS KWS FNS P w K mg base ⟨"is_worth", ["value"], 3⟩ (Phi 4) := by
  obtain ⟨fd, F⟩ := c.d.def_ 4 rfl
  exact def0_ok (Γ := cfg n_is_worth 2) (Φ := Phi) F (He.glo_ok X G (c.d.fact 4 (f := .glo "is_worth") rfl)) s_is_worth rfl m_is_worth rfl ih (blt_ok X G c.d blt_in) (gls2_ok X G c.d int_in str_in) (gts_ok X G (and2 (and2 c.more).1).1 tup_pl) (mth_ok X G (and2 (and2 c.more).1).2) (exc_ok X G c) p_is_worth
    (FunD.bindsN (ps := ["value"]) F fun _ _ _ _ _ _ us hl => match us, hl with | [_], _ => rfl)
    (kws_at (i := 4) nd rfl fun kw h => nomatch (show kw ∈ ([] : List KW) from h))
theorem d_wrong_in_table (X : K.In h) (G : h.Ns mainGlobals mg) (c : RF.SaysY fa fn EX K) (ih : ∀ j fj, FNS[j]? = some fj → fj.lvl < 4 → Def0 EXS KWS FNS P w K mg base fj (Phi j)) : Def0 EXS KWS FNS P w K mg base ⟨"wrong_in_table", ["value"], 4⟩ (Phi 5) := by
  obtain ⟨fd, F⟩ := c.d.def_ 5 rfl
  exact def0_ok (Γ := cfg n_wrong_in_table 3) (Φ := Phi) F (He.glo_ok X G (c.d.fact 5 (f := .glo "wrong_in_table") rfl)) s_wrong_in_table rfl m_wrong_in_table rfl ih (blt_ok X G c.d blt_in) (gls2_ok X G c.d int_in str_in) (gts_ok X G (and2 (and2 c.more).1).1 tup_pl) (mth_ok X G (and2 (and2 c.more).1).2) (exc_ok X G c) p_wrong_in_table
    (FunD.bindsN (ps := ["value"]) F fun _ _ _ _ _ _ us hl => match us, hl with | [_], _ => rfl)
    (kws_at (i := 5) nd rfl fun kw h => nomatch (show kw ∈ ([] : List KW) from h))
theorem d_is_table_by (X : K.In h) (G : h.Ns mainGlobals mg) (c : RF.SaysY fa fn EX K) (ih : ∀ j fj, FNS[j]? = some fj → fj.lvl < 5 → Def0 EXS KWS FNS P w K mg base fj (Phi j)) : Def0 EXS KWS FNS P w K mg base ⟨"is_table_by", ["value"], 5⟩ (Phi 6) := by
  obtain ⟨fd, F⟩ := c.d.def_ 6 rfl
  exact def0_ok (Γ := cfg n_is_table_by 4) (Φ := Phi) F (He.glo_ok X G (c.d.fact 6 (f := .glo "is_table_by") rfl)) s_is_table_by rfl m_is_table_by rfl ih (blt_ok X G c.d blt_in) (gls2_ok X G c.d int_in str_in) (gts_ok X G (and2 (and2 c.more).1).1 tup_pl) (mth_ok X G (and2 (and2 c.more).1).2) (exc_ok X G c) p_is_table_by
    (FunD.bindsN (ps := ["value"]) F fun _ _ _ _ _ _ us hl => match us, hl with | [_], _ => rfl)
    (kws_at (i := 6) nd rfl fun kw h => nomatch (show kw ∈ ([] : List KW) from h))
theorem d_is_lot (X : K.In h) (G : h.Ns mainGlobals mg) (c : RF.SaysY fa fn EX K) (ih : ∀ j fj, FNS[j]? = some fj → fj.lvl < 3 → Def0 EXS KWS FNS P w K mg base fj (Phi j)) : Def0 EXS KWS FNS P w K mg base ⟨"is_lot", ["table", "value"], 3⟩ (Phi 7) := by
  obtain ⟨fd, F⟩ := c.d.def_ 7 rfl
  exact def0_ok (Γ := cfg n_is_lot 2) (Φ := Phi) F (He.glo_ok X G (c.d.fact 7 (f := .glo "is_lot") rfl)) s_is_lot rfl m_is_lot rfl ih (blt_ok X G c.d blt_in) (gls2_ok X G c.d int_in str_in) (gts_ok X G (and2 (and2 c.more).1).1 tup_pl) (mth_ok X G (and2 (and2 c.more).1).2) (exc_ok X G c) p_is_lot
    (FunD.bindsN (ps := ["table", "value"]) F fun _ _ _ _ _ _ us hl => match us, hl with | [_, _], _ => rfl)
    (kws_at (i := 7) nd rfl fun kw h => nomatch (show kw ∈ ([] : List KW) from h))
theorem d_is_lot_pair (X : K.In h) (G : h.Ns mainGlobals mg) (c : RF.SaysY fa fn EX K) (ih : ∀ j fj, FNS[j]? = some fj → fj.lvl < 4 → Def0 EXS KWS FNS P w K mg base fj (Phi j)) : Def0 EXS KWS FNS P w K mg base ⟨"is_lot_pair", ["many", "value"], 4⟩ (Phi 8) := by
  obtain ⟨fd, F⟩ := c.d.def_ 8 rfl
  exact def0_ok (Γ := cfg n_is_lot_pair 3) (Φ := Phi) F (He.glo_ok X G (c.d.fact 8 (f := .glo "is_lot_pair") rfl)) s_is_lot_pair rfl m_is_lot_pair rfl ih (blt_ok X G c.d blt_in) (gls2_ok X G c.d int_in str_in) (gts_ok X G (and2 (and2 c.more).1).1 tup_pl) (mth_ok X G (and2 (and2 c.more).1).2) (exc_ok X G c) p_is_lot_pair
    (FunD.bindsN (ps := ["many", "value"]) F fun _ _ _ _ _ _ us hl => match us, hl with | [_, _], _ => rfl)
    (kws_at (i := 8) nd rfl fun kw h => nomatch (show kw ∈ ([] : List KW) from h))
theorem d_wrong_in_pairs (X : K.In h) (G : h.Ns mainGlobals mg) (c : RF.SaysY fa fn EX K) (ih : ∀ j fj, FNS[j]? = some fj → fj.lvl < 5 → Def0 EXS KWS FNS P w K mg base fj (Phi j)) : Def0 EXS KWS FNS P w K mg base ⟨"wrong_in_pairs", ["many", "value"], 5⟩ (Phi 9) := by
  obtain ⟨fd, F⟩ := c.d.def_ 9 rfl
  exact def0_ok (Γ := cfg n_wrong_in_pairs 4) (Φ := Phi) F (He.glo_ok X G (c.d.fact 9 (f := .glo "wrong_in_pairs") rfl)) s_wrong_in_pairs rfl m_wrong_in_pairs rfl ih (blt_ok X G c.d blt_in) (gls2_ok X G c.d int_in str_in) (gts_ok X G (and2 (and2 c.more).1).1 tup_pl) (mth_ok X G (and2 (and2 c.more).1).2) (exc_ok X G c) p_wrong_in_pairs
    (FunD.bindsN (ps := ["many", "value"]) F fun _ _ _ _ _ _ us hl => match us, hl with | [_, _], _ => rfl)
    (kws_at (i := 9) nd rfl fun kw h => nomatch (show kw ∈ ([] : List KW) from h))
theorem d_table_of_pairs (X : K.In h) (G : h.Ns mainGlobals mg) (c : RF.SaysY fa fn EX K) (ih : ∀ j fj, FNS[j]? = some fj → fj.lvl < 1 → Def0 EXS KWS FNS P w K mg base fj (Phi j)) : Def0 EXS KWS FNS P w K mg base ⟨"table_of_pairs", ["many", "pairs"], 1⟩ (Phi 10) := by
  obtain ⟨fd, F⟩ := c.d.def_ 10 rfl
  exact def0_ok (Γ := cfg n_table_of_pairs 0) (Φ := Phi) F (He.glo_ok X G (c.d.fact 10 (f := .glo "table_of_pairs") rfl)) s_table_of_pairs rfl m_table_of_pairs rfl ih (blt_ok X G c.d blt_in) (gls2_ok X G c.d int_in str_in) (gts_ok X G (and2 (and2 c.more).1).1 tup_pl) (mth_ok X G (and2 (and2 c.more).1).2) (exc_ok X G c) p_table_of_pairs
    (FunD.bindsN (ps := ["many", "pairs"]) F fun _ _ _ _ _ _ us hl => match us, hl with | [_, _], _ => rfl)
    (kws_at (i := 10) nd rfl fun kw h => nomatch (show kw ∈ ([] : List KW) from h))
theorem d_check_table (X : K.In h) (G : h.Ns mainGlobals mg) (c : RF.SaysY fa fn EX K) (ih : ∀ j fj, FNS[j]? = some fj → fj.lvl < 5 → Def0 EXS KWS FNS P w K mg base fj (Phi j)) : Def0 EXS KWS FNS P w K mg base ⟨"check_table", ["value"], 5⟩ (Phi 11) := by
  obtain ⟨fd, F⟩ := c.d.def_ 11 rfl
  exact def0_ok (Γ := cfg n_check_table 4) (Φ := Phi) F (He.glo_ok X G (c.d.fact 11 (f := .glo "check_table") rfl)) s_check_table rfl m_check_table rfl ih (blt_ok X G c.d blt_in) (gls2_ok X G c.d int_in str_in) (gts_ok X G (and2 (and2 c.more).1).1 tup_pl) (mth_ok X G (and2 (and2 c.more).1).2) (exc_ok X G c) p_check_table
    (FunD.bindsN (ps := ["value"]) F fun _ _ _ _ _ _ us hl => match us, hl with | [_], _ => rfl)
    (kws_at (i := 11) nd rfl fun kw h => nomatch (show kw ∈ ([] : List KW) from h))
theorem d_check_lot (X : K.In h) (G : h.Ns mainGlobals mg) (c : RF.SaysY fa fn EX K) (ih : ∀ j fj, FNS[j]? = some fj → fj.lvl < 4 → Def0 EXS KWS FNS P w K mg base fj (Phi j)) : Def0 EXS KWS FNS P w K mg base ⟨"check_lot", ["table", "value"], 4⟩ (Phi 12) := by
  obtain ⟨fd, F⟩ := c.d.def_ 12 rfl
  exact def0_ok (Γ := cfg n_check_lot 3) (Φ := Phi) F (He.glo_ok X G (c.d.fact 12 (f := .glo "check_lot") rfl)) s_check_lot rfl m_check_lot rfl ih (blt_ok X G c.d blt_in) (gls2_ok X G c.d int_in str_in) (gts_ok X G (and2 (and2 c.more).1).1 tup_pl) (mth_ok X G (and2 (and2 c.more).1).2) (exc_ok X G c) p_check_lot
    (FunD.bindsN (ps := ["table", "value"]) F fun _ _ _ _ _ _ us hl => match us, hl with | [_, _], _ => rfl)
    (kws_at (i := 12) nd rfl fun kw h => nomatch (show kw ∈ ([] : List KW) from h))
theorem d_check_times (X : K.In h) (G : h.Ns mainGlobals mg) (c : RF.SaysY fa fn EX K) (ih : ∀ j fj, FNS[j]? = some fj → fj.lvl < 3 → Def0 EXS KWS FNS P w K mg base fj (Phi j)) : Def0 EXS KWS FNS P w K mg base ⟨"check_times", ["value", "low", "high"], 3⟩ (Phi 13) := by
  obtain ⟨fd, F⟩ := c.d.def_ 13 rfl
  exact def0_ok (Γ := cfg n_check_times 2) (Φ := Phi) F (He.glo_ok X G (c.d.fact 13 (f := .glo "check_times") rfl)) s_check_times rfl m_check_times rfl ih (blt_ok X G c.d blt_in) (gls2_ok X G c.d int_in str_in) (gts_ok X G (and2 (and2 c.more).1).1 tup_pl) (mth_ok X G (and2 (and2 c.more).1).2) (exc_ok X G c) p_check_times
    (FunD.bindsN (ps := ["value", "low", "high"]) F fun _ _ _ _ _ _ us hl => match us, hl with | [_, _, _], _ => rfl)
    (kws_at (i := 13) nd rfl fun kw h => nomatch (show kw ∈ ([] : List KW) from h))
theorem d_is_table (X : K.In h) (G : h.Ns mainGlobals mg) (c : RF.SaysY fa fn EX K) (ih : ∀ j fj, FNS[j]? = some fj → fj.lvl < 6 → Def0 EXS KWS FNS P w K mg base fj (Phi j)) : Def0 EXS KWS FNS P w K mg base ⟨"is_table", ["value"], 6⟩ (Phi 14) := by
  obtain ⟨fd, F⟩ := c.d.def_ 14 rfl
  exact def0_ok (Γ := cfg n_is_table 5) (Φ := Phi) F (He.glo_ok X G (c.d.fact 14 (f := .glo "is_table") rfl)) s_is_table rfl m_is_table rfl ih (blt_ok X G c.d blt_in) (gls2_ok X G c.d int_in str_in) (gts_ok X G (and2 (and2 c.more).1).1 tup_pl) (mth_ok X G (and2 (and2 c.more).1).2) (exc_ok X G c) p_is_table
    (FunD.bindsN (ps := ["value"]) F fun _ _ _ _ _ _ us hl => match us, hl with | [_], _ => rfl)
    (kws_at (i := 14) nd rfl fun kw h => nomatch (show kw ∈ ([] : List KW) from h))
theorem d_check_asked (X : K.In h) (G : h.Ns mainGlobals mg) (c : RF.SaysY fa fn EX K) (ih : ∀ j fj, FNS[j]? = some fj → fj.lvl < 6 → Def0 EXS KWS FNS P w K mg base fj (Phi j)) : Def0 EXS KWS FNS P w K mg base ⟨"check_asked", ["table", "lot"], 6⟩ (Phi 15) := by
  obtain ⟨fd, F⟩ := c.d.def_ 15 rfl
  exact def0_ok (Γ := cfg n_check_asked 5) (Φ := Phi) F (He.glo_ok X G (c.d.fact 15 (f := .glo "check_asked") rfl)) s_check_asked rfl m_check_asked rfl ih (blt_ok X G c.d blt_in) (gls2_ok X G c.d int_in str_in) (gts_ok X G (and2 (and2 c.more).1).1 tup_pl) (mth_ok X G (and2 (and2 c.more).1).2) (exc_ok X G c) p_check_asked
    (FunD.bindsN (ps := ["table", "lot"]) F fun _ _ _ _ _ _ us hl => match us, hl with | [_, _], _ => rfl)
    (kws_at (i := 15) nd rfl fun kw h => nomatch (show kw ∈ ([] : List KW) from h))
theorem d_worth (X : K.In h) (G : h.Ns mainGlobals mg) (c : RF.SaysY fa fn EX K) (ih : ∀ j fj, FNS[j]? = some fj → fj.lvl < 7 → Def0 EXS KWS FNS P w K mg base fj (Phi j)) : Def0 EXS KWS FNS P w K mg base ⟨"worth", ["table", "lot"], 7⟩ (Phi 16) := by
  obtain ⟨fd, F⟩ := c.d.def_ 16 rfl
  exact def0_ok (Γ := cfg n_worth 6) (Φ := Phi) F (He.glo_ok X G (c.d.fact 16 (f := .glo "worth") rfl)) s_worth rfl m_worth rfl ih (blt_ok X G c.d blt_in) (gls2_ok X G c.d int_in str_in) (gts_ok X G (and2 (and2 c.more).1).1 tup_pl) (mth_ok X G (and2 (and2 c.more).1).2) (exc_ok X G c) p_worth
    (FunD.bindsN (ps := ["table", "lot"]) F fun _ _ _ _ _ _ us hl => match us, hl with | [_, _], _ => rfl)
    (kws_at (i := 16) nd rfl fun kw h => nomatch (show kw ∈ ([] : List KW) from h))
theorem d_from_pairs (X : K.In h) (G : h.Ns mainGlobals mg) (c : RF.SaysY fa fn EX K) (ih : ∀ j fj, FNS[j]? = some fj → fj.lvl < 6 → Def0 EXS KWS FNS P w K mg base fj (Phi j)) : Def0 EXS KWS FNS P w K mg base ⟨"from_pairs", ["times", "pairs"], 6⟩ (Phi 17) := by
  obtain ⟨fd, F⟩ := c.d.def_ 17 rfl
  exact def0_ok (Γ := cfg n_from_pairs 5) (Φ := Phi) F (He.glo_ok X G (c.d.fact 17 (f := .glo "from_pairs") rfl)) s_from_pairs rfl m_from_pairs rfl ih (blt_ok X G c.d blt_in) (gls2_ok X G c.d int_in str_in) (gts_ok X G (and2 (and2 c.more).1).1 tup_pl) (mth_ok X G (and2 (and2 c.more).1).2) (exc_ok X G c) p_from_pairs
    (FunD.bindsN (ps := ["times", "pairs"]) F fun _ _ _ _ _ _ us hl => match us, hl with | [_, _], _ => rfl)
    (kws_at (i := 17) nd rfl (by
      intro kw hm
      have hm : kw ∈ ([⟨17, 0, ["pairs", "times"], [1, 0]⟩] : List KW) := hm
      simp only [List.mem_cons, List.not_mem_nil, or_false] at hm
      rcases hm with rfl
      · exact kb_of F fun _ _ _ _ _ _ us ws zs h1 h2 h3 => match us, ws, h1, h2, h3 with | [], [_, _], _, _, h3 => by cases h3; rfl
      ))
theorem d__law_pool (X : K.In h) (G : h.Ns mainGlobals mg) (c : RF.SaysY fa fn EX K) (ih : ∀ j fj, FNS[j]? = some fj → fj.lvl < 1 → Def0 EXS KWS FNS P w K mg base fj (Phi j)) : Def0 EXS KWS FNS P w K mg base ⟨"_law_pool", ["script", "lap"], 1⟩ (Phi 18) := by
  obtain ⟨fd, F⟩ := c.d.def_ 18 rfl
  exact def0_ok (Γ := cfg n__law_pool 0) (Φ := Phi) F (He.glo_ok X G (c.d.fact 18 (f := .glo "_law_pool") rfl)) s__law_pool rfl m__law_pool rfl ih (blt_ok X G c.d blt_in) (gls2_ok X G c.d int_in str_in) (gts_ok X G (and2 (and2 c.more).1).1 tup_pl) (mth_ok X G (and2 (and2 c.more).1).2) (exc_ok X G c) p__law_pool
    (FunD.bindsN (ps := ["script", "lap"]) F fun _ _ _ _ _ _ us hl => match us, hl with | [_, _], _ => rfl)
    (kws_at (i := 18) nd rfl fun kw h => nomatch (show kw ∈ ([] : List KW) from h))
theorem d__law_draw (X : K.In h) (G : h.Ns mainGlobals mg) (c : RF.SaysY fa fn EX K) (ih : ∀ j fj, FNS[j]? = some fj → fj.lvl < 1 → Def0 EXS KWS FNS P w K mg base fj (Phi j)) : Def0 EXS KWS FNS P w K mg base ⟨"_law_draw", ["pool", "many"], 1⟩ (Phi 19) := by
  obtain ⟨fd, F⟩ := c.d.def_ 19 rfl
  exact def0_ok (Γ := cfg n__law_draw 0) (Φ := Phi) F (He.glo_ok X G (c.d.fact 19 (f := .glo "_law_draw") rfl)) s__law_draw rfl m__law_draw rfl ih (blt_ok X G c.d blt_in) (gls2_ok X G c.d int_in str_in) (gts_ok X G (and2 (and2 c.more).1).1 tup_pl) (mth_ok X G (and2 (and2 c.more).1).2) (exc_ok X G c) p__law_draw
    (FunD.bindsN (ps := ["pool", "many"]) F fun _ _ _ _ _ _ us hl => match us, hl with | [_, _], _ => rfl)
    (kws_at (i := 19) nd rfl fun kw h => nomatch (show kw ∈ ([] : List KW) from h))
theorem d__law_pick (X : K.In h) (G : h.Ns mainGlobals mg) (c : RF.SaysY fa fn EX K) (ih : ∀ j fj, FNS[j]? = some fj → fj.lvl < 2 → Def0 EXS KWS FNS P w K mg base fj (Phi j)) : Def0 EXS KWS FNS P w K mg base ⟨"_law_pick", ["pool", "some"], 2⟩ (Phi 20) := by
  obtain ⟨fd, F⟩ := c.d.def_ 20 rfl
  exact def0_ok (Γ := cfg n__law_pick 1) (Φ := Phi) F (He.glo_ok X G (c.d.fact 20 (f := .glo "_law_pick") rfl)) s__law_pick rfl m__law_pick rfl ih (blt_ok X G c.d blt_in) (gls2_ok X G c.d int_in str_in) (gts_ok X G (and2 (and2 c.more).1).1 tup_pl) (mth_ok X G (and2 (and2 c.more).1).2) (exc_ok X G c) p__law_pick
    (FunD.bindsN (ps := ["pool", "some"]) F fun _ _ _ _ _ _ us hl => match us, hl with | [_, _], _ => rfl)
    (kws_at (i := 20) nd rfl fun kw h => nomatch (show kw ∈ ([] : List KW) from h))
theorem d__law_same_0 (X : K.In h) (G : h.Ns mainGlobals mg) (c : RF.SaysY fa fn EX K) (ih : ∀ j fj, FNS[j]? = some fj → fj.lvl < 1 → Def0 EXS KWS FNS P w K mg base fj (Phi j)) : Def0 EXS KWS FNS P w K mg base ⟨"_law_same", ["one", "other"], 1⟩ (Phi 21) := by
  obtain ⟨fd, F⟩ := c.d.def_ 21 rfl
  exact def0_ok (Γ := cfg n__law_same_0 0) (Φ := Phi) F (He.glo_ok X G (c.d.fact 21 (f := .glo "_law_same") rfl)) s__law_same rfl m__law_same_0 rfl ih (blt_ok X G c.d blt_in) (gls2_ok X G c.d int_in str_in) (gts_ok X G (and2 (and2 c.more).1).1 tup_pl) (mth_ok X G (and2 (and2 c.more).1).2) (exc_ok X G c) p__law_same_0
    (FunD.bindsN (ps := ["one", "other"]) F fun _ _ _ _ _ _ us hl => match us, hl with | [_, _], _ => rfl)
    (kws_at (i := 21) nd rfl fun kw h => nomatch (show kw ∈ ([] : List KW) from h))
theorem d__law_same_1 (X : K.In h) (G : h.Ns mainGlobals mg) (c : RF.SaysY fa fn EX K) (ih : ∀ j fj, FNS[j]? = some fj → fj.lvl < 2 → Def0 EXS KWS FNS P w K mg base fj (Phi j)) : Def0 EXS KWS FNS P w K mg base ⟨"_law_same", ["one", "other"], 2⟩ (Phi 22) := by
  obtain ⟨fd, F⟩ := c.d.def_ 21 rfl
  exact def0_ok (Γ := cfg n__law_same_1 1) (Φ := Phi) F (He.glo_ok X G (c.d.fact 21 (f := .glo "_law_same") rfl)) s__law_same rfl m__law_same_1 rfl ih (blt_ok X G c.d blt_in) (gls2_ok X G c.d int_in str_in) (gts_ok X G (and2 (and2 c.more).1).1 tup_pl) (mth_ok X G (and2 (and2 c.more).1).2) (exc_ok X G c) p__law_same_1
    (FunD.bindsN (ps := ["one", "other"]) F fun _ _ _ _ _ _ us hl => match us, hl with | [_, _], _ => rfl)
    (kws_at (i := 22) nd rfl fun kw h => nomatch (show kw ∈ ([] : List KW) from h))
theorem d__law_same_2 (X : K.In h) (G : h.Ns mainGlobals mg) (c : RF.SaysY fa fn EX K) (ih : ∀ j fj, FNS[j]? = some fj → fj.lvl < 3 → Def0 EXS KWS FNS P w K mg base fj (Phi j)) : Def0 EXS KWS FNS P w K mg base ⟨"_law_same", ["one", "other"], 3⟩ (Phi 23) := by
  obtain ⟨fd, F⟩ := c.d.def_ 21 rfl
  exact def0_ok (Γ := cfg n__law_same_2 2) (Φ := Phi) F (He.glo_ok X G (c.d.fact 21 (f := .glo "_law_same") rfl)) s__law_same rfl m__law_same_2 rfl ih (blt_ok X G c.d blt_in) (gls2_ok X G c.d int_in str_in) (gts_ok X G (and2 (and2 c.more).1).1 tup_pl) (mth_ok X G (and2 (and2 c.more).1).2) (exc_ok X G c) p__law_same_2
    (FunD.bindsN (ps := ["one", "other"]) F fun _ _ _ _ _ _ us hl => match us, hl with | [_, _], _ => rfl)
    (kws_at (i := 23) nd rfl fun kw h => nomatch (show kw ∈ ([] : List KW) from h))
theorem d__law_power (X : K.In h) (G : h.Ns mainGlobals mg) (c : RF.SaysY fa fn EX K) (ih : ∀ j fj, FNS[j]? = some fj → fj.lvl < 1 → Def0 EXS KWS FNS P w K mg base fj (Phi j)) : Def0 EXS KWS FNS P w K mg base ⟨"_law_power", ["many"], 1⟩ (Phi 24) := by
  obtain ⟨fd, F⟩ := c.d.def_ 22 rfl
  exact def0_ok (Γ := cfg n__law_power 0) (Φ := Phi) F (He.glo_ok X G (c.d.fact 22 (f := .glo "_law_power") rfl)) s__law_power rfl m__law_power rfl ih (blt_ok X G c.d blt_in) (gls2_ok X G c.d int_in str_in) (gts_ok X G (and2 (and2 c.more).1).1 tup_pl) (mth_ok X G (and2 (and2 c.more).1).2) (exc_ok X G c) p__law_power
    (FunD.bindsN (ps := ["many"]) F fun _ _ _ _ _ _ us hl => match us, hl with | [_], _ => rfl)
    (kws_at (i := 24) nd rfl fun kw h => nomatch (show kw ∈ ([] : List KW) from h))
theorem d__law_refused (X : K.In h) (G : h.Ns mainGlobals mg) (c : RF.SaysY fa fn EX K) (ih : ∀ j fj, FNS[j]? = some fj → fj.lvl < 7 → Def0 EXS KWS FNS P w K mg base fj (Phi j)) : Def0 EXS KWS FNS P w K mg base ⟨"_law_refused", ["times", "pairs"], 7⟩ (Phi 25) := by
  obtain ⟨fd, F⟩ := c.d.def_ 23 rfl
  exact def0_ok (Γ := cfg n__law_refused 6) (Φ := Phi) F (He.glo_ok X G (c.d.fact 23 (f := .glo "_law_refused") rfl)) s__law_refused rfl m__law_refused rfl ih (blt_ok X G c.d blt_in) (gls2_ok X G c.d int_in str_in) (gts_ok X G (and2 (and2 c.more).1).1 tup_pl) (mth_ok X G (and2 (and2 c.more).1).2) (exc_ok X G c) p__law_refused
    (FunD.bindsN (ps := ["times", "pairs"]) F fun _ _ _ _ _ _ us hl => match us, hl with | [_, _], _ => rfl)
    (kws_at (i := 25) nd rfl fun kw h => nomatch (show kw ∈ ([] : List KW) from h))
theorem d__law_pairs (X : K.In h) (G : h.Ns mainGlobals mg) (c : RF.SaysY fa fn EX K) (ih : ∀ j fj, FNS[j]? = some fj → fj.lvl < 3 → Def0 EXS KWS FNS P w K mg base fj (Phi j)) : Def0 EXS KWS FNS P w K mg base ⟨"_law_pairs", ["pool", "many"], 3⟩ (Phi 26) := by
  obtain ⟨fd, F⟩ := c.d.def_ 24 rfl
  exact def0_ok (Γ := cfg n__law_pairs 2) (Φ := Phi) F (He.glo_ok X G (c.d.fact 24 (f := .glo "_law_pairs") rfl)) s__law_pairs rfl m__law_pairs rfl ih (blt_ok X G c.d blt_in) (gls2_ok X G c.d int_in str_in) (gts_ok X G (and2 (and2 c.more).1).1 tup_pl) (mth_ok X G (and2 (and2 c.more).1).2) (exc_ok X G c) p__law_pairs
    (FunD.bindsN (ps := ["pool", "many"]) F fun _ _ _ _ _ _ us hl => match us, hl with | [_, _], _ => rfl)
    (kws_at (i := 26) nd rfl fun kw h => nomatch (show kw ∈ ([] : List KW) from h))
theorem d__law_right (X : K.In h) (G : h.Ns mainGlobals mg) (c : RF.SaysY fa fn EX K) (ih : ∀ j fj, FNS[j]? = some fj → fj.lvl < 8 → Def0 EXS KWS FNS P w K mg base fj (Phi j)) : Def0 EXS KWS FNS P w K mg base ⟨"_law_right", ["pool"], 8⟩ (Phi 27) := by
  obtain ⟨fd, F⟩ := c.d.def_ 25 rfl
  exact def0_ok (Γ := cfg n__law_right 7) (Φ := Phi) F (He.glo_ok X G (c.d.fact 25 (f := .glo "_law_right") rfl)) s__law_right rfl m__law_right rfl ih (blt_ok X G c.d blt_in) (gls2_ok X G c.d int_in str_in) (gts_ok X G (and2 (and2 c.more).1).1 tup_pl) (mth_ok X G (and2 (and2 c.more).1).2) (exc_ok X G c) p__law_right
    (FunD.bindsN (ps := ["pool"]) F fun _ _ _ _ _ _ us hl => match us, hl with | [_], _ => rfl)
    (kws_at (i := 27) nd rfl fun kw h => nomatch (show kw ∈ ([] : List KW) from h))
theorem d_law (X : K.In h) (G : h.Ns mainGlobals mg) (c : RF.SaysY fa fn EX K) (ih : ∀ j fj, FNS[j]? = some fj → fj.lvl < 9 → Def0 EXS KWS FNS P w K mg base fj (Phi j)) : Def0 EXS KWS FNS P w K mg base ⟨"law", ["script"], 9⟩ (Phi 28) := by
  obtain ⟨fd, F⟩ := c.d.def_ 26 rfl
  exact def0_ok (Γ := cfg n_law 8) (Φ := Phi) F (He.glo_ok X G (c.d.fact 26 (f := .glo "law") rfl)) s_law rfl m_law rfl ih (blt_ok X G c.d blt_in) (gls2_ok X G c.d int_in str_in) (gts_ok X G (and2 (and2 c.more).1).1 tup_pl) (mth_ok X G (and2 (and2 c.more).1).2) (exc_ok X G c) p_law
    (FunD.bindsN (ps := ["script"]) F fun _ _ _ _ _ _ us hl => match us, hl with | [_], _ => rfl)
    (kws_at (i := 28) nd rfl fun kw h => nomatch (show kw ∈ ([] : List KW) from h))
theorem all_ok (X : K.In h) (G : h.Ns mainGlobals mg) (c : RF.SaysY fa fn EX K) : ∀ i fi, FNS[i]? = some fi → Def0 EXS KWS FNS P w K mg base fi (Phi i) := by
  refine chain fun i fi hi ih => ?_
  match i, hi with
  | 0, hi => cases hi; exact d_is_whole X G c ih
  | 1, hi => cases hi; exact d_is_between X G c ih
  | 2, hi => cases hi; exact d_is_tuple_of X G c ih
  | 3, hi => cases hi; exact d_people_of_length X G c ih
  | 4, hi => cases hi; exact d_is_worth X G c ih
  | 5, hi => cases hi; exact d_wrong_in_table X G c ih
  | 6, hi => cases hi; exact d_is_table_by X G c ih
  | 7, hi => cases hi; exact d_is_lot X G c ih
  | 8, hi => cases hi; exact d_is_lot_pair X G c ih
  | 9, hi => cases hi; exact d_wrong_in_pairs X G c ih
  | 10, hi => cases hi; exact d_table_of_pairs X G c ih
  | 11, hi => cases hi; exact d_check_table X G c ih
  | 12, hi => cases hi; exact d_check_lot X G c ih
  | 13, hi => cases hi; exact d_check_times X G c ih
  | 14, hi => cases hi; exact d_is_table X G c ih
  | 15, hi => cases hi; exact d_check_asked X G c ih
  | 16, hi => cases hi; exact d_worth X G c ih
  | 17, hi => cases hi; exact d_from_pairs X G c ih
  | 18, hi => cases hi; exact d__law_pool X G c ih
  | 19, hi => cases hi; exact d__law_draw X G c ih
  | 20, hi => cases hi; exact d__law_pick X G c ih
  | 21, hi => cases hi; exact d__law_same_0 X G c ih
  | 22, hi => cases hi; exact d__law_same_1 X G c ih
  | 23, hi => cases hi; exact d__law_same_2 X G c ih
  | 24, hi => cases hi; exact d__law_power X G c ih
  | 25, hi => cases hi; exact d__law_refused X G c ih
  | 26, hi => cases hi; exact d__law_pairs X G c ih
  | 27, hi => cases hi; exact d__law_right X G c ih
  | 28, hi => cases hi; exact d_law X G c ih
  | n + 29, hi => cases hi
end
theorem facts {P : Program} {w : World} {K : PySem.W.Frag} {h : Heap} {mg : Str → Option Value} {f : Addr} (X : K.In h) (G : h.Ns mainGlobals mg) (hfa : mg ("law" : Str) = some (.ref f)) (c : RF.SaysY fa fn EX K) :
    ∃ fd : FuncData, (∀ (s : Shared) (v : Value), BindsTo s fd ⟨[v], []⟩ [("script", v)]) ∧ ∀ base : Heap, K.In base → base.Ns mainGlobals mg → RF.FnG P w K mg base (L2.CX P w) 9 f fd ["script"] (spOf K mg EXS 1 lawS) := by
  obtain ⟨fd, F⟩ := c.d.def_ 26 rfl
  have e := hfa.symm.trans (He.glo_ok X G (c.d.fact 26 (f := .glo "law") rfl))
  cases e
  have b := FunD.bindsA (ps := ["script"]) F fun _ _ _ _ _ _ us hl => match us, hl with | [_], _ => rfl
  refine ⟨fd, fun s v => b s [v] rfl, fun base _ _ => ?_⟩
  exact def_ok (Γ := cfg n_law 8) (Φ := Phi) F s_law m_law rfl (fun i fi h1 _ => all_ok X G c i fi h1) (blt_ok X G c.d blt_in) (gls2_ok X G c.d int_in str_in) (gts_ok X G (and2 (and2 c.more).1).1 tup_pl) (mth_ok X G (and2 (and2 c.more).1).2) (exc_ok X G c) p_law
end K05
open PySem PySem.W PySem.Calls PyProof.Rows
theorem PySem.Challenge.cw_jointshares_k05_whole_tables_from_pairs_holds : PySem.Challenge.rw_jointshares_k05_whole_tables_from_pairs.Holds := by
  w_on; o_law
  refine HandSHeadRun.head_any (r := OpenLaw.row PySem.Challenge.rw_jointshares_k05_whole_tables_from_pairs) (q := view (OpenLaw.row PySem.Challenge.rw_jointshares_k05_whole_tables_from_pairs).prog [39]) (H := K05.hk) (ob := K05.ob) (M := 4000) (loose := K05.loose) (d := HandSHeadRun.topDef (OpenLaw.row PySem.Challenge.rw_jointshares_k05_whole_tables_from_pairs).prog 39) (kwd := []) K05.ob_eq
    (by kernel_rfl) (fun s => by kernel_rfl) K05.run (by kernel_rfl) (by kernel_rfl) (by kernel_rfl) (by rfl) (by first | assumption | decide +kernel) (by decide +kernel) ⟨rfl, rfl, rfl, rfl, rfl, by decide +kernel⟩ ?hw ?hc
  case hw => w_witness2
  case hc =>
    refine RF.walk_rf (l := PySem.Challenge.rw_jointshares_k05_whole_tables_from_pairs) (n := 63) (k := 9) (x := "script") (CX := L2.CX (PySem.Challenge.rw_jointshares_k05_whole_tables_from_pairs).prog) rfl (by decide) (by kernel_rfl) ⟨rfl, by decide, by decide⟩ ?F RF.cx_no
    intro w mg fa h Y G hmg0
    obtain ⟨K, KX, c⟩ := Y
    have hmg : mg ("law" : PySem.Str) = some (.ref fa) := by
      have e : (HandSHeadRun.topDef (OpenLaw.row PySem.Challenge.rw_jointshares_k05_whole_tables_from_pairs).prog 39).name = ("law" : PySem.Str) := by kernel_rfl
      rw [← e]
      exact hmg0
    obtain ⟨fd, hb, hF⟩ := K05.facts (P := (PySem.Challenge.rw_jointshares_k05_whole_tables_from_pairs).prog) (w := w) KX G hmg c
    exact ⟨K, fd, RF.spOf K mg K05.EXS 1 RF.lawS, KX, hb, fun H a ns hl ho hS => RF.law_go hl ho hS, hF⟩
