import PyProof.Rows.All
import Wide.All
import OpenK.AllK
import Wide.FinOn
import HandS.ForMost
import HandS.HeadHook1
import HandS.ForExc
import HandS.CallSlots
import HandS.IsInst
import HandS.Deep
import HandS.TupAny
import HandS.More
import KE.OsSortAny
import HandS.Dict
import HandS.Defaults
import HandS.Star
import HandS.ExcInit
import HandS.ExcField
import HandS.TryOnly
import KE.KExcSuper
import HandS.Iter
import KE.GoesEnum
import HandS.DictComp
import HandS.Rev
import HandS.Text
import HandS.HeadHook3
import HandS.HeadWalk
import KE.KStateDown
import PySem.Challenge.RW_everyend_k06_fields_and_methods_by_paren
import HandS.Head0
import HandS.Head1
import HandS.Head2
import HandS.HeadEnd
import HandS.Strs
import KE.GoesMore
import HandS.DeepEq
import PyProof.NeKinds

section
set_option Elab.async false
set_option linter.all false
set_option maxRecDepth 100000
set_option maxHeartbeats 4000000
/-! E1: data D, slots, the relation of an environment of slots to the hand layer's slots and heap -/
namespace EE
open PySem PySem.Spec PyProof.Rows L2

/-! ### data -/
inductive D where
  | non | bl (b : Bool) | int (i : Int) | str (x : Str)
  | tup (ds : List D) | lst (ds : List D) | dct (kvs : List (Key × D)) | ins (c : Str) (fs : List (Str × D))
instance : Inhabited D := ⟨.non⟩

/-! ### heaps: a base grows; a dict may be locked meanwhile -/
def DKd (o : HO) (kvs : List (Key × V)) : Prop := o = .dK kvs ∨ ∃ od, o = .frz od (.dK kvs)
def Sm (o o' : HO) : Prop := o = o' ∨ ∃ kvs, DKd o kvs ∧ DKd o' kvs
theorem DKd.inj {o : HO} {k l : List (Key × V)} (a : DKd o k) (b : DKd o l) : k = l := by
  rcases a with rfl | ⟨od, rfl⟩ <;> rcases b with h | ⟨od', h⟩ <;> cases h <;> rfl
theorem Sm.refl (o : HO) : Sm o o := .inl rfl
theorem Sm.trans {a b c : HO} (x : Sm a b) (y : Sm b c) : Sm a c := by
  rcases x with rfl | ⟨k, x1, x2⟩
  · exact y
  · rcases y with rfl | ⟨l, y1, y2⟩
    · exact .inr ⟨k, x1, x2⟩
    · cases x2.inj y1
      exact .inr ⟨k, x1, y2⟩
def Ex (B B' : Hp) : Prop := ∀ a o, B a = some o → ∃ o', B' a = some o' ∧ Sm o o'
theorem Ex.refl (B : Hp) : Ex B B := fun _ o h => ⟨o, h, .refl o⟩
theorem Ex.trans {B B1 B2 : Hp} (a : Ex B B1) (b : Ex B1 B2) : Ex B B2 := fun x o h => by
  obtain ⟨o1, h1, s1⟩ := a x o h
  obtain ⟨o2, h2, s2⟩ := b x o1 h1
  exact ⟨o2, h2, s1.trans s2⟩
def Sub (B H : Hp) : Prop := ∀ a o, B a = some o → H a = some o
theorem Sub.refl (B : Hp) : Sub B B := fun _ _ h => h
theorem Sub.ex {B H : Hp} (s : Sub B H) : Ex B H := fun a o h => ⟨o, s a o h, .refl o⟩
theorem Sub.trans {B H G : Hp} (a : Sub B H) (b : Sub H G) : Sub B G := fun x o h => b x o (a x o h)
theorem Sub.none {B H : Hp} (s : Sub B H) {a : Addr} (h : H a = none) : B a = none := by
  cases e : B a with
  | none => rfl
  | some o => rw [s a o e] at h; cases h
theorem Ex.upd {B : Hp} {p : Addr} {o : HO} (h : B p = none) : Ex B (upd B p o) := fun a u e => by
  refine ⟨u, ?_, .refl u⟩
  rw [upd_ne (ne_of_none e h)]
  exact e
theorem Sub.upd {B H : Hp} {p : Addr} {o : HO} (s : Sub B H) : Sub (upd B p o) (upd H p o) := fun a u e => by
  unfold L2.upd at e ⊢
  split
  · rename_i h; rw [if_pos h] at e; exact e
  · rename_i h; rw [if_neg h] at e; exact s a u e
theorem Ex.none {B B' : Hp} (s : Ex B B') {a : Addr} (h : B' a = Option.none) : B a = Option.none := by
  cases e : B a with
  | none => rfl
  | some o =>
    obtain ⟨o', h', _⟩ := s a o e
    rw [h'] at h; cases h

/-! ### what a value stands for -/
section
variable (K : PySem.W.Frag)
def DRd (B : Hp) (a : Addr) (ws : List (Key × V)) : Prop := ∃ o, B a = some o ∧ DKd o ws
mutual
def Rep (B : Hp) : D → V → Prop
  | .non, v => v = .non
  | .bl b, v => v = .bl b
  | .int i, v => v = .int i
  | .str x, v => v = .str x
  | .tup ds, v => ∃ a xs, v = .ref a ∧ SqT K B a xs ∧ RepL B ds xs
  | .lst ds, v => ∃ a xs, v = .ref a ∧ SqL K B a xs ∧ RepL B ds xs
  | .dct kvs, v => ∃ a ws, v = .ref a ∧ DRd B a ws ∧ RepK B kvs ws
  | .ins c fs, v => ∃ a dx ws, v = .ref a ∧ B a = some (.ins (He.ga K c) dx ws) ∧ RepF B fs ws
def RepL (B : Hp) : List D → List V → Prop
  | [], xs => xs = []
  | d :: ds, xs => ∃ y ys, xs = y :: ys ∧ Rep B d y ∧ RepL B ds ys
def RepK (B : Hp) : List (Key × D) → List (Key × V) → Prop
  | [], ws => ws = []
  | (k, d) :: kvs, ws => ∃ y ys, ws = (k, y) :: ys ∧ Rep B d y ∧ RepK B kvs ys
def RepF (B : Hp) : List (Str × D) → List (Str × V) → Prop
  | [], ws => ws = []
  | (k, d) :: kvs, ws => ∃ y ys, ws = (k, y) :: ys ∧ Rep B d y ∧ RepF B kvs ys
end
end

section
variable {K : PySem.W.Frag} {B B' H : Hp}
theorem ex_rd {a : Addr} {u : HO} (e : Ex B B') (h : Rd B a u) (nd : ∀ kvs, ¬ DKd u kvs) (nf : ∀ o kvs, ¬ DKd (.frz o u) kvs) : Rd B' a u := by
  rcases h with h | ⟨o, h⟩
  · obtain ⟨o', h', s⟩ := e a _ h
    rcases s with rfl | ⟨k, s1, s2⟩
    · exact .inl h'
    · exact absurd s1 (nd k)
  · obtain ⟨o', h', s⟩ := e a _ h
    rcases s with rfl | ⟨k, s1, s2⟩
    · exact .inr ⟨o, h'⟩
    · exact absurd s1 (nf _ _)
theorem nd_lst {xs : List V} : ∀ kvs, ¬ DKd (.lst xs) kvs := fun _ h => by rcases h with h | ⟨_, h⟩ <;> cases h
theorem nd_tup {xs : List V} : ∀ kvs, ¬ DKd (.tup xs) kvs := fun _ h => by rcases h with h | ⟨_, h⟩ <;> cases h
theorem nf_lst {xs : List V} : ∀ o kvs, ¬ DKd (.frz o (.lst xs)) kvs := fun _ _ h => by
  rcases h with h | ⟨_, h⟩ <;> cases h
theorem nf_tup {xs : List V} : ∀ o kvs, ¬ DKd (.frz o (.tup xs)) kvs := fun _ _ h => by
  rcases h with h | ⟨_, h⟩ <;> cases h
theorem nd_ins {C dx : Addr} {fs : List (Str × V)} : ∀ kvs, ¬ DKd (.ins C dx fs) kvs := fun _ h => by rcases h with h | ⟨_, h⟩ <;> cases h
theorem ex_at {a : Addr} {u : HO} (e : Ex B B') (h : B a = some u) (nd : ∀ kvs, ¬ DKd u kvs) : B' a = some u := by
  obtain ⟨o', h', s⟩ := e a _ h
  rcases s with rfl | ⟨k, s1, s2⟩
  · exact h'
  · exact absurd s1 (nd k)
theorem ex_l {a : Addr} {xs : List V} (e : Ex B B') (h : SqL K B a xs) : SqL K B' a xs := by
  rcases h with h | h
  · exact .inl (ex_rd e h nd_lst nf_lst)
  · exact .inr h
theorem ex_t {a : Addr} {xs : List V} (e : Ex B B') (h : SqT K B a xs) : SqT K B' a xs := by
  rcases h with h | h
  · exact .inl (ex_rd e h nd_tup nf_tup)
  · exact .inr h
theorem ex_d {a : Addr} {ws : List (Key × V)} (e : Ex B B') (h : DRd B a ws) : DRd B' a ws := by
  obtain ⟨o, h1, h2⟩ := h
  obtain ⟨o', h', s⟩ := e a _ h1
  rcases s with rfl | ⟨k, s1, s2⟩
  · exact ⟨_, h', h2⟩
  · cases h2.inj s1
    exact ⟨o', h', s2⟩
mutual
theorem Rep.mono (e : Ex B B') : ∀ {d : D} {v : V}, Rep K B d v → Rep K B' d v
  | .non, v, h => by unfold Rep at h ⊢; exact h
  | .bl _, v, h => by unfold Rep at h ⊢; exact h
  | .int _, v, h => by unfold Rep at h ⊢; exact h
  | .str _, v, h => by unfold Rep at h ⊢; exact h
  | .tup ds, v, h => by
    unfold Rep at h ⊢
    obtain ⟨a, xs, h1, h2, h3⟩ := h
    exact ⟨a, xs, h1, ex_t e h2, RepL.mono e h3⟩
  | .lst ds, v, h => by
    unfold Rep at h ⊢
    obtain ⟨a, xs, h1, h2, h3⟩ := h
    exact ⟨a, xs, h1, ex_l e h2, RepL.mono e h3⟩
  | .dct kvs, v, h => by
    unfold Rep at h ⊢
    obtain ⟨a, xs, h1, h2, h3⟩ := h
    exact ⟨a, xs, h1, ex_d e h2, RepK.mono e h3⟩
  | .ins c fs, v, h => by
    unfold Rep at h ⊢
    obtain ⟨a, dx, xs, h1, h2, h3⟩ := h
    exact ⟨a, dx, xs, h1, ex_at e h2 nd_ins, RepF.mono e h3⟩
theorem RepL.mono (e : Ex B B') : ∀ {ds : List D} {xs : List V}, RepL K B ds xs → RepL K B' ds xs
  | [], xs, h => by unfold RepL at h ⊢; exact h
  | d :: ds, xs, h => by
    unfold RepL at h ⊢
    obtain ⟨y, ys, h1, h2, h3⟩ := h
    exact ⟨y, ys, h1, Rep.mono e h2, RepL.mono e h3⟩
theorem RepK.mono (e : Ex B B') : ∀ {ds : List (Key × D)} {xs : List (Key × V)}, RepK K B ds xs → RepK K B' ds xs
  | [], xs, h => by unfold RepK at h ⊢; exact h
  | (k, d) :: ds, xs, h => by
    unfold RepK at h ⊢
    obtain ⟨y, ys, h1, h2, h3⟩ := h
    exact ⟨y, ys, h1, Rep.mono e h2, RepK.mono e h3⟩
theorem RepF.mono (e : Ex B B') : ∀ {ds : List (Str × D)} {xs : List (Str × V)}, RepF K B ds xs → RepF K B' ds xs
  | [], xs, h => by unfold RepF at h ⊢; exact h
  | (k, d) :: ds, xs, h => by
    unfold RepF at h ⊢
    obtain ⟨y, ys, h1, h2, h3⟩ := h
    exact ⟨y, ys, h1, Rep.mono e h2, RepF.mono e h3⟩
end
theorem RepL.nil : RepL K B [] [] := by unfold RepL; rfl
theorem RepL.cons {d : D} {ds : List D} {x : V} {xs : List V} (h : Rep K B d x) (t : RepL K B ds xs) : RepL K B (d :: ds) (x :: xs) := by
  unfold RepL; exact ⟨x, xs, rfl, h, t⟩
theorem RepL.nil_inv {xs : List V} (h : RepL K B [] xs) : xs = [] := by unfold RepL at h; exact h
theorem RepL.cons_inv {d : D} {ds : List D} {xs : List V} (h : RepL K B (d :: ds) xs) : ∃ y ys, xs = y :: ys ∧ Rep K B d y ∧ RepL K B ds ys := by unfold RepL at h; exact h
theorem RepL.length : ∀ {ds : List D} {xs : List V}, RepL K B ds xs → xs.length = ds.length
  | [], _, h => by rw [h.nil_inv]; rfl
  | _ :: _, _, h => by
    obtain ⟨y, ys, rfl, _, t⟩ := h.cons_inv
    rw [List.length_cons, List.length_cons, RepL.length t]
theorem RepL.append : ∀ {ds es : List D} {xs ys : List V}, RepL K B ds xs → RepL K B es ys → RepL K B (ds ++ es) (xs ++ ys)
  | [], _, _, _, h, k => by rw [h.nil_inv]; exact k
  | _ :: _, _, _, _, h, k => by
    obtain ⟨y, ys, rfl, r, t⟩ := h.cons_inv
    exact .cons r (RepL.append t k)
theorem RepL.get : ∀ {ds : List D} {xs : List V} {i : Nat} {d : D}, RepL K B ds xs → ds[i]? = some d → ∃ x, xs[i]? = some x ∧ Rep K B d x
  | [], _, _, _, _, e => by simp at e
  | _ :: _, _, 0, _, h, e => by
    obtain ⟨y, ys, rfl, r, t⟩ := h.cons_inv
    simp at e; subst e
    exact ⟨y, rfl, r⟩
  | _ :: _, _, i + 1, _, h, e => by
    obtain ⟨y, ys, rfl, r, t⟩ := h.cons_inv
    obtain ⟨x, h1, h2⟩ := RepL.get (i := i) t (by simpa using e)
    exact ⟨x, by simpa using h1, h2⟩
theorem RepL.take : ∀ {ds : List D} {xs : List V} (n : Nat), RepL K B ds xs → RepL K B (ds.take n) (xs.take n)
  | [], _, n, h => by rw [h.nil_inv]; simp; exact .nil
  | _ :: _, _, 0, h => by simp; exact .nil
  | _ :: _, _, n + 1, h => by
    obtain ⟨y, ys, rfl, r, t⟩ := h.cons_inv
    rw [List.take_succ_cons, List.take_succ_cons]
    exact .cons r (RepL.take n t)
theorem RepL.drop : ∀ {ds : List D} {xs : List V} (n : Nat), RepL K B ds xs → RepL K B (ds.drop n) (xs.drop n)
  | [], _, n, h => by rw [h.nil_inv]; simp; exact .nil
  | _ :: _, _, 0, h => h
  | _ :: _, _, n + 1, h => by
    obtain ⟨y, ys, rfl, r, t⟩ := h.cons_inv
    rw [List.drop_succ_cons, List.drop_succ_cons]
    exact RepL.drop n t
theorem RepL.reverse : ∀ {ds : List D} {xs : List V}, RepL K B ds xs → RepL K B ds.reverse xs.reverse
  | [], _, h => by rw [h.nil_inv]; exact .nil
  | _ :: _, _, h => by
    obtain ⟨y, ys, rfl, r, t⟩ := h.cons_inv
    rw [List.reverse_cons, List.reverse_cons]
    exact (RepL.reverse t).append (.cons r .nil)
theorem Rep.str_inv {x : Str} {v : V} (h : Rep K B (.str x) v) : v = .str x := by unfold Rep at h; exact h
theorem Rep.int_inv {x : Int} {v : V} (h : Rep K B (.int x) v) : v = .int x := by unfold Rep at h; exact h
theorem Rep.bl_inv {x : Bool} {v : V} (h : Rep K B (.bl x) v) : v = .bl x := by unfold Rep at h; exact h
theorem Rep.non_inv {v : V} (h : Rep K B .non v) : v = .non := by unfold Rep at h; exact h
theorem Rep.tup_inv {ds : List D} {v : V} (h : Rep K B (.tup ds) v) : ∃ a xs, v = .ref a ∧ SqT K B a xs ∧ RepL K B ds xs := by unfold Rep at h; exact h
theorem Rep.lst_inv {ds : List D} {v : V} (h : Rep K B (.lst ds) v) : ∃ a xs, v = .ref a ∧ SqL K B a xs ∧ RepL K B ds xs := by unfold Rep at h; exact h
theorem Rep.dct_inv {ds : List (Key × D)} {v : V} (h : Rep K B (.dct ds) v) : ∃ a ws, v = .ref a ∧ DRd B a ws ∧ RepK K B ds ws := by unfold Rep at h; exact h
theorem Rep.ins_inv {c : Str} {fs : List (Str × D)} {v : V} (h : Rep K B (.ins c fs) v) : ∃ a dx ws, v = .ref a ∧ B a = some (.ins (He.ga K c) dx ws) ∧ RepF K B fs ws := by unfold Rep at h; exact h
theorem Rep.str {x : Str} : Rep K B (.str x) (.str x) := by unfold Rep; rfl
theorem Rep.int {x : Int} : Rep K B (.int x) (.int x) := by unfold Rep; rfl
theorem Rep.bl {x : Bool} : Rep K B (.bl x) (.bl x) := by unfold Rep; rfl
theorem Rep.non : Rep K B .non .non := by unfold Rep; rfl
theorem Rep.tup {ds : List D} {a : Addr} {xs : List V} (h : SqT K B a xs) (r : RepL K B ds xs) : Rep K B (.tup ds) (.ref a) := by unfold Rep; exact ⟨a, xs, rfl, h, r⟩
theorem Rep.lst {ds : List D} {a : Addr} {xs : List V} (h : B a = some (.lst xs)) (r : RepL K B ds xs) : Rep K B (.lst ds) (.ref a) := by unfold Rep; exact ⟨a, xs, rfl, .inl (.inl h), r⟩
theorem rd_sub (sb : Sub B H) {a : Addr} {xs : List V} (h : SqL K B a xs) : SqL K H a xs := ex_l sb.ex h
theorem Rep.dct {ds : List (Key × D)} {a : Addr} {ws : List (Key × V)} (h : DRd B a ws) (r : RepK K B ds ws) : Rep K B (.dct ds) (.ref a) := by unfold Rep; exact ⟨a, ws, rfl, h, r⟩
theorem Rep.ins {c : Str} {fs : List (Str × D)} {a dx : Addr} {ws : List (Str × V)} (h : B a = some (.ins (He.ga K c) dx ws)) (r : RepF K B fs ws) : Rep K B (.ins c fs) (.ref a) := by unfold Rep; exact ⟨a, dx, ws, rfl, h, r⟩
theorem RepK.nil_inv {ws : List (Key × V)} (h : RepK K B [] ws) : ws = [] := by unfold RepK at h; exact h
theorem RepK.cons_inv {k : Key} {d : D} {ds : List (Key × D)} {xs : List (Key × V)} (h : RepK K B ((k, d) :: ds) xs) : ∃ y ys, xs = (k, y) :: ys ∧ Rep K B d y ∧ RepK K B ds ys := by unfold RepK at h; exact h
theorem RepK.nil : RepK K B [] [] := by unfold RepK; rfl
theorem RepK.cons {k : Key} {d : D} {ds : List (Key × D)} {x : V} {xs : List (Key × V)} (h : Rep K B d x) (t : RepK K B ds xs) : RepK K B ((k, d) :: ds) ((k, x) :: xs) := by
  unfold RepK; exact ⟨x, xs, rfl, h, t⟩
theorem RepF.nil_inv {ws : List (Str × V)} (h : RepF K B [] ws) : ws = [] := by unfold RepF at h; exact h
theorem RepF.cons_inv {k : Str} {d : D} {ds : List (Str × D)} {xs : List (Str × V)} (h : RepF K B ((k, d) :: ds) xs) : ∃ y ys, xs = (k, y) :: ys ∧ Rep K B d y ∧ RepF K B ds ys := by unfold RepF at h; exact h
theorem RepF.nil : RepF K B [] [] := by unfold RepF; rfl
theorem RepF.cons {k : Str} {d : D} {ds : List (Str × D)} {x : V} {xs : List (Str × V)} (h : Rep K B d x) (t : RepF K B ds xs) : RepF K B ((k, d) :: ds) ((k, x) :: xs) := by
  unfold RepF; exact ⟨x, xs, rfl, h, t⟩
theorem RepF.lookup : ∀ {ds : List (Str × D)} {xs : List (Str × V)} {f : Str} {d : D}, RepF K B ds xs → ds.lookup f = some d → ∃ x, xs.lookup f = some x ∧ Rep K B d x
  | [], _, _, _, _, e => by simp at e
  | (k, c) :: ds, _, f, d, h, e => by
    obtain ⟨y, ys, rfl, r, t⟩ := h.cons_inv
    rw [List.lookup_cons] at e ⊢
    cases q : (f == k) with
    | true => rw [q] at e; cases e; exact ⟨y, rfl, r⟩
    | false => rw [q] at e; exact RepF.lookup t e
theorem RepF.lookup_none : ∀ {ds : List (Str × D)} {xs : List (Str × V)} {f : Str}, RepF K B ds xs → ds.lookup f = none → xs.lookup f = none
  | [], _, _, h, _ => by rw [h.nil_inv]; rfl
  | (k, c) :: ds, _, f, h, e => by
    obtain ⟨y, ys, rfl, r, t⟩ := h.cons_inv
    rw [List.lookup_cons] at e ⊢
    cases q : (f == k) with
    | true => rw [q] at e; cases e
    | false => rw [q] at e; exact RepF.lookup_none t e
theorem RepK.length : ∀ {ds : List (Key × D)} {xs : List (Key × V)}, RepK K B ds xs → xs.length = ds.length
  | [], _, h => by rw [h.nil_inv]; rfl
  | (_, _) :: _, _, h => by
    obtain ⟨y, ys, rfl, _, t⟩ := h.cons_inv
    rw [List.length_cons, List.length_cons, RepK.length t]
end

/-! ### the dicts' functions over data -/
def valD (kvs : List (Key × D)) (k : Key) : Option D := (kvs.find? fun kv => decide (kv.1 = k)).map (·.2)
def putD (kvs : List (Key × D)) (k : Key) (v : D) : List (Key × D) :=
  if (kvs.any fun kv => decide (kv.1 = k)) then kvs.map (fun kv => if kv.1 = k then (kv.1, v) else kv) else kvs ++ [(k, v)]
def dropD (kvs : List (Key × D)) (k : Key) : List (Key × D) := kvs.filter fun kv => decide (kv.1 ≠ k)

/-! ### exceptions; the one that an except suite has caught -/
structure Exn where
  cls : Str
  fs : List (Str × D)
/-- an exception as it lies in the heap -/
def ExnR (K : PySem.W.Frag) (B : Hp) (c : Exn) (cls : Value) (dx : Option Addr) : Prop :=
  cls = .ref (He.ga K c.cls) ∧ ((c.fs = [] ∧ dx = none) ∨ ∃ d ws, dx = some d ∧ B d = some (.xd ws) ∧ RepF K B c.fs ws)
theorem nd_xd {fs : List (Str × V)} : ∀ kvs, ¬ DKd (.xd fs) kvs := fun _ h => by rcases h with h | ⟨_, h⟩ <;> cases h
theorem ExnR.mono {K : PySem.W.Frag} {B B' : Hp} {c : Exn} {cls : Value} {dx : Option Addr} (e : Ex B B') (h : ExnR K B c cls dx) : ExnR K B' c cls dx := by
  obtain ⟨h1, h2⟩ := h
  refine ⟨h1, ?_⟩
  rcases h2 with h2 | ⟨d, ws, q1, q2, q3⟩
  · exact .inl h2
  · exact .inr ⟨d, ws, q1, ex_at e q2 nd_xd, q3.mono e⟩
/-- which object an except suite calls by its name -/
class XAd where
  at_ : Addr → Value → Option Addr → Prop
variable [XAd]
/-! ### an environment of slots -/
inductive Fv where
  | imm (d : D) | lst (ds : List D) | dct (kvs : List (Key × D))
inductive Slot where
  | non | imm (d : D) | lst (ds : List D) | dct (kvs : List (Key × D)) | pot (gs : List Int) (a b c : Int) | obj (c : Str) (fs : List (Str × Fv)) | exn (c : Exn)
instance : Inhabited Slot := ⟨.non⟩
abbrev Ad := Addr → Prop
section
variable (K : PySem.W.Frag) (B H : Hp)
def FvR : Fv → V → Ad → Prop
  | .imm d, v, f => (∀ b, ¬ f b) ∧ Rep K B d v
  | .lst ds, v, f => ∃ a xs, v = .ref a ∧ (∀ b, f b ↔ b = a) ∧ H a = some (.lst xs) ∧ RepL K B ds xs
  | .dct ds, v, f => ∃ a xs, v = .ref a ∧ (∀ b, f b ↔ b = a) ∧ H a = some (.dK xs) ∧ RepK K B ds xs
def FsR : List (Str × Fv) → List (Str × V) → Ad → Prop
  | [], ws, f => ws = [] ∧ ∀ b, ¬ f b
  | (k, x) :: fs, ws, f => ∃ y ys f1 f2, ws = (k, y) :: ys ∧ FvR K B H x y f1 ∧ FsR fs ys f2 ∧ (∀ b, f b ↔ (f1 b ∨ f2 b)) ∧ ∀ b, f1 b → ¬ f2 b
def SlotR : Slot → Option V → Ad → Prop
  | .non, _, f => ∀ b, ¬ f b
  | .imm d, w, f => (∀ b, ¬ f b) ∧ ∃ v, w = some v ∧ Rep K B d v
  | .lst ds, w, f => ∃ a xs, w = some (.ref a) ∧ (∀ b, f b ↔ b = a) ∧ H a = some (.lst xs) ∧ RepL K B ds xs
  | .dct ds, w, f => ∃ a xs, w = some (.ref a) ∧ (∀ b, f b ↔ b = a) ∧ H a = some (.dK xs) ∧ RepK K B ds xs
  | .pot gs s c m, w, f => ∃ a g, w = some (.ref a) ∧ a ≠ g ∧ (∀ b, f b ↔ (b = a ∨ b = g)) ∧ H a = some (.lst [.ref g, .int s, .int c, .int m]) ∧ H g = some (.lst (gs.map V.int))
  | .exn c, w, f => (∀ b, ¬ f b) ∧ ∃ a cls dx, w = some (.ref a) ∧ XAd.at_ a cls dx ∧ ExnR K B c cls dx
  | .obj c fs, w, f => ∃ a dx ws f2, w = some (.ref a) ∧ (∀ b, f b ↔ (b = a ∨ f2 b)) ∧ ¬ f2 a ∧ H a = some (.ins (He.ga K c) dx ws) ∧ FsR K B H fs ws f2
end
open Classical in
noncomputable def hid (H : Hp) (P : Ad) : Hp := fun b => if P b then none else H b
theorem hid_at {H : Hp} {P : Ad} {b : Addr} (h : ¬ P b) : hid H P b = H b := by unfold hid; rw [if_neg h]
theorem hid_no {H : Hp} {P : Ad} {b : Addr} (h : P b) : hid H P b = none := by unfold hid; rw [if_pos h]
theorem hid_some {H : Hp} {P : Ad} {b : Addr} {o : HO} (h : hid H P b = some o) : ¬ P b ∧ H b = some o := by
  by_cases p : P b
  · rw [hid_no p] at h; cases h
  · rw [hid_at p] at h; exact ⟨p, h⟩
theorem hid_sub (H : Hp) (P : Ad) : Sub (hid H P) H := fun _ _ h => (hid_some h).2
theorem hid_le {H : Hp} {P P' : Ad} (h : ∀ b, P' b → P b) : Sub (hid H P) (hid H P') := fun b o e => by
  obtain ⟨n, e⟩ := hid_some e
  rw [hid_at fun z => n (h b z)]
  exact e

def frF (fr : Ad) (fp : Nat → Ad) : Ad := fun b => fr b ∨ ∃ i, fp i b
/-- the footprints of the slots lie apart; fr: what must stay and is not to be seen; B is the heap without both -/
structure StF (K : PySem.W.Frag) (fr : Ad) (B : Hp) (σ : L2.St) (H : Hp) (ρ : List Slot) (fp : Nat → Ad) : Prop where
  len : σ.length = ρ.length
  base : B = hid H (frF fr fp)
  dis : ∀ i j b, fp i b → fp j b → i = j
  there : ∀ i b, fp i b → H b ≠ none
  frt : ∀ b, fr b → H b ≠ none
  frd : ∀ i b, fp i b → ¬ fr b
  out : ∀ i, ρ.length ≤ i → ∀ b, ¬ fp i b
  slot : ∀ i s, ρ[i]? = some s → ∃ w, σ[i]? = some w ∧ SlotR K B H s w (fp i)
def St (K : PySem.W.Frag) (fr : Ad) (B : Hp) (σ : L2.St) (H : Hp) (ρ : List Slot) : Prop := ∃ fp, StF K fr B σ H ρ fp
/-- from one world to a later one: the base grows, the frame stays -/
structure To (fr : Ad) (B H B' H' : Hp) : Prop where
  sub : Sub B B'
  keep : ∀ b, fr b → H' b = H b
theorem To.refl {fr : Ad} {B H : Hp} : To fr B H B H := ⟨.refl B, fun _ _ => rfl⟩
theorem To.trans {fr : Ad} {B H B1 H1 B2 H2 : Hp} (a : To fr B H B1 H1) (b : To fr B1 H1 B2 H2) : To fr B H B2 H2 := ⟨a.sub.trans b.sub, fun x h => (b.keep x h).trans (a.keep x h)⟩
theorem To.of {fr : Ad} {B H B' : Hp} (a : Sub B B') : To fr B H B' H := ⟨a, fun _ _ => rfl⟩
section
variable {K : PySem.W.Frag} {B B' H H' : Hp} {σ σ' : L2.St} {ρ : List Slot} {fp : Nat → Ad} {fr : Ad}
theorem StF.sub (s : StF K fr B σ H ρ fp) : Sub B H := by rw [s.base]; exact hid_sub _ _
theorem St.sub (s : St K fr B σ H ρ) : Sub B H := let ⟨_, s⟩ := s; s.sub
theorem St.len (s : St K fr B σ H ρ) : σ.length = ρ.length := let ⟨_, s⟩ := s; s.len
theorem StF.no (s : StF K fr B σ H ρ fp) {i : Nat} {b : Addr} (h : fp i b) : B b = none := by
  rw [s.base]; exact hid_no (.inr ⟨i, h⟩)
theorem SlotR.imm {d : D} {v : V} {f : Ad} (h : Rep K B d v) (hf : ∀ b, ¬ f b) : SlotR K B H (.imm d) (some v) f := ⟨hf, v, rfl, h⟩
/-- an immutable slot read -/
theorem StF.imm (s : StF K fr B σ H ρ fp) {i : Nat} {d : D} (h : ρ[i]? = some (.imm d)) : ∃ v, σ[i]? = some (some v) ∧ Rep K B d v := by
  obtain ⟨w, h1, _, v, rfl, r⟩ := s.slot i _ h
  exact ⟨v, h1, r⟩
theorem FvR.mono {x : Fv} {v : V} {f : Ad} (e : Ex B B') (k : ∀ b, f b → H' b = H b) (h : FvR K B H x v f) : FvR K B' H' x v f := by
  cases x with
  | imm d => exact ⟨h.1, h.2.mono e⟩
  | lst ds =>
    obtain ⟨a, xs, h1, h2, h3, h4⟩ := h
    exact ⟨a, xs, h1, h2, by rw [k a ((h2 a).mpr rfl)]; exact h3, h4.mono e⟩
  | dct ds =>
    obtain ⟨a, xs, h1, h2, h3, h4⟩ := h
    exact ⟨a, xs, h1, h2, by rw [k a ((h2 a).mpr rfl)]; exact h3, h4.mono e⟩
theorem FsR.mono (e : Ex B B') : ∀ {fs : List (Str × Fv)} {ws : List (Str × V)} {f : Ad}, (∀ b, f b → H' b = H b) → FsR K B H fs ws f → FsR K B' H' fs ws f
  | [], _, _, _, h => h
  | (k, x) :: fs, ws, f, q, h => by
    obtain ⟨y, ys, f1, f2, h1, h2, h3, h4, h5⟩ := h
    exact ⟨y, ys, f1, f2, h1, h2.mono e fun b z => q b ((h4 b).mpr (.inl z)), FsR.mono e (fun b z => q b ((h4 b).mpr (.inr z))) h3, h4, h5⟩
theorem SlotR.mono {s : Slot} {w : Option V} {f : Ad} (e : Ex B B') (k : ∀ b, f b → H' b = H b) (h : SlotR K B H s w f) : SlotR K B' H' s w f := by
  cases s with
  | non => exact h
  | imm d => exact ⟨h.1, let ⟨v, h1, h2⟩ := h.2; ⟨v, h1, h2.mono e⟩⟩
  | lst ds =>
    obtain ⟨a, xs, h1, h2, h3, h4⟩ := h
    exact ⟨a, xs, h1, h2, by rw [k a ((h2 a).mpr rfl)]; exact h3, h4.mono e⟩
  | dct ds =>
    obtain ⟨a, xs, h1, h2, h3, h4⟩ := h
    exact ⟨a, xs, h1, h2, by rw [k a ((h2 a).mpr rfl)]; exact h3, h4.mono e⟩
  | pot gs u c m =>
    obtain ⟨a, g, h1, h2, h3, h4, h5⟩ := h
    exact ⟨a, g, h1, h2, h3, by rw [k a ((h3 a).mpr (.inl rfl))]; exact h4, by rw [k g ((h3 g).mpr (.inr rfl))]; exact h5⟩
  | obj c fs =>
    obtain ⟨a, dx, ws, f2, h1, h2, h3, h4, h5⟩ := h
    exact ⟨a, dx, ws, f2, h1, h2, h3, by rw [k a ((h2 a).mpr (.inl rfl))]; exact h4, FsR.mono e (fun b z => k b ((h2 b).mpr (.inr z))) h5⟩
  | exn c => exact ⟨h.1, let ⟨a, cls, dx, h1, h2, h3⟩ := h.2; ⟨a, cls, dx, h1, h2, h3.mono e⟩⟩
/-- a slot's own objects stand -/
theorem FvR.there {x : Fv} {v : V} {f : Ad} (h : FvR K B H x v f) : ∀ b, f b → H b ≠ none := by
  cases x with
  | imm d => exact fun b z => absurd z (h.1 b)
  | lst ds =>
    obtain ⟨a, xs, h1, h2, h3, h4⟩ := h
    intro b z; rw [(h2 b).mp z, h3]; simp
  | dct ds =>
    obtain ⟨a, xs, h1, h2, h3, h4⟩ := h
    intro b z; rw [(h2 b).mp z, h3]; simp
theorem FsR.there : ∀ {fs : List (Str × Fv)} {ws : List (Str × V)} {f : Ad}, FsR K B H fs ws f → ∀ b, f b → H b ≠ none
  | [], _, _, h => fun b z => absurd z (h.2 b)
  | (k, x) :: fs, ws, f, h => by
    obtain ⟨y, ys, f1, f2, h1, h2, h3, h4, h5⟩ := h
    intro b z
    rcases (h4 b).mp z with z | z
    · exact h2.there b z
    · exact FsR.there h3 b z
theorem SlotR.there {s : Slot} {w : Option V} {f : Ad} (h : SlotR K B H s w f) : ∀ b, f b → H b ≠ none := by
  cases s with
  | non => exact fun b z => absurd z (h b)
  | imm d => exact fun b z => absurd z (h.1 b)
  | lst ds =>
    obtain ⟨a, xs, h1, h2, h3, h4⟩ := h
    intro b z; rw [(h2 b).mp z, h3]; simp
  | dct ds =>
    obtain ⟨a, xs, h1, h2, h3, h4⟩ := h
    intro b z; rw [(h2 b).mp z, h3]; simp
  | pot gs u c m =>
    obtain ⟨a, g, h1, h2, h3, h4, h5⟩ := h
    intro b z
    rcases (h3 b).mp z with z | z
    · rw [z, h4]; simp
    · rw [z, h5]; simp
  | obj c fs =>
    obtain ⟨a, dx, ws, f2, h1, h2, h3, h4, h5⟩ := h
    intro b z
    rcases (h2 b).mp z with z | z
    · rw [z, h4]; simp
    · exact h5.there b z
  | exn c => exact fun b z => absurd z (h.1 b)
/-- the world changes around the slots: what they own is as it was -/
theorem StF.move (s : StF K fr B σ H ρ fp) (e : Ex B (hid H' (frF fr fp))) (k : ∀ i b, fp i b → H' b = H b) (kf : ∀ b, fr b → H' b = H b) : StF K fr (hid H' (frF fr fp)) σ H' ρ fp where
  len := s.len
  base := rfl
  dis := s.dis
  there := fun i b z => by rw [k i b z]; exact s.there i b z
  frt := fun b z => by rw [kf b z]; exact s.frt b z
  frd := s.frd
  out := s.out
  slot := fun i sl h => let ⟨w, h1, h2⟩ := s.slot i sl h; ⟨w, h1, h2.mono e fun b z => k i b z⟩
theorem hid_upd {P : Ad} {p : Addr} {o : HO} (h : ¬ P p) : hid (upd H p o) P = upd (hid H P) p o := by
  funext b
  by_cases hb : b = p
  · subst hb; rw [hid_at h, upd_same, upd_same]
  · rw [upd_ne hb]
    by_cases q : P b
    · rw [hid_no q, hid_no q]
    · rw [hid_at q, hid_at q, upd_ne hb]
/-- a new object, tracked, no slot's own -/
theorem St.new (s : St K fr B σ H ρ) {p : Addr} {o : HO} (h : H p = none) : St K fr (upd B p o) σ (upd H p o) ρ ∧ To fr B H (upd B p o) (upd H p o) := by
  obtain ⟨fp, s⟩ := s
  have np : ∀ i b, fp i b → b ≠ p := fun i b z q => s.there i b z (by rw [q]; exact h)
  have nf : ∀ b, fr b → b ≠ p := fun b z q => s.frt b z (by rw [q]; exact h)
  have e : hid (upd H p o) (frF fr fp) = upd B p o := by
    rw [hid_upd (fun z => z.elim (fun z => nf p z rfl) fun ⟨i, z⟩ => np i p z rfl), ← s.base]
  have hn := s.sub.none h
  refine ⟨⟨fp, ?_⟩, ⟨fun b u q => by rw [upd_ne (ne_of_none q hn)]; exact q, fun b z => upd_ne (nf b z)⟩⟩
  rw [← e]
  exact s.move (by rw [e]; exact Ex.upd hn) (fun i b z => upd_ne (np i b z)) fun b z => upd_ne (nf b z)
end
end EE
end

section
set_option Elab.async false
set_option linter.all false
set_option maxRecDepth 100000
set_option maxHeartbeats 4000000
/-! E2: slots picked, set, given to a call and taken back -/
namespace EE
open PySem PySem.Spec PyProof.Rows L2
variable [XAd]
section
variable {K : PySem.W.Frag} {B B' H H' : Hp} {σ σ' : L2.St} {ρ ρ' : List Slot} {fp : Nat → Ad} {fr : Ad}

def pickF (fp : Nat → Ad) (src : Nat → Option Nat) (n : Nat) : Nat → Ad := fun i b => i < n ∧ ∃ j, src i = some j ∧ fp j b
/-- some of the slots, in another order, with new immutable ones; what is left out goes to the base -/
theorem StF.pick (s : StF K fr B σ H ρ fp) (src : Nat → Option Nat) (hl : σ'.length = ρ'.length) (inj : ∀ i i' j, src i = some j → src i' = some j → i = i')
    (h : ∀ i sl, ρ'[i]? = some sl → ∃ w, σ'[i]? = some w ∧ ((sl = .non ∧ src i = none) ∨ (∃ d v, sl = .imm d ∧ w = some v ∧ src i = none ∧ Rep K (hid H (frF fr (pickF fp src ρ'.length))) d v) ∨
      ∃ j, src i = some j ∧ ρ[j]? = some sl ∧ σ[j]? = some w)) :
    StF K fr (hid H (frF fr (pickF fp src ρ'.length))) σ' H ρ' (pickF fp src ρ'.length) ∧ Sub B (hid H (frF fr (pickF fp src ρ'.length))) := by
  have sb : Sub B (hid H (frF fr (pickF fp src ρ'.length))) := by
    rw [s.base]
    exact hid_le fun b z => z.elim .inl fun ⟨i, _, j, _, z⟩ => .inr ⟨j, z⟩
  refine ⟨⟨hl, rfl, ?_, ?_, s.frt, ?_, ?_, ?_⟩, sb⟩
  · rintro i j b ⟨_, k, h1, z1⟩ ⟨_, l, h2, z2⟩
    have e := s.dis _ _ _ z1 z2
    subst e
    exact inj _ _ _ h1 h2
  · rintro i b ⟨_, j, _, z⟩
    exact s.there j b z
  · rintro i b ⟨_, j, _, z⟩
    exact s.frd j b z
  · rintro i hi b ⟨h1, _⟩
    omega
  · intro i sl hi
    have lt : i < ρ'.length := (List.getElem?_eq_some_iff.mp hi).1
    obtain ⟨w, h1, h2⟩ := h i sl hi
    refine ⟨w, h1, ?_⟩
    rcases h2 with ⟨rfl, e⟩ | ⟨d, v, rfl, rfl, e, r⟩ | ⟨j, e, h3, h4⟩
    · rintro b ⟨_, j, z, _⟩
      rw [e] at z; cases z
    · exact .imm r fun b ⟨_, j, z, _⟩ => by rw [e] at z; cases z
    · obtain ⟨w', h5, h6⟩ := s.slot j sl h3
      rw [h4] at h5
      cases h5
      have ef : fp j = pickF fp src ρ'.length i := by
        funext b
        apply propext
        constructor
        · intro z; exact ⟨lt, j, e, z⟩
        · rintro ⟨_, k, z1, z2⟩
          rw [e] at z1; cases z1
          exact z2
      rw [← ef]
      exact h6.mono sb.ex fun _ _ => rfl

theorem get_cons {α : Type} {a : α} {l : List α} {i : Nat} : (a :: l)[i + 1]? = l[i]? := rfl
/-- a result goes into slot i -/
theorem St.put {v : V} {r : Slot} {i : Nat} (s : St K fr B (some v :: σ) H (r :: ρ)) (hi : i < ρ.length) : ∃ B', Sub B B' ∧ St K fr B' (σ.set i (some v)) H (ρ.set i r) := by
  obtain ⟨fp, s⟩ := s
  have hl : σ.length = ρ.length := by have := s.len; simpa using this
  have q := s.pick (σ' := σ.set i (some v)) (ρ' := ρ.set i r) (fun j => some (if j = i then 0 else j + 1)) (by simpa using hl) (fun a b j h1 h2 => by
    have h1 := Option.some.inj h1
    have h2 := Option.some.inj h2
    split at h1 <;> split at h2 <;> omega) fun j sl hj => by
      by_cases e : j = i
      · subst e
        rw [List.getElem?_set_self hi] at hj
        cases hj
        exact ⟨some v, List.getElem?_set_self (by rw [hl]; exact hi), .inr (.inr ⟨0, by simp, rfl, rfl⟩)⟩
      · rw [List.getElem?_set_ne (Ne.symm e)] at hj
        obtain ⟨w, h1, _⟩ := s.slot (j + 1) sl (by simpa using hj)
        exact ⟨w, by rw [List.getElem?_set_ne (Ne.symm e)]; simpa using h1, .inr (.inr ⟨j + 1, by simp [e], by simpa using hj, h1⟩)⟩
  exact ⟨_, q.2, _, q.1⟩
def consF (f : Ad) (fp : Nat → Ad) : Nat → Ad
  | 0 => f
  | i + 1 => fp i
def noF : Ad := fun _ => False
/-- an immutable result in front -/
theorem St.push {v : V} {d : D} (s : St K fr B σ H ρ) (r : Rep K B d v) : St K fr B (some v :: σ) H (.imm d :: ρ) := by
  obtain ⟨fp, s⟩ := s
  have ee : frF fr (consF noF fp) = frF fr fp := by
    funext b
    apply propext
    constructor
    · rintro (z | ⟨i, z⟩)
      · exact .inl z
      cases i with
      | zero => exact (show False from z).elim
      | succ i => exact .inr ⟨i, z⟩
    · rintro (z | ⟨i, z⟩)
      · exact .inl z
      · exact .inr ⟨i + 1, z⟩
  refine ⟨consF noF fp, ⟨by simpa using s.len, by rw [s.base, ee], ?_, ?_, s.frt, ?_, ?_, ?_⟩⟩
  · intro i j b
    cases i with
    | zero => exact fun z => (show False from z).elim
    | succ i =>
      cases j with
      | zero => exact fun _ z => (show False from z).elim
      | succ j => exact fun z1 z2 => congrArg (· + 1) (s.dis i j b z1 z2)
  · intro i b
    cases i with
    | zero => exact fun z => (show False from z).elim
    | succ i => exact s.there i b
  · intro i b
    cases i with
    | zero => exact fun z => (show False from z).elim
    | succ i => exact s.frd i b
  · intro i hi b
    cases i with
    | zero => exact fun z => z
    | succ i => exact s.out i (by simpa using hi) b
  · intro i sl hi
    cases i with
    | zero =>
      simp at hi; subst hi
      exact ⟨some v, rfl, .imm r fun _ z => z⟩
    | succ i =>
      obtain ⟨w, h1, h2⟩ := s.slot i sl (by simpa using hi)
      exact ⟨w, by simpa using h1, h2⟩
theorem St.set {v : V} {d : D} {i : Nat} (s : St K fr B σ H ρ) (r : Rep K B d v) (hi : i < ρ.length) : ∃ B', Sub B B' ∧ St K fr B' (σ.set i (some v)) H (ρ.set i (.imm d)) := (s.push r).put hi
/-- the front goes -/
theorem St.pop {w : Option V} {r : Slot} (s : St K fr B (w :: σ) H (r :: ρ)) : ∃ B', Sub B B' ∧ St K fr B' σ H ρ := by
  obtain ⟨fp, s⟩ := s
  have hl : σ.length = ρ.length := by have := s.len; simpa using this
  have q := s.pick (σ' := σ) (ρ' := ρ) (fun j => some (j + 1)) hl (fun a b j h1 h2 => by
    have h1 := Option.some.inj h1
    have h2 := Option.some.inj h2
    omega) fun j sl hj => by
      obtain ⟨w, h1, _⟩ := s.slot (j + 1) sl (by simpa using hj)
      exact ⟨w, by simpa using h1, .inr (.inr ⟨j + 1, rfl, by simpa using hj, h1⟩)⟩
  exact ⟨_, q.2, _, q.1⟩
/-- a slot forgotten -/
theorem St.drop {i : Nat} (s : St K fr B σ H ρ) : ∃ B', Sub B B' ∧ St K fr B' σ H (ρ.set i .non) := by
  obtain ⟨fp, s⟩ := s
  have q := s.pick (σ' := σ) (ρ' := ρ.set i .non) (fun j => if j = i then none else some j) (by simpa using s.len) (fun a b j h1 h2 => by
    split at h1
    · cases h1
    · split at h2
      · cases h2
      · have h1 := Option.some.inj h1
        have h2 := Option.some.inj h2
        omega) fun j sl hj => by
      by_cases e : j = i
      · subst e
        by_cases lt : j < ρ.length
        · rw [List.getElem?_set_self lt] at hj
          cases hj
          have lt2 : j < σ.length := by rw [s.len]; exact lt
          exact ⟨σ[j], by simp [lt2], .inl ⟨rfl, by simp⟩⟩
        · rw [List.getElem?_eq_none (by simpa using lt)] at hj
          cases hj
      · rw [List.getElem?_set_ne (Ne.symm e)] at hj
        obtain ⟨w, h1, _⟩ := s.slot j sl hj
        exact ⟨w, h1, .inr (.inr ⟨j, by simp [e], hj, h1⟩)⟩
  exact ⟨_, q.2, _, q.1⟩
/-- a local list, dict becomes data that stay -/
def frzS : Slot → Slot
  | .lst ds => .imm (.lst ds)
  | .dct kvs => .imm (.dct kvs)
  | s => s
theorem St.freeze {i : Nat} {sl : Slot} (s : St K fr B σ H ρ) (h : ρ[i]? = some sl) : ∃ B', Sub B B' ∧ St K fr B' σ H (ρ.set i (frzS sl)) := by
  obtain ⟨fp, s⟩ := s
  have lt : i < ρ.length := (List.getElem?_eq_some_iff.mp h).1
  have same : frzS sl = sl → ∃ B', Sub B B' ∧ St K fr B' σ H (ρ.set i (frzS sl)) := fun e => by
    rw [e]
    have e2 : ρ.set i sl = ρ := by
      apply List.ext_getElem?
      intro j
      by_cases q : j = i
      · subst q; rw [List.getElem?_set_self lt, h]
      · rw [List.getElem?_set_ne (Ne.symm q)]
    rw [e2]
    exact ⟨B, .refl B, fp, s⟩
  have main : ∀ (d : D) (a : Addr), frzS sl = .imm d → σ[i]? = some (some (.ref a)) → (∀ b, fp i b ↔ b = a) → (∀ B', Sub B B' → B' a = H a → Rep K B' d (.ref a)) → ∃ B', Sub B B' ∧ St K fr B' σ H (ρ.set i (frzS sl)) := by
    intro d a e hw hf hr
    have q := s.pick (σ' := σ) (ρ' := ρ.set i (frzS sl)) (fun j => if j = i then none else some j) (by simpa using s.len) (fun a b j h1 h2 => by
      split at h1
      · cases h1
      · split at h2
        · cases h2
        · have h1 := Option.some.inj h1
          have h2 := Option.some.inj h2
          omega) fun j sl' hj => by
        by_cases ej : j = i
        · subst ej
          rw [List.getElem?_set_self lt] at hj
          cases hj
          refine ⟨_, hw, .inr (.inl ⟨d, _, e, rfl, by simp, ?_⟩)⟩
          refine hr _ ?_ (hid_at ?_)
          · rw [s.base]
            exact hid_le fun b z => z.elim .inl fun ⟨k, _, l, _, z⟩ => .inr ⟨l, z⟩
          · rintro (z | ⟨k, _, l, h1, z⟩)
            · exact s.frd _ a ((hf a).mpr rfl) z
            have hk := s.dis _ _ _ z ((hf a).mpr rfl)
            subst hk
            have h1 : (if k = l then none else some k) = some l := h1
            split at h1
            · cases h1
            · rename_i ne; exact ne (Option.some.inj h1)
        · rw [List.getElem?_set_ne (Ne.symm ej)] at hj
          obtain ⟨w, h1, _⟩ := s.slot j sl' hj
          exact ⟨w, h1, .inr (.inr ⟨j, by simp [ej], hj, h1⟩)⟩
    exact ⟨_, q.2, _, q.1⟩
  obtain ⟨w, h1, h2⟩ := s.slot i sl h
  cases sl with
  | lst ds =>
    obtain ⟨a, xs, rfl, hf, e, r⟩ := h2
    exact main _ a rfl h1 hf fun B' sb e' => .lst (by rw [e', e]) (r.mono sb.ex)
  | dct ds =>
    obtain ⟨a, xs, rfl, hf, e, r⟩ := h2
    exact main _ a rfl h1 hf fun B' sb e' => .dct ⟨_, by rw [e', e], .inl rfl⟩ (r.mono sb.ex)
  | non => exact same rfl
  | imm d => exact same rfl
  | pot gs a b c => exact same rfl
  | obj c fs => exact same rfl
  | exn c => exact same rfl

/-- in front of a callee's footprints: those of the slots that were handed over come back, the others are the caller's -/
def backF (fp : Nat → Ad) (src : Nat → Option Nat) (fp' : Nat → Ad) : Nat → Ad
  | 0 => fp' 0
  | i + 1 => fun b => (∃ k, src k = some i ∧ fp' (k + 1) b) ∨ ((∀ k, src k ≠ some i) ∧ fp i b)
/-- what a caller keeps from its callee -/
def callFr (fr : Ad) (fp : Nat → Ad) (src : Nat → Option Nat) : Ad := fun b => fr b ∨ ∃ i, (∀ k, src k ≠ some i) ∧ fp i b
theorem StF.give (s : StF K fr B σ H ρ fp) {vs : List V} {as : List Slot} (src : Nat → Option Nat) (hl : vs.length = as.length) (inj : ∀ i i' j, src i = some j → src i' = some j → i = i') (hlt : ∀ i j, src i = some j → i < as.length)
    (h : ∀ i sl, as[i]? = some sl → ∃ v, vs[i]? = some v ∧ ((∃ d, sl = .imm d ∧ src i = none ∧ Rep K B d v) ∨ ∃ j, src i = some j ∧ ρ[j]? = some sl ∧ σ[j]? = some (some v))) :
    StF K (callFr fr fp src) B (vs.map some) H as (pickF fp src as.length) := by
  have eb : B = hid H (frF (callFr fr fp src) (pickF fp src as.length)) := by
    rw [s.base]
    congr 1
    funext b
    apply propext
    constructor
    · rintro (z | ⟨i, z⟩)
      · exact .inl (.inl z)
      · by_cases q : ∃ k, src k = some i
        · obtain ⟨k, hk⟩ := q
          exact .inr ⟨k, hlt k i hk, i, hk, z⟩
        · exact .inl (.inr ⟨i, fun k hk => q ⟨k, hk⟩, z⟩)
    · rintro ((z | ⟨i, _, z⟩) | ⟨k, _, i, _, z⟩)
      · exact .inl z
      · exact .inr ⟨i, z⟩
      · exact .inr ⟨i, z⟩
  refine ⟨by simpa using hl, eb, ?_, ?_, ?_, ?_, ?_, ?_⟩
  · rintro i j b ⟨_, k, h1, z1⟩ ⟨_, l, h2, z2⟩
    have e := s.dis _ _ _ z1 z2
    subst e
    exact inj _ _ _ h1 h2
  · rintro i b ⟨_, j, _, z⟩
    exact s.there j b z
  · rintro b (z | ⟨i, _, z⟩)
    · exact s.frt b z
    · exact s.there i b z
  · rintro i b ⟨_, j, h1, z⟩ (q | ⟨l, n, q⟩)
    · exact s.frd j b z q
    · have e := s.dis _ _ _ z q
      subst e
      exact n i h1
  · rintro i hi b ⟨h1, _⟩
    omega
  · intro i sl hi
    have lt : i < as.length := (List.getElem?_eq_some_iff.mp hi).1
    obtain ⟨v, h1, h2⟩ := h i sl hi
    refine ⟨some v, by rw [List.getElem?_map, h1]; rfl, ?_⟩
    rcases h2 with ⟨d, rfl, e, r⟩ | ⟨j, e, h3, h4⟩
    · exact .imm r fun b ⟨_, j, z, _⟩ => by rw [e] at z; cases z
    · obtain ⟨w', h5, h6⟩ := s.slot j sl h3
      rw [h4] at h5
      cases h5
      have ef : fp j = pickF fp src as.length i := by
        funext b
        apply propext
        constructor
        · intro z; exact ⟨lt, j, e, z⟩
        · rintro ⟨_, k, z1, z2⟩
          rw [e] at z1; cases z1
          exact z2
      rw [← ef]
      exact h6
theorem StF.back (s : StF K fr B σ H ρ fp) {vs : List V} {as' : List Slot} {src : Nat → Option Nat} {w : Option V} {r : Slot} {fp' : Nat → Ad} (inj : ∀ i i' j, src i = some j → src i' = some j → i = i')
    (s' : StF K (callFr fr fp src) B' (w :: vs.map some) H' (r :: as') fp') (ee : Ex B B') (tk : ∀ b, callFr fr fp src b → H' b = H b) (hlt : ∀ i j, src i = some j → i < as'.length) {ρ' : List Slot} (hl : ρ'.length = ρ.length)
    (h : ∀ i sl, ρ'[i]? = some sl → (∃ k v, src k = some i ∧ as'[k]? = some sl ∧ vs[k]? = some v ∧ σ[i]? = some (some v)) ∨ ((∀ k, src k ≠ some i) ∧ ρ[i]? = some sl)) (hsrc : ∀ k i, src k = some i → i < ρ.length)
    (hx : ∀ k sl, as'[k]? = some sl → src k = none → ∀ b, ¬ fp' (k + 1) b) :
    StF K fr B' (w :: σ) H' (r :: ρ') (backF fp src fp') := by
  have kf : ∀ i b, (∀ k, src k ≠ some i) → fp i b → H' b = H b := fun i b n z => tk b (.inr ⟨i, n, z⟩)
  refine ⟨?_, ?_, ?_, ?_, ?_, ?_, ?_, ?_⟩
  · simp only [List.length_cons, hl]; rw [s.len]
  · rw [s'.base]
    congr 1
    funext b
    apply propext
    constructor
    · rintro ((z | ⟨i, n, z⟩) | ⟨i, z⟩)
      · exact .inl z
      · exact .inr ⟨i + 1, .inr ⟨n, z⟩⟩
      · cases i with
        | zero => exact .inr ⟨0, z⟩
        | succ k =>
          cases e : src k with
          | some i => exact .inr ⟨i + 1, .inl ⟨k, e, z⟩⟩
          | none =>
            by_cases lt : k < as'.length
            · exact absurd z (hx k as'[k] (by simp [lt]) e b)
            · exact absurd z (s'.out (k + 1) (by simp; omega) b)
    · rintro (z | ⟨i, z⟩)
      · exact .inl (.inl z)
      · cases i with
        | zero => exact .inr ⟨0, z⟩
        | succ i =>
          rcases z with ⟨k, e, z⟩ | ⟨n, z⟩
          · exact .inr ⟨k + 1, z⟩
          · exact .inl (.inr ⟨i, n, z⟩)
  · intro i j b z1 z2
    cases i with
    | zero =>
      cases j with
      | zero => rfl
      | succ j =>
        rcases z2 with ⟨k, _, z2⟩ | ⟨n, z2⟩
        · have := s'.dis _ _ _ z1 z2; omega
        · exact absurd (.inr ⟨j, n, z2⟩) (s'.frd _ b z1)
    | succ i =>
      cases j with
      | zero =>
        rcases z1 with ⟨k, _, z1⟩ | ⟨n, z1⟩
        · have := s'.dis _ _ _ z1 z2; omega
        · exact absurd (.inr ⟨i, n, z1⟩) (s'.frd _ b z2)
      | succ j =>
        rcases z1 with ⟨k, e1, z1⟩ | ⟨n1, z1⟩ <;> rcases z2 with ⟨l, e2, z2⟩ | ⟨n2, z2⟩
        · have := s'.dis _ _ _ z1 z2
          obtain rfl : k = l := by omega
          rw [e1] at e2; cases e2; rfl
        · exact absurd (.inr ⟨j, n2, z2⟩) (s'.frd _ b z1)
        · exact absurd (.inr ⟨i, n1, z1⟩) (s'.frd _ b z2)
        · rw [s.dis _ _ _ z1 z2]
  · intro i b z
    cases i with
    | zero => exact s'.there 0 b z
    | succ i =>
      rcases z with ⟨k, _, z⟩ | ⟨n, z⟩
      · exact s'.there _ b z
      · rw [kf i b n z]; exact s.there i b z
  · intro b z; exact s'.frt b (.inl z)
  · intro i b z q
    cases i with
    | zero => exact s'.frd 0 b z (.inl q)
    | succ i =>
      rcases z with ⟨k, _, z⟩ | ⟨n, z⟩
      · exact s'.frd _ b z (.inl q)
      · exact s.frd i b z q
  · intro i hi b z
    cases i with
    | zero => simp at hi
    | succ i =>
      have hi2 : ρ.length ≤ i := by rw [← hl]; simpa using hi
      rcases z with ⟨k, e, z⟩ | ⟨n, z⟩
      · have := hsrc k i e; omega
      · exact s.out i hi2 b z
  · intro i sl hi
    cases i with
    | zero =>
      simp at hi; subst hi
      obtain ⟨w', h1, h2⟩ := s'.slot 0 r rfl
      simp at h1; subst h1
      exact ⟨w, rfl, h2⟩
    | succ i =>
      have hi2 : ρ'[i]? = some sl := by simpa using hi
      rcases h i sl hi2 with ⟨k, v, e, h1, h2, h3⟩ | ⟨n, h1⟩
      · refine ⟨some v, by simpa using h3, ?_⟩
        obtain ⟨w', h4, h5⟩ := s'.slot (k + 1) sl (by simpa using h1)
        have h4 : (vs.map some)[k]? = some w' := by simpa using h4
        rw [List.getElem?_map, h2] at h4
        cases h4
        have ef : backF fp src fp' (i + 1) = fp' (k + 1) := by
          funext b
          apply propext
          constructor
          · rintro (⟨l, e2, z⟩ | ⟨n, z⟩)
            · rw [inj _ _ _ e e2]; exact z
            · exact absurd e (n k)
          · intro z; exact .inl ⟨k, e, z⟩
        rw [ef]
        exact h5
      · obtain ⟨w', h4, h5⟩ := s.slot i sl h1
        refine ⟨w', by simpa using h4, ?_⟩
        have ef : backF fp src fp' (i + 1) = fp i := by
          funext b
          apply propext
          constructor
          · rintro (⟨l, e2, z⟩ | ⟨_, z⟩)
            · exact absurd e2 (n l)
            · exact z
          · intro z; exact .inr ⟨n, z⟩
        rw [ef]
        exact h5.mono ee fun b z => kf i b n z
end
end EE
end

section
set_option Elab.async false
set_option linter.all false
set_option maxRecDepth 100000
set_option maxHeartbeats 4000000
/-! E3: results, the judgements on expressions and statements -/
namespace EE
open PySem PySem.Spec PyProof.Rows L2
variable [XAd]

inductive Res (α : Type) where
  | ok (a : α) (ρ : List Slot)
  | exc (c : Exn) (ρ : List Slot)
  | bad
abbrev M (α : Type) := List Slot → Res α
def Res.bind {α β : Type} (r : Res α) (f : α → M β) : Res β := match r with
  | .ok a ρ => f a ρ
  | .exc c ρ => .exc c ρ
  | .bad => .bad
def M.bind {α β : Type} (m : M α) (f : α → M β) : M β := fun ρ => (m ρ).bind f
def M.pure {α : Type} (a : α) : M α := fun ρ => .ok a ρ
def M.bad {α : Type} : M α := fun _ => .bad
def M.of {α : Type} (o : Option α) : M α := fun ρ => match o with
  | some a => .ok a ρ
  | none => .bad
/-- the wish about a result; Q: of a good end, W: of an exception -/
def Res.post {α : Type} (r : Res α) (Q : α → List Slot → Prop) (W : Exn → List Slot → Prop) : Prop := match r with
  | .ok a ρ => Q a ρ
  | .exc c ρ => W c ρ
  | .bad => False
theorem Res.post_mono {α : Type} {r : Res α} {Q Q' : α → List Slot → Prop} {W W' : Exn → List Slot → Prop} (h : r.post Q W) (hq : ∀ a ρ, Q a ρ → Q' a ρ) (hw : ∀ c ρ, W c ρ → W' c ρ) : r.post Q' W' := by
  cases r with
  | ok a ρ => exact hq a ρ h
  | exc c ρ => exact hw c ρ h
  | bad => exact h
theorem Res.post_bind {α β : Type} {r : Res α} {f : α → M β} {Q : β → List Slot → Prop} {W : Exn → List Slot → Prop} : (r.bind f).post Q W ↔ r.post (fun a ρ => (f a ρ).post Q W) W := by
  cases r <;> exact Iff.rfl

/-- the wish about exceptions that leave the code, and the slots that are never bound anew (they hold the caller's own objects) -/
structure Wn where
  w : WX
  P : List Nat
structure Pin (P : List Nat) (σ σ' : L2.St) : Prop where
  len : σ'.length = σ.length
  at_ : ∀ i, i ∈ P → σ'[i]? = σ[i]?
theorem Pin.refl {P : List Nat} {σ : L2.St} : Pin P σ σ := ⟨rfl, fun _ _ => rfl⟩
theorem Pin.trans {P : List Nat} {σ σ1 σ2 : L2.St} (a : Pin P σ σ1) (b : Pin P σ1 σ2) : Pin P σ σ2 := ⟨b.len.trans a.len, fun i h => (b.at_ i h).trans (a.at_ i h)⟩
theorem Pin.set {P : List Nat} {σ : L2.St} {i : Nat} {w : Option V} (h : i ∉ P) : Pin P σ (σ.set i w) := ⟨List.length_set, fun j hj => List.getElem?_set_ne fun e => h (by rw [e]; exact hj)⟩
/-- what is asked of a result: Q of its value (a later world is told), W of an exception -/
def Go {α : Type} (K : PySem.W.Frag) (W : Wn) (fr : Ad) (σ : L2.St) (B H : Hp) (r : Res α) (Q : α → List Slot → Prop) : Prop :=
  r.post Q fun c ρ' => ∀ σ' H' B' cls dx, Sub B B' → (∀ b, fr b → H' b = H b) → Pin W.P σ σ' → St K fr B' σ' H' ρ' → ExnR K B' c cls dx → W.w cls dx σ' H'

section
variable {X : Cx} {W : Wn}

/-- an expression whose value is data -/
def DE (X : Cx) (W : Wn) (e : Expr) (m : M D) : Prop :=
  ∃ t : TE, PE X e t ∧ ∀ fr B σ H ρ (Q : VK), St X.K fr B σ H ρ → Go X.K W fr σ B H (m ρ) (fun d ρ' => ∀ v B' H', To fr B H B' H' → St X.K fr B' σ H' ρ' → Rep X.K B' d v → Q v H') → t σ H Q
/-- .. whose value may be an object of one's own -/
def DO (X : Cx) (W : Wn) (e : Expr) (m : M Slot) : Prop :=
  ∃ t : TE, PE X e t ∧ ∀ fr B σ H ρ (Q : VK), St X.K fr B σ H ρ → Go X.K W fr σ B H (m ρ) (fun s ρ' => ∀ v B' H', To fr B H B' H' → St X.K fr B' (some v :: σ) H' (s :: ρ') → Q v H') → t σ H Q
/-- a test -/
def DT (X : Cx) (W : Wn) (e : Expr) (m : M Bool) : Prop :=
  ∃ t : TT, PT X e t ∧ ∀ fr B σ H ρ (Q : Bool → Hp → Prop), St X.K fr B σ H ρ → Go X.K W fr σ B H (m ρ) (fun b ρ' => ∀ B' H', To fr B H B' H' → St X.K fr B' σ H' ρ' → Q b H') → t σ H Q
/-- a chain of and, or -/
def DW (X : Cx) (W : Wn) (e : Expr) (m : M Bool) : Prop :=
  ∃ t : TT, PW X e t ∧ ∀ fr B σ H ρ (Q : Bool → Hp → Prop), St X.K fr B σ H ρ → Go X.K W fr σ B H (m ρ) (fun b ρ' => ∀ B' H', To fr B H B' H' → St X.K fr B' σ H' ρ' → Q b H') → t σ H Q
/-- the arguments of a display, a built-in -/
def DA (X : Cx) (W : Wn) (es : List Expr) (m : M (List D)) : Prop :=
  ∃ t : TA, PA X es t ∧ ∀ fr B σ H ρ (Q : List V → Hp → Prop), St X.K fr B σ H ρ → Go X.K W fr σ B H (m ρ) (fun ds ρ' => ∀ vs B' H', To fr B H B' H' → St X.K fr B' σ H' ρ' → RepL X.K B' ds vs → Q vs H') → t σ H Q
/-- a comparison -/
def DC (X : Cx) (W : Wn) (op : CmpOp) (a b : Expr) (m : M D) : Prop :=
  ∃ t : TE, PC X op a b t ∧ ∀ fr B σ H ρ (Q : VK), St X.K fr B σ H ρ → Go X.K W fr σ B H (m ρ) (fun d ρ' => ∀ v B' H', To fr B H B' H' → St X.K fr B' σ H' ρ' → Rep X.K B' d v → Q v H') → t σ H Q

/-- from one part to the next -/
theorem Go.step {K : PySem.W.Frag} {W : Wn} {fr : Ad} {σ : L2.St} {B H : Hp} {α β : Type} {m : M α} {f : α → M β} {ρ : List Slot} {Q : β → List Slot → Prop} {Q' : α → List Slot → Prop} (h : Go K W fr σ B H ((m.bind f) ρ) Q)
    (k : ∀ a ρ1, Go K W fr σ B H (f a ρ1) Q → Q' a ρ1) : Go K W fr σ B H (m ρ) Q' := by
  unfold Go at h ⊢
  unfold M.bind at h
  rw [Res.post_bind] at h
  exact Res.post_mono h (fun a ρ1 q => k a ρ1 q) fun _ _ z => z
/-- the same asked from a later world -/
theorem Go.later' {K : PySem.W.Frag} {W : Wn} {fr : Ad} {σ σ1 : L2.St} {B H B1 H1 : Hp} {α : Type} {r : Res α} {Q Q' : α → List Slot → Prop} (t : To fr B H B1 H1) (pn : Pin W.P σ σ1) (h : Go K W fr σ B H r Q) (k : ∀ a ρ, Q a ρ → Q' a ρ) : Go K W fr σ1 B1 H1 r Q' :=
  Res.post_mono h k fun c ρ q σ' H' B' cls dx e kf pn' => q σ' H' B' cls dx (t.sub.trans e) (fun b z => (kf b z).trans (t.keep b z)) (pn.trans pn')
theorem Go.later {K : PySem.W.Frag} {W : Wn} {fr : Ad} {σ : L2.St} {B H B1 H1 : Hp} {α : Type} {r : Res α} {Q Q' : α → List Slot → Prop} (t : To fr B H B1 H1) (h : Go K W fr σ B H r Q) (k : ∀ a ρ, Q a ρ → Q' a ρ) : Go K W fr σ B1 H1 r Q' := h.later' t .refl k
theorem Go.pure {K : PySem.W.Frag} {W : Wn} {fr : Ad} {σ : L2.St} {B H : Hp} {α : Type} {a : α} {ρ : List Slot} {Q : α → List Slot → Prop} (h : Go K W fr σ B H ((M.pure a) ρ) Q) : Q a ρ := h
theorem Go.of {K : PySem.W.Frag} {W : Wn} {fr : Ad} {σ : L2.St} {B H : Hp} {α : Type} {o : Option α} {ρ : List Slot} {Q : α → List Slot → Prop} (h : Go K W fr σ B H ((M.of o) ρ) Q) : ∃ a, o = some a ∧ Q a ρ := by
  cases o with
  | none => exact False.elim h
  | some a => exact ⟨a, rfl, h⟩

/-! ### names, constants -/
def mVar (i : Nat) : M D := fun ρ => match ρ[i]? with
  | some (.imm d) => .ok d ρ
  | _ => .bad
theorem de_var (i : Nat) {x : Str} {pos : Pos} (hN : X.N[i]? = some x := by rfl) (hv : Vis X.env.scope x := by first | exact Or.inl rfl | exact Or.inr (Or.inl rfl) | exact Or.inr (Or.inr rfl)) (hd : (x == ("__debug__" : Str)) = false := by decide)
    (hcd : (x == ("__classdict__" : Str)) = false := by decide) : DE X W (.Name x pos) (mVar i) := by
  refine ⟨_, pe_var hN hv hd hcd, fun fr B σ H ρ Q s h => ?_⟩
  unfold Go mVar at h
  cases e : ρ[i]? with
  | none => rw [e] at h; exact h.elim
  | some sl =>
    rw [e] at h
    cases sl with
    | imm d =>
      obtain ⟨fp, s⟩ := s
      obtain ⟨v, h1, h2⟩ := s.imm e
      exact ⟨v, h1, h v B H .refl ⟨fp, s⟩ h2⟩
    | _ => exact h.elim
theorem de_c {d : D} {e : Expr} {v : V} (h : PE X e (tC v)) (r : ∀ B, Rep X.K B d v) : DE X W e (M.pure d) :=
  ⟨_, h, fun fr B σ H ρ Q s h => Go.pure h v B H .refl s (r B)⟩
theorem de_int {i j pos} : DE X W (.Constant (.int i) j pos) (M.pure (.int i)) := de_c pe_int fun _ => .int
theorem de_bl {i j pos} : DE X W (.Constant (.bool i) j pos) (M.pure (.bl i)) := de_c pe_bl fun _ => .bl
theorem de_non {j pos} : DE X W (.Constant .none j pos) (M.pure .non) := de_c pe_non fun _ => .non
theorem de_str {i j pos} : DE X W (.Constant (.str i) j pos) (M.pure (.str i)) := de_c pe_str fun _ => .str

/-! ### operators on data -/
/-- an operation gives d: it makes at most one new object -/
inductive Al (B H : Hp) : Hp → Hp → Prop where
  | same : Al B H B H
  | new {p : Addr} {o : HO} (h : H p = none) : Al B H (upd B p o) (upd H p o)
theorem Al.st {K : PySem.W.Frag} {fr : Ad} {B H B' H' : Hp} {σ : L2.St} {ρ : List Slot} (a : Al B H B' H') (s : St K fr B σ H ρ) : St K fr B' σ H' ρ ∧ To fr B H B' H' := by
  cases a with
  | same => exact ⟨s, .refl⟩
  | new h => exact s.new h
def Op2 (X : Cx) (r : R2) (f : D → D → Option D) : Prop :=
  ∀ (B H : Hp) (a b d : D) (x y : V) (Q : VK), Sub B H → Rep X.K B a x → Rep X.K B b y → f a b = some d → (∀ v B' H', Al B H B' H' → Rep X.K B' d v → Q v H') → r x y H Q
def Op1 (X : Cx) (r : V → Hp → VK → Prop) (f : D → Option D) : Prop :=
  ∀ (B H : Hp) (a d : D) (x : V) (Q : VK), Sub B H → Rep X.K B a x → f a = some d → (∀ v B' H', Al B H B' H' → Rep X.K B' d v → Q v H') → r x H Q
def OpN (X : Cx) (r : List V → Hp → VK → Prop) (f : List D → Option D) : Prop :=
  ∀ (B H : Hp) (as : List D) (d : D) (xs : List V) (Q : VK), Sub B H → RepL X.K B as xs → f as = some d → (∀ v B' H', Al B H B' H' → Rep X.K B' d v → Q v H') → r xs H Q
def m2 (f : D → D → Option D) (ma mb : M D) : M D := ma.bind fun a => mb.bind fun b => M.of (f a b)
def m1 (f : D → Option D) (ma : M D) : M D := ma.bind fun a => M.of (f a)
def mN (f : List D → Option D) (ma : M (List D)) : M D := ma.bind fun a => M.of (f a)
section
variable {a b : Expr} {ma mb : M D} {pos : Pos}
theorem run2 {r : R2} {f : D → D → Option D} {ta tb : TE} (ho : Op2 X r f)
    (ha : ∀ fr B σ H ρ (Q : VK), St X.K fr B σ H ρ → Go X.K W fr σ B H (ma ρ) (fun d ρ' => ∀ v B' H', To fr B H B' H' → St X.K fr B' σ H' ρ' → Rep X.K B' d v → Q v H') → ta σ H Q)
    (hb : ∀ fr B σ H ρ (Q : VK), St X.K fr B σ H ρ → Go X.K W fr σ B H (mb ρ) (fun d ρ' => ∀ v B' H', To fr B H B' H' → St X.K fr B' σ H' ρ' → Rep X.K B' d v → Q v H') → tb σ H Q) :
    ∀ fr B σ H ρ (Q : VK), St X.K fr B σ H ρ → Go X.K W fr σ B H (m2 f ma mb ρ) (fun d ρ' => ∀ v B' H', To fr B H B' H' → St X.K fr B' σ H' ρ' → Rep X.K B' d v → Q v H') → tOp r ta tb σ H Q := by
  intro fr B σ H ρ Q s h
  refine ha fr B σ H ρ _ s (h.step fun d1 ρ1 h x B1 H1 t1 s1 r1 => ?_)
  refine hb fr B1 σ H1 ρ1 _ s1 (Go.step (h.later t1 fun _ _ q => q) fun d2 ρ2 h y B2 H2 t2 s2 r2 => ?_)
  obtain ⟨d, e, q⟩ := h.of
  refine ho B2 H2 d1 d2 d x y Q s2.sub (r1.mono t2.sub.ex) r2 e fun v B3 H3 al r3 => ?_
  obtain ⟨s3, t3⟩ := al.st s2
  exact q v B3 H3 ((t1.trans t2).trans t3) s3 r3
theorem de_op {op : Operator} {r : R2} {f : D → D → Option D} (hr : OpR X (binaryOp op) r) (ho : Op2 X r f) (ha : DE X W a ma) (hb : DE X W b mb) : DE X W (.BinOp a op b pos) (m2 f ma mb) := by
  obtain ⟨ta, pa, ka⟩ := ha
  obtain ⟨tb, pb, kb⟩ := hb
  exact ⟨_, pe_op hr pa pb, run2 ho ka kb⟩
theorem de_cmp {op : CmpOp} {r : R2} {f : D → D → Option D} (hr : OpR X (compareOp op) r) (ho : Op2 X r f) (ha : DE X W a ma) (hb : DE X W b mb) (hm : behindInMarks op b = false := by first | exact nobehind _ (by decide) (by decide) | rfl) : DE X W (.Compare a [op] [b] pos) (m2 f ma mb) := by
  obtain ⟨ta, pa, ka⟩ := ha
  obtain ⟨tb, pb, kb⟩ := hb
  exact ⟨_, pe_cmpR hr pa pb hm, run2 ho ka kb⟩
theorem de_ix {r : R2} {f : D → D → Option D} (hr : IxR X r) (ho : Op2 X r f) (ha : DE X W a ma) (hb : DE X W b mb) (hs : PlainIx b := by exact fun _ _ => rfl) : DE X W (.Subscript a b pos) (m2 f ma mb) := by
  obtain ⟨ta, pa, ka⟩ := ha
  obtain ⟨tb, pb, kb⟩ := hb
  exact ⟨_, pe_ix hr pa pb hs, run2 ho ka kb⟩
theorem run1 {r : V → Hp → VK → Prop} {f : D → Option D} {ta : TE} (ho : Op1 X r f)
    (ha : ∀ fr B σ H ρ (Q : VK), St X.K fr B σ H ρ → Go X.K W fr σ B H (ma ρ) (fun d ρ' => ∀ v B' H', To fr B H B' H' → St X.K fr B' σ H' ρ' → Rep X.K B' d v → Q v H') → ta σ H Q) :
    ∀ fr B σ H ρ (Q : VK), St X.K fr B σ H ρ → Go X.K W fr σ B H (m1 f ma ρ) (fun d ρ' => ∀ v B' H', To fr B H B' H' → St X.K fr B' σ H' ρ' → Rep X.K B' d v → Q v H') → tUn r ta σ H Q := by
  intro fr B σ H ρ Q s h
  refine ha fr B σ H ρ _ s (h.step fun d1 ρ1 h x B1 H1 t1 s1 r1 => ?_)
  obtain ⟨d, e, q⟩ := h.of
  refine ho B1 H1 d1 d x Q s1.sub r1 e fun v B3 H3 al r3 => ?_
  obtain ⟨s3, t3⟩ := al.st s1
  exact q v B3 H3 (t1.trans t3) s3 r3
theorem de_un {op : UnaryOp} {r : V → Hp → VK → Prop} {f : D → Option D} (hr : UnR X (unaryOp op) r) (ho : Op1 X r f) (ha : DE X W a ma) : DE X W (.UnaryOp op a pos) (m1 f ma) := by
  obtain ⟨ta, pa, ka⟩ := ha
  exact ⟨_, pe_un hr pa, run1 ho ka⟩

/-! ### arguments -/
theorem da_nil : DA X W [] (M.pure []) := ⟨_, pa_nil, fun fr B σ H ρ Q s h => Go.pure h [] B H .refl s .nil⟩
theorem da_cons {es : List Expr} {ms : M (List D)} (ha : DE X W a ma) (hr : DA X W es ms) (hs : starEach (a :: es) X.env = (false, eval a X.env) :: starEach es X.env := by rfl) :
    DA X W (a :: es) (ma.bind fun d => ms.bind fun ds => M.pure (d :: ds)) := by
  obtain ⟨ta, pa, ka⟩ := ha
  obtain ⟨tr, pr, kr⟩ := hr
  refine ⟨_, pa_cons pa pr hs, fun fr B σ H ρ Q s h => ?_⟩
  refine ka fr B σ H ρ _ s (h.step fun d1 ρ1 h x B1 H1 t1 s1 r1 => ?_)
  refine kr fr B1 σ H1 ρ1 _ s1 (Go.step (h.later t1 fun _ _ q => q) fun ds ρ2 h xs B2 H2 t2 s2 r2 => ?_)
  exact h (x :: xs) B2 H2 (t1.trans t2) s2 (.cons (r1.mono t2.sub.ex) r2)
def okSz (ds : List D) : Prop := ds.length ≤ 1000000
instance (ds : List D) : Decidable (okSz ds) := inferInstanceAs (Decidable (_ ≤ _))
theorem okSz.line {ds : List D} (h : okSz ds) : ds.length ≤ sizeLine := Nat.le_trans h (by decide)
def fTup (ds : List D) : Option D := if okSz ds then some (.tup ds) else none
def fLst (ds : List D) : Option D := if okSz ds then some (.lst ds) else none
theorem fTup_inv {ds : List D} {d : D} (h : fTup ds = some d) : okSz ds ∧ d = .tup ds := by
  unfold fTup at h
  split at h
  · cases h; exact ⟨by assumption, rfl⟩
  · cases h
theorem fLst_inv {ds : List D} {d : D} (h : fLst ds = some d) : okSz ds ∧ d = .lst ds := by
  unfold fLst at h
  split at h
  · cases h; exact ⟨by assumption, rfl⟩
  · cases h
variable {es : List Expr} {ms : M (List D)}
theorem de_tup {x1} (h : DA X W es ms) : DE X W (.Tuple es x1 pos) (mN fTup ms) := by
  obtain ⟨t, p, k⟩ := h
  refine ⟨_, pe_tup p, fun fr B σ H ρ Q s h => ?_⟩
  refine k fr B σ H ρ _ s (h.step fun ds ρ1 h xs B1 H1 t1 s1 r1 => ?_)
  obtain ⟨d, e, q⟩ := h.of
  obtain ⟨hz, rfl⟩ := fTup_inv e
  refine ⟨by rw [r1.length]; exact hz.line, fun p hp => ?_⟩
  obtain ⟨s2, t2⟩ := s1.new (o := .tup xs) hp
  exact q _ _ _ (t1.trans t2) s2 (.tup (.inl (.inl upd_same)) (r1.mono t2.sub.ex))
theorem de_lst (h : DA X W es ms) : DE X W (.List es pos) (mN fLst ms) := by
  obtain ⟨t, p, k⟩ := h
  refine ⟨_, pe_lst p, fun fr B σ H ρ Q s h => ?_⟩
  refine k fr B σ H ρ _ s (h.step fun ds ρ1 h xs B1 H1 t1 s1 r1 => ?_)
  obtain ⟨d, e, q⟩ := h.of
  obtain ⟨hz, rfl⟩ := fLst_inv e
  refine ⟨by rw [r1.length]; exact hz.line, fun p hp => ?_⟩
  obtain ⟨s2, t2⟩ := s1.new (o := .lst xs) hp
  exact q _ _ _ (t1.trans t2) s2 (.lst upd_same (r1.mono t2.sub.ex))
/-- a built-in, a built-in class called -/
theorem de_callB {id : String} {x : Str} {p : Pos} {r : List V → Hp → VK → Prop} {f : List D → Option D} (hc : CallR X (.builtin id) r) (ho : OpN X r f) (hg : Gl X x) (hm : X.mg x = none) (hv : bootBuiltins x = some (.builtin id)) (ha : DA X W (a :: es) ms)
    (hn : x ≠ "__name__" := by decide) (hdb : (x == ("__debug__" : Str)) = false := by decide) (he : starEach (a :: es) X.env = (false, eval a X.env) :: starEach es X.env := by rfl) (hpl : (backTo pos (starEach es X.env)).any (·.1) = false := by rfl) :
    DE X W (.Call (.Name x p) (a :: es) [] pos) (mN f ms) := by
  obtain ⟨t, pa, k⟩ := ha
  refine ⟨_, pe_callB hc hg hm hv pa hn hdb he hpl, fun fr B σ H ρ Q s h => ?_⟩
  refine k fr B σ H ρ _ s (h.step fun ds ρ1 h xs B1 H1 t1 s1 r1 => ?_)
  obtain ⟨d, e, q⟩ := h.of
  refine ho B1 H1 ds d xs Q s1.sub r1 e fun v B3 H3 al r3 => ?_
  obtain ⟨s3, t3⟩ := al.st s1
  exact q v B3 H3 (t1.trans t3) s3 r3
theorem de_callTy {T : String} {x : Str} {p : Pos} {r : List V → Hp → VK → Prop} {f : List D → Option D} (hc : CallR X (.type T) r) (ho : OpN X r f) (hg : Gl X x) (hm : X.mg x = none) (hv : bootBuiltins x = some (.type T)) (ha : DA X W (a :: es) ms)
    (hn : x ≠ "__name__" := by decide) (hdb : (x == ("__debug__" : Str)) = false := by decide) (he : starEach (a :: es) X.env = (false, eval a X.env) :: starEach es X.env := by rfl) (hpl : (backTo pos (starEach es X.env)).any (·.1) = false := by rfl) :
    DE X W (.Call (.Name x p) (a :: es) [] pos) (mN f ms) := by
  obtain ⟨t, pa, k⟩ := ha
  refine ⟨_, pe_callTy hc hg hm hv pa hn hdb he hpl, fun fr B σ H ρ Q s h => ?_⟩
  refine k fr B σ H ρ _ s (h.step fun ds ρ1 h xs B1 H1 t1 s1 r1 => ?_)
  obtain ⟨d, e, q⟩ := h.of
  refine ho B1 H1 ds d xs Q s1.sub r1 e fun v B3 H3 al r3 => ?_
  obtain ⟨s3, t3⟩ := al.st s1
  exact q v B3 H3 (t1.trans t3) s3 r3
end
end
end EE
end

section
set_option Elab.async false
set_option linter.all false
set_option maxRecDepth 100000
set_option maxHeartbeats 4000000
/-! E4: statements, targets, loops, the slots' own objects -/
namespace EE
open PySem PySem.Spec PyProof.Rows L2
variable [XAd]

section
variable {K : PySem.W.Frag} {B B' H H' : Hp} {σ σ' : L2.St} {ρ ρ' : List Slot} {fp : Nat → Ad} {fr : Ad}
/-- a slot's own object changes in place -/
theorem StF.upd (s : StF K fr B σ H ρ fp) {i : Nat} {s' : Slot} {w : Option V} (hi : i < ρ.length) (hw : σ[i]? = some w) (out : ∀ b, ¬ fp i b → H' b = H b) (th : ∀ b, fp i b → H' b ≠ none) (h : SlotR K B H' s' w (fp i)) :
    StF K fr B σ H' (ρ.set i s') fp ∧ To fr B H B H' := by
  have kf : ∀ b, fr b → H' b = H b := fun b z => out b fun q => s.frd i b q z
  have eb : B = hid H' (frF fr fp) := by
    rw [s.base]
    funext b
    by_cases q : frF fr fp b
    · rw [hid_no q, hid_no q]
    · rw [hid_at q, hid_at q, out b fun z => q (.inr ⟨i, z⟩)]
  refine ⟨⟨by simpa using s.len, eb, s.dis, ?_, ?_, s.frd, by simpa using s.out, ?_⟩, ⟨.refl B, kf⟩⟩
  · intro j b z
    by_cases q : fp i b
    · exact th b q
    · rw [out b q]; exact s.there j b z
  · intro b z
    rw [kf b z]; exact s.frt b z
  · intro j sl hj
    by_cases e : j = i
    · subst e
      rw [List.getElem?_set_self hi] at hj
      cases hj
      exact ⟨w, hw, h⟩
    · rw [List.getElem?_set_ne (Ne.symm e)] at hj
      obtain ⟨w', h1, h2⟩ := s.slot j sl hj
      exact ⟨w', h1, h2.mono (Ex.refl B) fun b z => out b fun q => e (s.dis _ _ _ z q)⟩
theorem St.updL (s : St K fr B σ H ρ) {i : Nat} {ds ds' : List D} (h : ρ[i]? = some (.lst ds)) : ∃ a xs, σ[i]? = some (some (.ref a)) ∧ H a = some (.lst xs) ∧ RepL K B ds xs ∧
    ∀ xs', RepL K B ds' xs' → St K fr B σ (upd H a (.lst xs')) (ρ.set i (.lst ds')) ∧ To fr B H B (upd H a (.lst xs')) := by
  obtain ⟨fp, s⟩ := s
  have lt : i < ρ.length := (List.getElem?_eq_some_iff.mp h).1
  obtain ⟨w, h1, a, xs, rfl, h2, h3, h4⟩ := s.slot i _ h
  refine ⟨a, xs, h1, h3, h4, fun xs' r => ?_⟩
  obtain ⟨q1, q2⟩ := s.upd (H' := upd H a (.lst xs')) (s' := .lst ds') lt h1 (fun b n => upd_ne fun e => n ((h2 b).mpr e)) (fun b z => by rw [(h2 b).mp z, upd_same]; simp) ⟨a, xs', rfl, h2, upd_same, r⟩
  exact ⟨⟨fp, q1⟩, q2⟩
theorem St.updK (s : St K fr B σ H ρ) {i : Nat} {ds ds' : List (Key × D)} (h : ρ[i]? = some (.dct ds)) : ∃ a xs, σ[i]? = some (some (.ref a)) ∧ H a = some (.dK xs) ∧ RepK K B ds xs ∧
    ∀ xs', RepK K B ds' xs' → St K fr B σ (upd H a (.dK xs')) (ρ.set i (.dct ds')) ∧ To fr B H B (upd H a (.dK xs')) := by
  obtain ⟨fp, s⟩ := s
  have lt : i < ρ.length := (List.getElem?_eq_some_iff.mp h).1
  obtain ⟨w, h1, a, xs, rfl, h2, h3, h4⟩ := s.slot i _ h
  refine ⟨a, xs, h1, h3, h4, fun xs' r => ?_⟩
  obtain ⟨q1, q2⟩ := s.upd (H' := upd H a (.dK xs')) (s' := .dct ds') lt h1 (fun b n => upd_ne fun e => n ((h2 b).mpr e)) (fun b z => by rw [(h2 b).mp z, upd_same]; simp) ⟨a, xs', rfl, h2, upd_same, r⟩
  exact ⟨⟨fp, q1⟩, q2⟩
/-- a new object as one's own result -/
theorem St.own (s : St K fr B σ H ρ) {p : Addr} {o : HO} {sl : Slot} (h : H p = none) (hs : SlotR K B (upd H p o) sl (some (.ref p)) (fun b => b = p)) : St K fr B (some (.ref p) :: σ) (upd H p o) (sl :: ρ) ∧ To fr B H B (upd H p o) := by
  obtain ⟨fp, s⟩ := s
  have np : ∀ i b, fp i b → b ≠ p := fun i b z q => s.there i b z (by rw [q]; exact h)
  have nf : ∀ b, fr b → b ≠ p := fun b z q => s.frt b z (by rw [q]; exact h)
  have eb : B = hid (upd H p o) (frF fr (consF (fun b => b = p) fp)) := by
    rw [s.base]
    funext b
    by_cases e : b = p
    · subst e
      rw [hid_no (P := frF fr (consF (fun b' => b' = b) fp)) (.inr ⟨0, rfl⟩)]
      by_cases q : frF fr fp b
      · exact hid_no q
      · rw [hid_at q]; exact h
    · by_cases q : frF fr fp b
      · rw [hid_no q, hid_no (q.elim .inl fun ⟨i, z⟩ => .inr ⟨i + 1, z⟩)]
      · rw [hid_at q, hid_at ?_, upd_ne e]
        rintro (z | ⟨i, z⟩)
        · exact q (.inl z)
        · cases i with
          | zero => exact e z
          | succ i => exact q (.inr ⟨i, z⟩)
  refine ⟨⟨consF (fun b => b = p) fp, ⟨by simpa using s.len, eb, ?_, ?_, ?_, ?_, ?_, ?_⟩⟩, ⟨.refl B, fun b z => upd_ne (nf b z)⟩⟩
  · intro i j b z1 z2
    cases i with
    | zero =>
      cases j with
      | zero => rfl
      | succ j => exact absurd z1 (np j b z2)
    | succ i =>
      cases j with
      | zero => exact absurd z2 (np i b z1)
      | succ j => exact congrArg (· + 1) (s.dis i j b z1 z2)
  · intro i b z
    cases i with
    | zero => rw [show b = p from z, upd_same]; simp
    | succ i => rw [upd_ne (np i b z)]; exact s.there i b z
  · intro b z
    rw [upd_ne (nf b z)]; exact s.frt b z
  · intro i b z q
    cases i with
    | zero => exact nf b q z
    | succ i => exact s.frd i b z q
  · intro i hi b z
    cases i with
    | zero => simp at hi
    | succ i => exact s.out i (by simpa using hi) b z
  · intro i sl' hi
    cases i with
    | zero =>
      simp at hi; subst hi
      exact ⟨_, rfl, hs⟩
    | succ i =>
      obtain ⟨w, h1, h2⟩ := s.slot i sl' (by simpa using hi)
      exact ⟨w, by simpa using h1, h2.mono (Ex.refl B) fun b z => upd_ne (np i b z)⟩
/-- a slot's own object handed out -/
theorem St.take (s : St K fr B σ H ρ) {i : Nat} {sl : Slot} (h : ρ[i]? = some sl) : ∃ w, σ[i]? = some w ∧ ∃ B', Sub B B' ∧ St K fr B' (w :: σ) H (sl :: ρ.set i .non) := by
  obtain ⟨fp, s⟩ := s
  have lt : i < ρ.length := (List.getElem?_eq_some_iff.mp h).1
  obtain ⟨w, h1, _⟩ := s.slot i sl h
  refine ⟨w, h1, ?_⟩
  have q := s.pick (σ' := w :: σ) (ρ' := sl :: ρ.set i .non) (fun j => match j with | 0 => some i | j + 1 => if j = i then none else some j) (by simpa using s.len) (fun a b j h1 h2 => by
    cases a with
    | zero =>
      cases b with
      | zero => rfl
      | succ b =>
        have h1 := Option.some.inj h1
        have h2 : (if b = i then none else some b) = some j := h2
        split at h2
        · cases h2
        · have h2 := Option.some.inj h2; omega
    | succ a =>
      cases b with
      | zero =>
        have h2 := Option.some.inj h2
        have h1 : (if a = i then none else some a) = some j := h1
        split at h1
        · cases h1
        · have h1 := Option.some.inj h1; omega
      | succ b =>
        have h1 : (if a = i then none else some a) = some j := h1
        have h2 : (if b = i then none else some b) = some j := h2
        split at h1
        · cases h1
        · split at h2
          · cases h2
          · have h1 := Option.some.inj h1
            have h2 := Option.some.inj h2
            omega) fun j sl' hj => by
      cases j with
      | zero =>
        simp at hj; subst hj
        exact ⟨w, rfl, .inr (.inr ⟨i, rfl, h, h1⟩)⟩
      | succ j =>
        have hj : (ρ.set i .non)[j]? = some sl' := by simpa using hj
        by_cases e : j = i
        · subst e
          rw [List.getElem?_set_self lt] at hj
          cases hj
          exact ⟨w, by simpa using h1, .inl ⟨rfl, by simp⟩⟩
        · rw [List.getElem?_set_ne (Ne.symm e)] at hj
          obtain ⟨w', h3, _⟩ := s.slot j sl' hj
          exact ⟨w', by simpa using h3, .inr (.inr ⟨j, by simp [e], hj, h3⟩)⟩
  exact ⟨_, q.2, _, q.1⟩
end

/-! ### statements -/
inductive Fl where
  | nx | rt (r : Slot) | bk | ct
def OkS (K : PySem.W.Frag) (W : Wn) (fr : Ad) (σ : L2.St) (B H : Hp) (D : L2.Ends) (fl : Fl) (ρ' : List Slot) : Prop :=
  ∀ σ' B' H', To fr B H B' H' → Pin W.P σ σ' → match fl with
    | .nx => St K fr B' σ' H' ρ' → D.nx σ' H'
    | .bk => St K fr B' σ' H' ρ' → D.bk σ' H'
    | .ct => St K fr B' σ' H' ρ' → D.ct σ' H'
    | .rt r => ∀ v, St K fr B' (some v :: σ') H' (r :: ρ') → D.rt v H'
theorem OkS.later {K : PySem.W.Frag} {W : Wn} {fr : Ad} {σ σ1 : L2.St} {B H B1 H1 : Hp} {D : L2.Ends} {fl : Fl} {ρ' : List Slot} (h : OkS K W fr σ B H D fl ρ') (t : To fr B H B1 H1) (p : Pin W.P σ σ1) : OkS K W fr σ1 B1 H1 D fl ρ' :=
  fun σ' B' H' t' p' => h σ' B' H' (t.trans t') (p.trans p')
section
variable {X : Cx} {W : Wn}
def DS (X : Cx) (W : Wn) (st : Stmt) (m : M Fl) : Prop :=
  ∃ t : TS, PS X st t ∧ ∀ fr B σ H ρ (D : L2.Ends), St X.K fr B σ H ρ → Go X.K W fr σ B H (m ρ) (OkS X.K W fr σ B H D) → t D σ H
def DSs (X : Cx) (W : Wn) (sts : List Stmt) (m : M Fl) : Prop :=
  ∃ t : TS, PSs X sts t ∧ ∀ fr B σ H ρ (D : L2.Ends), St X.K fr B σ H ρ → Go X.K W fr σ B H (m ρ) (OkS X.K W fr σ B H D) → t D σ H
/-- a target -/
def DG (X : Cx) (W : Wn) (tg : Expr) (m : D → M Unit) : Prop :=
  ∃ g : TG, PG X tg g ∧ ∀ fr B σ H ρ d v (Q : L2.St → Hp → Prop), St X.K fr B σ H ρ → Rep X.K B d v → Go X.K W fr σ B H (m d ρ) (fun _ ρ' => ∀ σ' B' H', To fr B H B' H' → Pin W.P σ σ' → St X.K fr B' σ' H' ρ' → Q σ' H') → g v σ H Q
def DGs (X : Cx) (W : Wn) (tgs : List Expr) (m : List D → M Unit) : Prop :=
  ∃ g : TGs, PGs X tgs g ∧ ∀ fr B σ H ρ ds vs (Q : L2.St → Hp → Prop), St X.K fr B σ H ρ → RepL X.K B ds vs → Go X.K W fr σ B H (m ds ρ) (fun _ ρ' => ∀ σ' B' H', To fr B H B' H' → Pin W.P σ σ' → St X.K fr B' σ' H' ρ' → Q σ' H') → g vs σ H Q

def mNx : M Fl := M.pure .nx
def mSeq (m n : M Fl) : M Fl := m.bind fun fl => match fl with
  | .nx => n
  | fl => M.pure fl
def mPut (i : Nat) (s : Slot) : M Unit := fun ρ => if i < ρ.length then .ok () (ρ.set i s) else .bad
def mThen (m : M Unit) : M Fl := m.bind fun _ => mNx
theorem Go.put {K : PySem.W.Frag} {W : Wn} {fr : Ad} {σ : L2.St} {B H : Hp} {i : Nat} {s : Slot} {ρ : List Slot} {Q : Unit → List Slot → Prop} (h : Go K W fr σ B H (mPut i s ρ) Q) : i < ρ.length ∧ Q () (ρ.set i s) := by
  unfold mPut at h
  by_cases lt : i < ρ.length
  · rw [if_pos lt] at h; exact ⟨lt, h⟩
  · rw [if_neg lt] at h; exact h.elim
theorem dss_nil : DSs X W [] mNx := ⟨_, pss_nil, fun fr B σ H ρ D s h => (Go.pure h) σ B H .refl .refl s⟩
theorem dss_cons {st : Stmt} {sts : List Stmt} {m n : M Fl} (h1 : DS X W st m) (h2 : DSs X W sts n) : DSs X W (st :: sts) (mSeq m n) := by
  obtain ⟨t, p, k⟩ := h1
  obtain ⟨u, q, l⟩ := h2
  refine ⟨_, pss_cons p q, fun fr B σ H ρ D s h => ?_⟩
  refine k fr B σ H ρ _ s (h.step fun fl ρ1 h => ?_)
  cases fl with
  | nx => exact fun σ1 B1 H1 t1 p1 s1 => l fr B1 σ1 H1 ρ1 D s1 (h.later' t1 p1 fun fl ρ' q => q.later t1 p1)
  | bk => exact h
  | ct => exact h
  | rt r => exact h
theorem dss_one {st : Stmt} {m : M Fl} (h1 : DS X W st m) : DSs X W [st] m := by
  obtain ⟨t, p, k⟩ := h1
  exact ⟨_, pss_one p, k⟩
theorem ds_pass {pos} : DS X W (.Pass pos) mNx := ⟨_, ps_pass, fun fr B σ H ρ D s h => (Go.pure h) σ B H .refl .refl s⟩
theorem ds_doc {x j pos pos'} : DS X W (.Expr (.Constant (.str x) j pos) pos') mNx := ⟨_, ps_doc, fun fr B σ H ρ D s h => (Go.pure h) σ B H .refl .refl s⟩
theorem ds_break {pos} : DS X W (.Break pos) (M.pure .bk) := ⟨_, ps_break, fun fr B σ H ρ D s h => (Go.pure h) σ B H .refl .refl s⟩
theorem ds_continue {pos} : DS X W (.Continue pos) (M.pure .ct) := ⟨_, ps_continue, fun fr B σ H ρ D s h => (Go.pure h) σ B H .refl .refl s⟩
/-! targets -/
theorem dg_name (i : Nat) {x : Str} {pos : Pos} (hN : X.N.Nodup) (hi : X.N[i]? = some x := by rfl) (hx : Loc X.env.scope x := by first | exact Or.inl rfl | exact Or.inr rfl) (hf : X.fn x = true ∨ X.env.scope.names.lookup x = some .local := by first | exact .inl rfl | exact .inr rfl)
    (hp : i ∉ W.P := by decide) : DG X W (.Name x pos) (fun d => mPut i (.imm d)) := by
  refine ⟨_, pg_name hN hi hx hf, fun fr B σ H ρ d v Q s r h => ?_⟩
  obtain ⟨lt, h⟩ := h.put
  obtain ⟨B', sb, s'⟩ := s.set r lt
  exact h _ B' H (.of sb) (Pin.set hp) s'
theorem dgs_nil : DGs X W [] (fun ds => match ds with | [] => M.pure () | _ => M.bad) := by
  refine ⟨_, pgs_nil, fun fr B σ H ρ ds vs Q s r h => ?_⟩
  cases ds with
  | nil => exact ⟨r.nil_inv, h σ B H .refl .refl s⟩
  | cons d ds => exact h.elim
theorem dgs_cons {e : Expr} {es : List Expr} {m : D → M Unit} {ms : List D → M Unit} (h1 : DG X W e m) (h2 : DGs X W es ms)
    (hs : (assignEach (e :: es) X.env).map (·.2) = assign e X.env :: (assignEach es X.env).map (·.2) := by rfl) : DGs X W (e :: es) (fun ds => match ds with | [] => M.bad | d :: ds => (m d).bind fun _ => ms ds) := by
  obtain ⟨t, p, k⟩ := h1
  obtain ⟨u, q, l⟩ := h2
  refine ⟨_, pgs_cons p q hs, fun fr B σ H ρ ds vs Q s r h => ?_⟩
  cases ds with
  | nil => exact h.elim
  | cons d ds =>
    obtain ⟨y, ys, rfl, r1, r2⟩ := r.cons_inv
    refine ⟨y, ys, rfl, ?_⟩
    refine k fr B σ H ρ d y _ s r1 (Go.step h fun _ ρ1 h σ1 B1 H1 t1 p1 s1 => ?_)
    exact l fr B1 σ1 H1 ρ1 ds ys Q s1 (r2.mono t1.sub.ex) (h.later' t1 p1 fun _ ρ' q σ' B' H' t' p' => q σ' B' H' (t1.trans t') (p1.trans p'))
/-- a, b = .. of a tuple of so many -/
def gTupM (n : Nat) (ms : List D → M Unit) : D → M Unit := fun d => match d with
  | .tup ds => if ds.length = n then ms ds else M.bad
  | _ => M.bad
theorem dg_tup {es : List Expr} {k : Nat} {ms : List D → M Unit} {pos : Pos} {n : Nat} (hc : X.calm = true) (h : DGs X W es ms) (hn : (assignEach es X.env).length = n := by rfl) (hst : (assignEach es X.env).findIdx? (·.1) = none := by rfl) :
    DG X W (.Tuple es k pos) (gTupM n ms) := by
  obtain ⟨t, p, l⟩ := h
  refine ⟨_, pg_tup hc p hn hst, fun fr B σ H ρ d v Q s r h => ?_⟩
  cases d with
  | tup ds =>
    obtain ⟨a, xs, rfl, h1, h2⟩ := r.tup_inv
    have h : Go X.K W fr σ B H ((if ds.length = n then ms ds else M.bad) ρ) _ := h
    by_cases e : ds.length = n
    · rw [if_pos e] at h
      refine ⟨a, xs, rfl, ?_, by rw [h2.length, e], l fr B σ H ρ ds xs Q s h2 h⟩
      exact ex_t s.sub.ex h1
    · rw [if_neg e] at h; exact h.elim
  | _ => exact h.elim
/-! expressions as statements, returns -/
def mDrop {α : Type} (m : M α) : M Fl := m.bind fun _ => mNx
theorem ds_expr {e : Expr} {m : M D} {pos : Pos} (h : DE X W e m) (hs : swapsWith e none pos.line X.env = pure false := by rfl) : DS X W (.Expr e pos) (mDrop m) := by
  obtain ⟨t, p, k⟩ := h
  refine ⟨_, ps_expr p hs, fun fr B σ H ρ D s h => ?_⟩
  exact k fr B σ H ρ _ s (h.step fun d ρ1 h v B1 H1 t1 s1 r1 => (Go.pure h) σ B1 H1 t1 .refl s1)
def mRet (m : M D) : M Fl := m.bind fun d => M.pure (.rt (.imm d))
theorem ds_ret {e : Expr} {m : M D} {pos : Pos} (h : DE X W e m) : DS X W (.Return (some e) pos) (mRet m) := by
  obtain ⟨t, p, k⟩ := h
  refine ⟨_, ps_ret p, fun fr B σ H ρ D s h => ?_⟩
  exact k fr B σ H ρ _ s (h.step fun d ρ1 h v B1 H1 t1 s1 r1 => (Go.pure h) σ B1 H1 t1 .refl v (s1.push r1))
def mRetO (m : M Slot) : M Fl := m.bind fun d => M.pure (.rt d)
theorem ds_retO {e : Expr} {m : M Slot} {pos : Pos} (h : DO X W e m) : DS X W (.Return (some e) pos) (mRetO m) := by
  obtain ⟨t, p, k⟩ := h
  refine ⟨_, ps_ret p, fun fr B σ H ρ D s h => ?_⟩
  exact k fr B σ H ρ _ s (h.step fun d ρ1 h v B1 H1 t1 s1 => (Go.pure h) σ B1 H1 t1 .refl v s1)
theorem ds_retN {pos : Pos} : DS X W (.Return none pos) (M.pure (.rt (.imm .non))) :=
  ⟨_, ps_retN, fun fr B σ H ρ D s h => (Go.pure h) σ B H .refl .refl .non (s.push .non)⟩
def mIf (c : M Bool) (a b : M Fl) : M Fl := c.bind fun k => if k then a else b
theorem ds_if {c : Expr} {a b : List Stmt} {pos : Pos} {mc : M Bool} {ma mb : M Fl} (hc : DT X W c mc) (ha : DSs X W a ma) (hb : DSs X W b mb) : DS X W (.If c a b pos) (mIf mc ma mb) := by
  obtain ⟨t, p, k⟩ := hc
  obtain ⟨ta, pa, ka⟩ := ha
  obtain ⟨tb, pb, kb⟩ := hb
  refine ⟨_, ps_if p pa pb, fun fr B σ H ρ D s h => ?_⟩
  refine k fr B σ H ρ _ s (h.step fun c ρ1 h B1 H1 t1 s1 => ?_)
  cases c with
  | true => exact ka fr B1 σ H1 ρ1 D s1 (h.later t1 fun _ _ q => q.later t1 .refl)
  | false => exact kb fr B1 σ H1 ρ1 D s1 (h.later t1 fun _ _ q => q.later t1 .refl)
/-- an assignment -/
def mAsg (m : M D) (g : D → M Unit) : M Fl := m.bind fun d => (g d).bind fun _ => mNx
theorem ds_asg {tg e : Expr} {pos : Pos} {m : M D} {g : D → M Unit} (he : DE X W e m) (hg : DG X W tg g) (hs : swapsWithSole [tg] e pos.line X.env = pure false := by rfl) (hw : swappedStores [tg] e X.env = pure none := by rfl)
    (h1 : (assignEach [tg] X.env).map (·.2) = [assign tg X.env] := by rfl) : DS X W (.Assign [tg] e pos) (mAsg m g) := by
  obtain ⟨t, p, k⟩ := he
  obtain ⟨u, q, l⟩ := hg
  refine ⟨_, ps_asg p q hs hw h1, fun fr B σ H ρ D s h => ?_⟩
  refine k fr B σ H ρ _ s (h.step fun d ρ1 h v B1 H1 t1 s1 r1 => ?_)
  refine l fr B1 σ H1 ρ1 d v _ s1 r1 (Go.step (h.later t1 fun _ _ q => q) fun _ ρ2 h σ' B2 H2 t2 p2 s2 => ?_)
  exact (Go.pure h) σ' B2 H2 (t1.trans t2) p2 s2

def mSet (i : Nat) (m : M D) : M Fl := m.bind fun d => (mPut i (.imm d)).bind fun _ => mNx
theorem ds_set (i : Nat) {x : Str} {e : Expr} {pos pos' : Pos} {m : M D} (hN : X.N.Nodup) (he : DE X W e m) (hi : X.N[i]? = some x := by rfl) (hx : Loc X.env.scope x := by first | exact Or.inl rfl | exact Or.inr rfl)
    (hf : X.fn x = true ∨ X.env.scope.names.lookup x = some .local := by first | exact .inl rfl | exact .inr rfl) (hp : i ∉ W.P := by decide) (hs : swapsWith e (some (.Name x pos')) pos.line X.env = pure false := by rfl) :
    DS X W (.Assign [.Name x pos'] e pos) (mSet i m) := by
  obtain ⟨t, p, k⟩ := he
  refine ⟨_, ps_set hN hi hx p hs hf, fun fr B σ H ρ D s h => ?_⟩
  refine k fr B σ H ρ _ s (h.step fun d ρ1 h v B1 H1 t1 s1 r1 => ?_)
  obtain ⟨lt, h⟩ := Go.put (h.step fun _ _ h => h)
  obtain ⟨B2, sb, s2⟩ := s1.set r1 lt
  exact (Go.pure h) _ B2 H1 (t1.trans (.of sb)) (Pin.set hp) s2
def mSetO (i : Nat) (m : M Slot) : M Fl := m.bind fun d => (mPut i d).bind fun _ => mNx
theorem ds_setO (i : Nat) {x : Str} {e : Expr} {pos pos' : Pos} {m : M Slot} (hN : X.N.Nodup) (he : DO X W e m) (hi : X.N[i]? = some x := by rfl) (hx : Loc X.env.scope x := by first | exact Or.inl rfl | exact Or.inr rfl)
    (hf : X.fn x = true ∨ X.env.scope.names.lookup x = some .local := by first | exact .inl rfl | exact .inr rfl) (hp : i ∉ W.P := by decide) (hs : swapsWith e (some (.Name x pos')) pos.line X.env = pure false := by rfl) :
    DS X W (.Assign [.Name x pos'] e pos) (mSetO i m) := by
  obtain ⟨t, p, k⟩ := he
  refine ⟨_, ps_set hN hi hx p hs hf, fun fr B σ H ρ D s h => ?_⟩
  refine k fr B σ H ρ _ s (h.step fun d ρ1 h v B1 H1 t1 s1 => ?_)
  obtain ⟨lt, h⟩ := Go.put (h.step fun _ _ h => h)
  obtain ⟨B2, sb, s2⟩ := s1.put lt
  exact (Go.pure h) _ B2 H1 (t1.trans (.of sb)) (Pin.set hp) s2
/-- nothing in the text: a slot's own object turns to data that stay -/
def mFrz (i : Nat) (m : M Fl) : M Fl := fun ρ => match ρ[i]? with
  | some s => m (ρ.set i (frzS s))
  | none => .bad
theorem dss_frz (i : Nat) {sts : List Stmt} {m : M Fl} (h : DSs X W sts m) : DSs X W sts (mFrz i m) := by
  obtain ⟨t, p, k⟩ := h
  refine ⟨_, p, fun fr B σ H ρ D s h => ?_⟩
  unfold mFrz at h
  cases e : ρ[i]? with
  | none => rw [e] at h; exact h.elim
  | some sl =>
    rw [e] at h
    obtain ⟨B1, sb, s1⟩ := s.freeze e
    exact k fr B1 σ H _ D s1 (h.later (.of sb) fun _ _ q => q.later (.of sb) .refl)
/-! one's own objects -/
theorem do_of {e : Expr} {m : M D} (h : DE X W e m) : DO X W e (m.bind fun d => M.pure (.imm d)) := by
  obtain ⟨t, p, k⟩ := h
  refine ⟨_, p, fun fr B σ H ρ Q s h => ?_⟩
  exact k fr B σ H ρ _ s (h.step fun d ρ1 h v B1 H1 t1 s1 r1 => (Go.pure h) v B1 H1 t1 (s1.push r1))
def mTake (i : Nat) : M Slot := fun ρ => match ρ[i]? with
  | some .non => .bad
  | none => .bad
  | some s => .ok s (ρ.set i .non)
theorem SlotR.val {K : PySem.W.Frag} {B H : Hp} {s : Slot} {w : Option V} {f : Ad} (h : SlotR K B H s w f) (n : s ≠ .non) : ∃ v, w = some v := by
  cases s with
  | non => exact absurd rfl n
  | imm d => obtain ⟨_, v, rfl, _⟩ := h; exact ⟨v, rfl⟩
  | lst ds => obtain ⟨a, _, rfl, _⟩ := h; exact ⟨_, rfl⟩
  | dct ds => obtain ⟨a, _, rfl, _⟩ := h; exact ⟨_, rfl⟩
  | pot gs a b c => obtain ⟨a, _, rfl, _⟩ := h; exact ⟨_, rfl⟩
  | obj c fs => obtain ⟨a, _, _, _, rfl, _⟩ := h; exact ⟨_, rfl⟩
  | exn c => obtain ⟨_, a, _, _, rfl, _⟩ := h; exact ⟨_, rfl⟩
theorem do_var (i : Nat) {x : Str} {pos : Pos} (hN : X.N[i]? = some x := by rfl) (hv : Vis X.env.scope x := by first | exact Or.inl rfl | exact Or.inr (Or.inl rfl) | exact Or.inr (Or.inr rfl)) (hd : (x == ("__debug__" : Str)) = false := by decide)
    (hcd : (x == ("__classdict__" : Str)) = false := by decide) : DO X W (.Name x pos) (mTake i) := by
  refine ⟨_, pe_var hN hv hd hcd, fun fr B σ H ρ Q s h => ?_⟩
  unfold Go mTake at h
  cases e : ρ[i]? with
  | none => rw [e] at h; exact h.elim
  | some sl =>
    rw [e] at h
    have n : sl ≠ .non := fun z => by subst z; exact h.elim
    obtain ⟨w, h1, B', sb, s'⟩ := s.take e
    obtain ⟨fp, sf⟩ := s
    obtain ⟨w', h2, h3⟩ := sf.slot i sl e
    obtain ⟨v, rfl⟩ := h3.val n
    rw [h1] at h2; cases h2
    refine ⟨v, h1, ?_⟩
    have q : ∀ v B' H', To fr B H B' H' → St X.K fr B' (some v :: σ) H' (sl :: ρ.set i .non) → Q v H' := by
      cases sl with
      | non => exact absurd rfl n
      | _ => exact h
    exact q v B' H (.of sb) s'
def mOLst (ms : M (List D)) : M Slot := ms.bind fun ds => M.of (if okSz ds then some (.lst ds) else none)
theorem do_lst {es : List Expr} {ms : M (List D)} {pos : Pos} (h : DA X W es ms) : DO X W (.List es pos) (mOLst ms) := by
  obtain ⟨t, p, k⟩ := h
  refine ⟨_, pe_lst p, fun fr B σ H ρ Q s h => ?_⟩
  refine k fr B σ H ρ _ s (h.step fun ds ρ1 h xs B1 H1 t1 s1 r1 => ?_)
  obtain ⟨d, e, q⟩ := h.of
  have hz : okSz ds ∧ d = .lst ds := by
    by_cases z : okSz ds
    · rw [if_pos z] at e; cases e; exact ⟨z, rfl⟩
    · rw [if_neg z] at e; cases e
  obtain ⟨hz, rfl⟩ := hz
  refine ⟨by rw [r1.length]; exact hz.line, fun p hp => ?_⟩
  obtain ⟨s2, t2⟩ := s1.own (o := .lst xs) (sl := .lst ds) hp ⟨p, xs, rfl, fun _ => Iff.rfl, upd_same, r1⟩
  exact q _ _ _ (t1.trans t2) s2
theorem do_dnew {pos : Pos} : DO X W (.Dict [] [] pos) (M.pure (.dct [])) := by
  refine ⟨_, pe_dnewK, fun fr B σ H ρ Q s h p hp => ?_⟩
  obtain ⟨s2, t2⟩ := s.own (o := .dK []) (sl := .dct []) hp ⟨p, [], rfl, fun _ => Iff.rfl, upd_same, .nil⟩
  exact (Go.pure h) _ _ _ t2 s2
theorem de_dnew {pos : Pos} : DE X W (.Dict [] [] pos) (M.pure (.dct [])) := by
  refine ⟨_, pe_dnewK, fun fr B σ H ρ Q s h p hp => ?_⟩
  obtain ⟨s2, t2⟩ := s.new (o := .dK []) hp
  exact (Go.pure h) _ _ _ t2 s2 (.dct ⟨_, upd_same, .inl rfl⟩ .nil)
/-- data of what was one's own -/
def frzD : Slot → Option D
  | .imm d => some d
  | .lst ds => some (.lst ds)
  | .dct kvs => some (.dct kvs)
  | _ => none
def mFz (m : M Slot) : M D := m.bind fun s => M.of (frzD s)
theorem frzD_inv {s : Slot} {d : D} (h : frzD s = some d) : frzS s = .imm d := by
  cases s <;> cases h <;> rfl
theorem St.top {K : PySem.W.Frag} {fr : Ad} {B H : Hp} {σ : L2.St} {ρ : List Slot} {v : V} {s : Slot} {d : D} (x : St K fr B (some v :: σ) H (s :: ρ)) (h : frzD s = some d) : ∃ B', Sub B B' ∧ St K fr B' σ H ρ ∧ Rep K B' d v := by
  obtain ⟨B1, sb1, s1⟩ := x.freeze (i := 0) (sl := s) rfl
  rw [frzD_inv h] at s1
  have s1 : St K fr B1 (some v :: σ) H (.imm d :: ρ) := s1
  obtain ⟨fp, sf⟩ := id s1
  obtain ⟨v', h1, h2⟩ := sf.imm (i := 0) (d := d) rfl
  simp at h1; subst h1
  obtain ⟨B2, sb2, s2⟩ := s1.pop
  exact ⟨B2, sb1.trans sb2, s2, h2.mono sb2.ex⟩
theorem de_fz {e : Expr} {m : M Slot} (h : DO X W e m) : DE X W e (mFz m) := by
  obtain ⟨t, p, k⟩ := h
  refine ⟨_, p, fun fr B σ H ρ Q s h => ?_⟩
  refine k fr B σ H ρ _ s (h.step fun sl ρ1 h v B1 H1 t1 s1 => ?_)
  obtain ⟨d, e, q⟩ := h.of
  obtain ⟨B2, sb, s2, r2⟩ := s1.top e
  exact q v B2 H1 (t1.trans (.of sb)) s2 r2

end
end EE
end

section
set_option Elab.async false
set_option linter.all false
set_option maxRecDepth 100000
set_option maxHeartbeats 4000000
/-! E5: operators, comparisons, subscripts, built-ins on data -/
namespace EE
open PySem PySem.Spec PyProof.Rows L2
variable [XAd]
section
variable {X : Cx} {K : PySem.W.Frag} {B H : Hp}

theorem Op2.or {r r' : R2} {f f' : D → D → Option D} (h : Op2 X r f) (h' : Op2 X r' f') : Op2 X (fun x y H Q => r x y H Q ∨ r' x y H Q) (fun a b => (f a b).or (f' a b)) := by
  intro B H a b d x y Q sb ra rb e k
  have e : (f a b).or (f' a b) = some d := e
  cases q : f a b with
  | some d' =>
    rw [q] at e
    cases e
    exact .inl (h B H a b _ x y Q sb ra rb q k)
  | none =>
    rw [q] at e
    exact .inr (h' B H a b d x y Q sb ra rb e k)

/-! ### data for == -/
mutual
def toPy : D → Option PyData
  | .non => some .none
  | .bl b => some (.bool b)
  | .int i => some (.int i)
  | .str x => some (.str x)
  | .tup ds => (toPyL ds).map .tuple
  | .lst ds => (toPyL ds).map .list
  | .dct _ => none
  | .ins _ _ => none
def toPyL : List D → Option (List PyData)
  | [] => some []
  | d :: ds => match toPy d, toPyL ds with
    | some x, some xs => some (x :: xs)
    | _, _ => none
end
mutual
theorem dp_of (sb : Sub B H) : ∀ {d : D} {v : V} {p : PyData}, Rep K B d v → toPy d = some p → Dp K H v p
  | .non, v, p, r, e => by unfold toPy at e; cases e; rw [r.non_inv]; exact .non
  | .bl b, v, p, r, e => by unfold toPy at e; cases e; rw [r.bl_inv]; exact .bl b
  | .int b, v, p, r, e => by unfold toPy at e; cases e; rw [r.int_inv]; exact .int b
  | .str b, v, p, r, e => by unfold toPy at e; cases e; rw [r.str_inv]; exact .str b
  | .tup ds, v, p, r, e => by
    unfold toPy at e
    obtain ⟨ps, e1, rfl⟩ := Option.map_eq_some_iff.mp e
    obtain ⟨a, xs, rfl, h1, h2⟩ := r.tup_inv
    exact .tup (ex_t sb.ex h1) (dpl_of sb h2 e1)
  | .lst ds, v, p, r, e => by
    unfold toPy at e
    obtain ⟨ps, e1, rfl⟩ := Option.map_eq_some_iff.mp e
    obtain ⟨a, xs, rfl, h1, h2⟩ := r.lst_inv
    exact .lst ((rd_sub sb h1)) (dpl_of sb h2 e1)
  | .dct _, v, p, r, e => by unfold toPy at e; cases e
  | .ins _ _, v, p, r, e => by unfold toPy at e; cases e
theorem dpl_of (sb : Sub B H) : ∀ {ds : List D} {vs : List V} {ps : List PyData}, RepL K B ds vs → toPyL ds = some ps → DpAll K H vs ps
  | [], vs, ps, r, e => by unfold toPyL at e; cases e; rw [r.nil_inv]; exact .nil
  | d :: ds, vs, ps, r, e => by
    unfold toPyL at e
    obtain ⟨y, ys, rfl, r1, r2⟩ := r.cons_inv
    cases e1 : toPy d with
    | none => rw [e1] at e; cases e
    | some x =>
      cases e2 : toPyL ds with
      | none => rw [e1, e2] at e; cases e
      | some xs =>
        rw [e1, e2] at e; cases e
        exact .cons (dp_of sb r1 e1) (dpl_of sb r2 e2)
end
def eqD (a b : D) : Option Bool := match toPy a, toPy b with
  | some x, some y => if SeqAt.shaped x && SeqAt.shaped y then some (PyData.eqv x y) else none
  | _, _ => none
def fEq (a b : D) : Option D := (eqD a b).map .bl
def fNe (a b : D) : Option D := (eqD a b).map fun k => .bl (!k)
theorem eqD_inv {a b : D} {k : Bool} (h : eqD a b = some k) : ∃ x y, toPy a = some x ∧ toPy b = some y ∧ SeqAt.shaped x = true ∧ SeqAt.shaped y = true ∧ k = PyData.eqv x y := by
  unfold eqD at h
  split at h
  · rename_i x y e1 e2
    split at h
    · rename_i c
      cases h
      obtain ⟨c1, c2⟩ := Bool.and_eq_true_iff.mp c
      exact ⟨x, y, e1, e2, c1, c2, rfl⟩
    · cases h
  · cases h
theorem o_eq : Op2 X (rEqD X.K) fEq := by
  intro B H a b d x y Q sb ra rb e k
  obtain ⟨q, e1, rfl⟩ := Option.map_eq_some_iff.mp e
  obtain ⟨p1, p2, h1, h2, h3, h4, rfl⟩ := eqD_inv e1
  exact ⟨p1, p2, dp_of sb ra h1, dp_of sb rb h2, h3, h4, k _ B H .same .bl⟩
theorem o_ne : Op2 X (rNeD X.K) fNe := by
  intro B H a b d x y Q sb ra rb e k
  obtain ⟨q, e1, rfl⟩ := Option.map_eq_some_iff.mp e
  obtain ⟨p1, p2, h1, h2, h3, h4, rfl⟩ := eqD_inv e1
  exact ⟨p1, p2, dp_of sb ra h1, dp_of sb rb h2, h3, h4, k _ B H .same .bl⟩

/-! ### ints -/
def fI (g : Int → Int → D) (a b : D) : Option D := match a, b with
  | .int i, .int j => some (g i j)
  | _, _ => none
def fIc (C : Int → Int → Bool) (g : Int → Int → D) (a b : D) : Option D := match a, b with
  | .int i, .int j => if C i j then some (g i j) else none
  | _, _ => none
theorem fI_inv {g : Int → Int → D} {a b d : D} (h : fI g a b = some d) : ∃ i j, a = .int i ∧ b = .int j ∧ d = g i j := by
  unfold fI at h
  split at h
  · cases h; exact ⟨_, _, rfl, rfl, rfl⟩
  · cases h
theorem fIc_inv {C : Int → Int → Bool} {g : Int → Int → D} {a b d : D} (h : fIc C g a b = some d) : ∃ i j, a = .int i ∧ b = .int j ∧ C i j = true ∧ d = g i j := by
  unfold fIc at h
  split at h
  · split at h
    · cases h; exact ⟨_, _, rfl, rfl, by assumption, rfl⟩
    · cases h
  · cases h
theorem o_I0 {g : Int → Int → D} {gv : Int → Int → V} (hg : ∀ i j B, Rep X.K B (g i j) (gv i j)) : Op2 X (rI0 gv) (fI g) := by
  intro B H a b d x y Q sb ra rb e k
  obtain ⟨i, j, rfl, rfl, rfl⟩ := fI_inv e
  exact ⟨i, j, ra.int_inv, rb.int_inv, k _ B H .same (hg i j B)⟩
theorem o_Ic {C : Int → Int → Bool} {CP : Int → Int → Prop} {g : Int → Int → D} {gv : Int → Int → V} (hc : ∀ i j, C i j = true → CP i j) (hg : ∀ i j B, Rep X.K B (g i j) (gv i j)) : Op2 X (rI CP gv) (fIc C g) := by
  intro B H a b d x y Q sb ra rb e k
  obtain ⟨i, j, rfl, rfl, c, rfl⟩ := fIc_inv e
  exact ⟨i, j, ra.int_inv, rb.int_inv, hc i j c, k _ B H .same (hg i j B)⟩
def fSub := fI fun i j => .int (i - j)
def fLt := fI fun i j => .bl (decide (i < j))
def fLe := fI fun i j => .bl (decide (i ≤ j))
def fGt := fI fun i j => .bl (decide (j < i))
def fGe := fI fun i j => .bl (decide (j ≤ i))
theorem o_sub : Op2 X (rI0 fun i j => .int (i - j)) fSub := o_I0 fun _ _ _ => .int
theorem o_lt : Op2 X (rI0 fun i j => .bl (decide (i < j))) fLt := o_I0 fun _ _ _ => .bl
theorem o_le : Op2 X (rI0 fun i j => .bl (decide (i ≤ j))) fLe := o_I0 fun _ _ _ => .bl
theorem o_gt : Op2 X (rI0 fun i j => .bl (decide (j < i))) fGt := o_I0 fun _ _ _ => .bl
theorem o_ge : Op2 X (rI0 fun i j => .bl (decide (j ≤ i))) fGe := o_I0 fun _ _ _ => .bl
def cMod (_ j : Int) : Bool := decide (0 < j)
def fMod := fIc cMod fun i j => .int (i % j)
theorem o_mod : Op2 X (rI (fun _ j => 0 < j) fun i j => .int (i % j)) fMod := o_Ic (fun _ _ h => of_decide_eq_true h) fun _ _ _ => .int
/-! ### + -/
def fAddI := fI fun i j => .int (i + j)
def fCatS (a b : D) : Option D := match a, b with
  | .str x, .str y => if x.length + y.length ≤ 1000000 then some (.str (x ++ y)) else none
  | _, _ => none
def fCatL (a b : D) : Option D := match a, b with
  | .lst xs, .lst ys => if xs.length + ys.length ≤ 1000000 then some (.lst (xs ++ ys)) else none
  | _, _ => none
def fCatT (a b : D) : Option D := match a, b with
  | .tup xs, .tup ys => if xs.length + ys.length ≤ 1000000 then some (.tup (xs ++ ys)) else none
  | _, _ => none
theorem o_addI : Op2 X (rI0 fun i j => .int (i + j)) fAddI := o_I0 fun _ _ _ => .int
theorem line_of {n : Nat} (h : n ≤ 1000000) : n ≤ sizeLine := Nat.le_trans h (by decide)
theorem o_catS : Op2 X (fun x y H Q => ∃ i j, x = .str i ∧ y = .str j ∧ i.length + j.length ≤ sizeLine ∧ Q (.str (i ++ j)) H) fCatS := by
  intro B H a b d x y Q sb ra rb e k
  unfold fCatS at e
  split at e
  · split at e
    · rename_i i j c
      cases e
      exact ⟨i, j, ra.str_inv, rb.str_inv, line_of c, k _ B H .same .str⟩
    · cases e
  · cases e
/-- + of two lists, frozen and written ones too -/
def rCatR (K : PySem.W.Frag) : R2 := fun x y H Q => ∃ l b xs zs, x = .ref l ∧ y = .ref b ∧ SqL K H l xs ∧ SqL K H b zs ∧ xs.length + zs.length ≤ sizeLine ∧ ∀ p, H p = none → Q (.ref p) (upd H p (.lst (xs ++ zs)))
theorem op_catR : OpR X (binaryOp .Add) (rCatR X.K) := by
  intro pins s σ H x y v u Q I rx ry h
  obtain ⟨l, b, xs, zs, rfl, rfl, hH, hB, hz, q⟩ := h
  cases rx
  cases ry
  obtain ⟨its, r, ⟨⟨oc, od, dt, sl⟩, n, e, c, d0, d⟩, _⟩ := I.list hH
  obtain ⟨its2, r2, ⟨⟨oc2, od2, dt2, sl2⟩, n2, e2, c2, d02, d2⟩, _⟩ := I.list hB
  simp only at c d0 d c2 d02 d2
  subst c d0 d c2 d02 d2
  have l1 := r.length
  have l2 := r2.length
  refine PySem.concat_meets ⟨_, e, rfl⟩ ⟨_, e2, rfl⟩ PySem.noFill_list_add PySem.seq_list_add PySem.F.slot_list_add PySem.F.entry_list_add (PySem.F.args_list_add_2 _ _) (PyProof.Rows.list_addW l b its.toArray its2.toArray n n2 none none sl sl2 (by rw [List.size_toArray, List.size_toArray]; omega)) ⟨e, e2, ?_⟩
  rw [show its.toArray ++ its2.toArray = (its ++ its2).toArray from by simp]
  exact ⟨.ref _, _, I.lnew (t' := s.toks) (r.append r2) (by rw [List.length_append]; omega), rfl, q _ I.fresh⟩
theorem o_catL : Op2 X (rCatR X.K) fCatL := by
  intro B H a b d x y Q sb ra rb e k
  unfold fCatL at e
  split at e
  · split at e
    · rename_i i j c
      cases e
      obtain ⟨p, xs, rfl, h1, h2⟩ := ra.lst_inv
      obtain ⟨q, ys, rfl, h3, h4⟩ := rb.lst_inv
      refine ⟨p, q, xs, ys, rfl, rfl, rd_sub sb h1, rd_sub sb h3, line_of (by rw [h2.length, h4.length]; exact c), fun p hp => ?_⟩
      exact k _ _ _ (.new hp) (.lst upd_same ((h2.append h4).mono (Ex.upd (sb.none hp))))
    · cases e
  · cases e
theorem o_catT : Op2 X (rCatA X.K) fCatT := by
  intro B H a b d x y Q sb ra rb e k
  unfold fCatT at e
  split at e
  · split at e
    · rename_i i j c
      cases e
      obtain ⟨p, xs, rfl, h1, h2⟩ := ra.tup_inv
      obtain ⟨q, ys, rfl, h3, h4⟩ := rb.tup_inv
      refine ⟨p, q, xs, ys, rfl, rfl, ex_t sb.ex h1, ex_t sb.ex h3, line_of (by rw [h2.length, h4.length]; exact c), fun hx => ?_, fun hx hy => ?_, fun hx hy p hp => ?_⟩
      · have : i = [] := List.length_eq_zero_iff.mp (by rw [← h2.length, hx]; rfl)
        subst this
        exact k _ _ _ .same rb
      · have : j = [] := List.length_eq_zero_iff.mp (by rw [← h4.length, hy]; rfl)
        subst this
        rw [List.append_nil] at k
        exact k _ _ _ .same ra
      · exact k _ _ _ (.new hp) (.tup (.inl (.inl upd_same)) ((h2.append h4).mono (Ex.upd (sb.none hp))))
    · cases e
  · cases e
def fAdd (a b : D) : Option D := (fAddI a b).or ((fCatS a b).or ((fCatL a b).or (fCatT a b)))
def rAddAll (K : PySem.W.Frag) : R2 := fun x y H Q => (∃ i j, x = .int i ∧ y = .int j ∧ Q (.int (i + j)) H) ∨ ((∃ i j, x = .str i ∧ y = .str j ∧ i.length + j.length ≤ sizeLine ∧ Q (.str (i ++ j)) H) ∨ (rCatR K x y H Q ∨ rCatA K x y H Q))
theorem op_addAll : OpR X (binaryOp .Add) (rAddAll X.K) := OpR.or op_add (OpR.or op_add_str (OpR.or op_catR op_catA))
theorem o_add : Op2 X (rAddAll X.K) fAdd := Op2.or o_addI (Op2.or o_catS (Op2.or o_catL o_catT))
/-! ### is None -/
def isNon : D → Bool
  | .non => true
  | _ => false
def fIsN (a b : D) : Option D := if isNon b then some (.bl (isNon a)) else none
def fNotN (a b : D) : Option D := if isNon b then some (.bl (!isNon a)) else none
theorem isNon_of {d : D} {v : V} (h : Rep K B d v) : isNon d = decide (v = .non) := by
  cases d with
  | non => rw [h.non_inv]; rfl
  | bl b => rw [h.bl_inv]; rfl
  | int b => rw [h.int_inv]; rfl
  | str b => rw [h.str_inv]; rfl
  | tup ds => obtain ⟨a, _, rfl, _⟩ := h.tup_inv; rfl
  | lst ds => obtain ⟨a, _, rfl, _⟩ := h.lst_inv; rfl
  | dct ds => obtain ⟨a, _, rfl, _⟩ := h.dct_inv; rfl
  | ins c ds => obtain ⟨a, _, _, rfl, _⟩ := h.ins_inv; rfl
theorem isNon_v {d : D} {v : V} (h : Rep K B d v) (e : isNon d = true) : v = .non := by
  rw [isNon_of h] at e; exact of_decide_eq_true e
theorem o_isN : Op2 X (fun x y H Q => y = .non ∧ Q (.bl (decide (x = .non))) H) fIsN := by
  intro B H a b d x y Q sb ra rb e k
  unfold fIsN at e
  split at e
  · rename_i c
    cases e
    refine ⟨isNon_v rb c, ?_⟩
    rw [← isNon_of ra]
    exact k _ B H .same .bl
  · cases e
theorem o_notN : Op2 X (fun x y H Q => y = .non ∧ Q (.bl (!decide (x = .non))) H) fNotN := by
  intro B H a b d x y Q sb ra rb e k
  unfold fNotN at e
  split at e
  · rename_i c
    cases e
    refine ⟨isNon_v rb c, ?_⟩
    rw [← isNon_of ra]
    exact k _ B H .same .bl
  · cases e
/-! ### subscripts -/
def fIxT (a b : D) : Option D := match a, b with
  | .tup xs, .int i => atI xs i
  | _, _ => none
def fIxL (a b : D) : Option D := match a, b with
  | .lst xs, .int i => atI xs i
  | _, _ => none
def fIxS (a b : D) : Option D := match a, b with
  | .str x, .int i => if x.length ≤ 1000000 then (atI x.cps.toList i).map fun c => .str ⟨#[c]⟩ else none
  | _, _ => none
theorem atI_rep {ds : List D} {xs : List V} {i : Int} {d : D} (r : RepL K B ds xs) (h : atI ds i = some d) : ∃ x, atI xs i = some x ∧ Rep K B d x := by
  unfold atI at h ⊢
  rw [r.length]
  cases e : ixN ds.length i with
  | none => rw [e] at h; cases h
  | some j =>
    rw [e] at h
    exact r.get h
theorem o_ixT : Op2 X (rIxT X.K) fIxT := by
  intro B H a b d x y Q sb ra rb e k
  unfold fIxT at e
  split at e
  · rename_i ds i
    obtain ⟨p, xs, rfl, h1, h2⟩ := ra.tup_inv
    obtain ⟨v, h3, h4⟩ := atI_rep h2 e
    exact ⟨p, xs, i, v, rfl, rb.int_inv, ex_t sb.ex h1, h3, k _ B H .same h4⟩
  · cases e
theorem o_ixL : Op2 X (rIxL X.K) fIxL := by
  intro B H a b d x y Q sb ra rb e k
  unfold fIxL at e
  split at e
  · rename_i ds i
    obtain ⟨p, xs, rfl, h1, h2⟩ := ra.lst_inv
    obtain ⟨v, h3, h4⟩ := atI_rep h2 e
    exact ⟨p, xs, i, v, rfl, rb.int_inv, (rd_sub sb h1), h3, k _ B H .same h4⟩
  · cases e
theorem o_ixS : Op2 X rIxS fIxS := by
  intro B H a b d x y Q sb ra rb e k
  unfold fIxS at e
  split at e
  · split at e
    · rename_i z i c
      obtain ⟨c', h1, rfl⟩ := Option.map_eq_some_iff.mp e
      exact ⟨z, i, c', ra.str_inv, rb.int_inv, line_of c, h1, k _ B H .same .str⟩
    · cases e
  · cases e
end
end EE
end

section
set_option Elab.async false
set_option linter.all false
set_option maxRecDepth 100000
set_option maxHeartbeats 4000000
/-! E6: tests, and/or/not, in, len, isinstance, tuple(), list(), sorted(), all, any .. -/
namespace EE
open PySem PySem.Spec PyProof.Rows L2
variable [XAd]
section
variable {X : Cx} {W : Wn} {a b c : Expr} {pos : Pos}

/-! ### tests -/
def isBl : D → Option Bool
  | .bl k => some k
  | _ => none
theorem isBl_inv {d : D} {k : Bool} (h : isBl d = some k) : d = .bl k := by
  cases d <;> cases h; rfl
def mTst (m : M D) : M Bool := m.bind fun d => M.of (isBl d)
/-- an expression that gives True or False, as a test -/
theorem dt_val {m : M D} (h : DE X W a m) (he : ∀ whole, isTrue a X.env whole = (do let v ← whole; standAt a.pos; holding [v] (truthy v)) := by intro _; rfl) : DT X W a (mTst m) := by
  obtain ⟨t, p, k⟩ := h
  refine ⟨_, pt_val p he, fun fr B σ H ρ Q s h => ?_⟩
  refine k fr B σ H ρ _ s (h.step fun d ρ1 h v B1 H1 t1 s1 r1 => ?_)
  obtain ⟨q, e, h⟩ := h.of
  cases isBl_inv e
  exact ⟨q, r1.bl_inv, h B1 H1 t1 s1⟩
theorem dt_cmp {op : CmpOp} {r : R2} {f : D → D → Option D} {ma mb : M D} (hr : OpR X (compareOp op) r) (ho : Op2 X r f) (ha : DE X W a ma) (hb : DE X W b mb) (hm : behindInMarks op b = false := by first | exact nobehind _ (by decide) (by decide) | rfl) :
    DT X W (.Compare a [op] [b] pos) (mTst (m2 f ma mb)) := by
  obtain ⟨ta, pa, ka⟩ := ha
  obtain ⟨tb, pb, kb⟩ := hb
  refine ⟨_, pt_cmpR hr pa pb hm, fun fr B σ H ρ Q s h => ?_⟩
  refine run2 ho ka kb fr B σ H ρ _ s (h.step fun d ρ1 h v B1 H1 t1 s1 r1 => ?_)
  obtain ⟨q, e, h⟩ := h.of
  cases isBl_inv e
  exact ⟨q, r1.bl_inv, h B1 H1 t1 s1⟩
def mNotB (m : M Bool) : M Bool := m.bind fun k => M.pure (!k)
theorem dt_not {m : M Bool} (h : DT X W a m) : DT X W (.UnaryOp .Not a pos) (mNotB m) := by
  obtain ⟨t, p, k⟩ := h
  refine ⟨_, pt_not p, fun fr B σ H ρ Q s h => ?_⟩
  exact k fr B σ H ρ _ s (h.step fun d ρ1 h B1 H1 t1 s1 => (Go.pure h) B1 H1 t1 s1)
theorem dt_w {m : M Bool} (h : DW X W a m) : DT X W a m := by
  obtain ⟨t, p, k⟩ := h
  exact ⟨t, p.pt, k⟩
theorem dw_and1 {m : M Bool} (h : DT X W a m) : DW X W (.BoolOp .And [a] pos) m := by
  obtain ⟨t, p, k⟩ := h
  exact ⟨t, pw_and1 p, k⟩
theorem dw_or1 {m : M Bool} (h : DT X W a m) : DW X W (.BoolOp .Or [a] pos) m := by
  obtain ⟨t, p, k⟩ := h
  exact ⟨t, pw_or1 p, k⟩
def mAnd (m n : M Bool) : M Bool := m.bind fun k => if k then n else M.pure false
def mOr (m n : M Bool) : M Bool := m.bind fun k => if k then M.pure true else n
theorem dw_and {rest : List Expr} {m n : M Bool} (h1 : DT X W a m) (h2 : DW X W (.BoolOp .And (b :: rest) pos) n) : DW X W (.BoolOp .And (a :: b :: rest) pos) (mAnd m n) := by
  obtain ⟨t, p, k⟩ := h1
  obtain ⟨u, q, l⟩ := h2
  refine ⟨_, pw_and p q, fun fr B σ H ρ Q s h => ?_⟩
  refine k fr B σ H ρ _ s (h.step fun d ρ1 h B1 H1 t1 s1 => ?_)
  cases d with
  | true => exact l fr B1 σ H1 ρ1 Q s1 (h.later t1 fun _ _ q B2 H2 t2 s2 => q B2 H2 (t1.trans t2) s2)
  | false => exact (Go.pure h) B1 H1 t1 s1
theorem dw_or {rest : List Expr} {m n : M Bool} (h1 : DT X W a m) (h2 : DW X W (.BoolOp .Or (b :: rest) pos) n) : DW X W (.BoolOp .Or (a :: b :: rest) pos) (mOr m n) := by
  obtain ⟨t, p, k⟩ := h1
  obtain ⟨u, q, l⟩ := h2
  refine ⟨_, pw_or p q, fun fr B σ H ρ Q s h => ?_⟩
  refine k fr B σ H ρ _ s (h.step fun d ρ1 h B1 H1 t1 s1 => ?_)
  cases d with
  | true => exact (Go.pure h) B1 H1 t1 s1
  | false => exact l fr B1 σ H1 ρ1 Q s1 (h.later t1 fun _ _ q B2 H2 t2 s2 => q B2 H2 (t1.trans t2) s2)
/-! ### and, or, not as values (of truth values) -/
def mAndV (m n : M D) : M D := (mTst m).bind fun k => if k then n else M.pure (.bl false)
def mOrV (m n : M D) : M D := (mTst m).bind fun k => if k then M.pure (.bl true) else n
def mNotV (m : M D) : M D := (mTst m).bind fun k => M.pure (.bl (!k))
theorem Go.tst {K : PySem.W.Frag} {W : Wn} {fr : Ad} {σ : L2.St} {B H : Hp} {β : Type} {m : M D} {f : Bool → M β} {ρ : List Slot} {Q : β → List Slot → Prop} {Q' : D → List Slot → Prop} (h : Go K W fr σ B H (((mTst m).bind f) ρ) Q)
    (k : ∀ q ρ1, Go K W fr σ B H (f q ρ1) Q → Q' (.bl q) ρ1) : Go K W fr σ B H (m ρ) Q' := by
  have e : ((mTst m).bind f) ρ = (m.bind fun d => (M.of (isBl d)).bind f) ρ := by
    unfold mTst M.bind
    cases m ρ <;> rfl
  rw [e] at h
  refine h.step fun d ρ1 h => ?_
  obtain ⟨q, e, h⟩ := Go.of (h.step fun _ _ h => h)
  cases isBl_inv e
  exact k q ρ1 h
theorem de_one {op} {m : M D} (h : DE X W a m) : DE X W (.BoolOp op [a] pos) m := by
  obtain ⟨t, p, k⟩ := h
  exact ⟨t, pe_one p, k⟩
theorem de_and {rest : List Expr} {m n : M D} (h1 : DE X W a m) (h2 : DE X W (.BoolOp .And (b :: rest) pos) n) : DE X W (.BoolOp .And (a :: b :: rest) pos) (mAndV m n) := by
  obtain ⟨t, p, k⟩ := h1
  obtain ⟨u, q, l⟩ := h2
  refine ⟨_, pe_and p q, fun fr B σ H ρ Q s h => ?_⟩
  refine k fr B σ H ρ _ s (h.tst fun d ρ1 h v B1 H1 t1 s1 r1 => ⟨d, r1.bl_inv, ?_⟩)
  cases d with
  | true => exact l fr B1 σ H1 ρ1 Q s1 (h.later t1 fun _ _ q v B2 H2 t2 s2 => q v B2 H2 (t1.trans t2) s2)
  | false => exact (Go.pure h) _ B1 H1 t1 s1 .bl
theorem de_or {rest : List Expr} {m n : M D} (h1 : DE X W a m) (h2 : DE X W (.BoolOp .Or (b :: rest) pos) n) : DE X W (.BoolOp .Or (a :: b :: rest) pos) (mOrV m n) := by
  obtain ⟨t, p, k⟩ := h1
  obtain ⟨u, q, l⟩ := h2
  refine ⟨_, pe_or p q, fun fr B σ H ρ Q s h => ?_⟩
  refine k fr B σ H ρ _ s (h.tst fun d ρ1 h v B1 H1 t1 s1 r1 => ⟨d, r1.bl_inv, ?_⟩)
  cases d with
  | true => exact (Go.pure h) _ B1 H1 t1 s1 .bl
  | false => exact l fr B1 σ H1 ρ1 Q s1 (h.later t1 fun _ _ q v B2 H2 t2 s2 => q v B2 H2 (t1.trans t2) s2)
theorem de_not {m : M D} (h : DE X W a m) : DE X W (.UnaryOp .Not a pos) (mNotV m) := by
  obtain ⟨t, p, k⟩ := h
  refine ⟨_, pe_not p, fun fr B σ H ρ Q s h => ?_⟩
  exact k fr B σ H ρ _ s (h.tst fun d ρ1 h v B1 H1 t1 s1 r1 => ⟨d, r1.bl_inv, (Go.pure h) _ B1 H1 t1 s1 .bl⟩)
def mIfE (c : M Bool) (m n : M D) : M D := c.bind fun k => if k then m else n
theorem de_ifE {mc : M Bool} {m n : M D} (hc : DT X W c mc) (h1 : DE X W a m) (h2 : DE X W b n) : DE X W (.IfExp c a b pos) (mIfE mc m n) := by
  obtain ⟨t, p, k⟩ := hc
  obtain ⟨u, q, l⟩ := h1
  obtain ⟨u', q', l'⟩ := h2
  refine ⟨_, pe_ifExp p q q', fun fr B σ H ρ Q s h => ?_⟩
  refine k fr B σ H ρ _ s (h.step fun d ρ1 h B1 H1 t1 s1 => ?_)
  cases d with
  | true => exact l fr B1 σ H1 ρ1 Q s1 (h.later t1 fun _ _ q v B2 H2 t2 s2 => q v B2 H2 (t1.trans t2) s2)
  | false => exact l' fr B1 σ H1 ρ1 Q s1 (h.later t1 fun _ _ q v B2 H2 t2 s2 => q v B2 H2 (t1.trans t2) s2)
/-- a <= b <= c -/
def mCh (f g : D → D → Option D) (ma mb mc : M D) : M D := ma.bind fun a => mb.bind fun b => (M.of ((f a b).bind isBl)).bind fun k => if k then mc.bind fun c => M.of (g b c) else M.pure (.bl false)
theorem dt_chain {op op' : CmpOp} {r r' : R2} {f g : D → D → Option D} {ma mb mc : M D} (hr : OpR X (compareOp op) r) (hr' : OpR X (compareOp op') r') (ho : Op2 X r f) (ho' : Op2 X r' g)
    (ha : DE X W a ma) (hb : DE X W b mb) (hc : DE X W c mc) (hm : lastMarks [op, op'] [b, c] = false := by with_unfolding_all rfl) : DT X W (.Compare a [op, op'] [b, c] pos) (mTst (mCh f g ma mb mc)) := by
  obtain ⟨ta, pa, ka⟩ := ha
  obtain ⟨tb, pb, kb⟩ := hb
  obtain ⟨tc, pc, kc⟩ := hc
  refine ⟨_, pt_chain hr hr' pa pb pc hm, fun fr B σ H ρ Q s h => ?_⟩
  have h0 : Go X.K W fr σ B H ((mCh f g ma mb mc) ρ) (fun d ρ' => ∀ v B' H', To fr B H B' H' → St X.K fr B' σ H' ρ' → Rep X.K B' d v → ∃ k, v = .bl k ∧ Q k H') :=
    h.step fun d ρ1 h v B1 H1 t1 s1 r1 => by
      obtain ⟨q, e, h⟩ := h.of
      cases isBl_inv e
      exact ⟨q, r1.bl_inv, h B1 H1 t1 s1⟩
  refine ka fr B σ H ρ _ s (h0.step fun d1 ρ1 h x B1 H1 t1 s1 r1 => ?_)
  refine kb fr B1 σ H1 ρ1 _ s1 (Go.step (h.later t1 fun _ _ q => q) fun d2 ρ2 h y B2 H2 t2 s2 r2 => ?_)
  obtain ⟨k, e, h⟩ := Go.of (h.step fun _ _ h => h)
  obtain ⟨d3, e1, e2⟩ := Option.bind_eq_some_iff.mp e
  cases isBl_inv e2
  refine ho B2 H2 d1 d2 _ x y _ s2.sub (r1.mono t2.sub.ex) r2 e1 fun v B3 H3 al r3 => ⟨k, r3.bl_inv, ?_⟩
  obtain ⟨s3, t3⟩ := al.st s2
  cases k with
  | true =>
    refine kc fr B3 σ H3 ρ2 _ s3 (Go.step (h.later (t2.trans t3) fun _ _ q => q) fun d4 ρ4 h z B4 H4 t4 s4 r4 => ?_)
    obtain ⟨d5, e5, h⟩ := h.of
    refine ho' B4 H4 d2 d4 d5 y z _ s4.sub (r2.mono (t3.trans t4).sub.ex) r4 e5 fun v B5 H5 al r5 => ?_
    obtain ⟨s5, t5⟩ := al.st s4
    exact h v B5 H5 ((((t1.trans t2).trans t3).trans t4).trans t5) s5 r5
  | false => exact (Go.pure h) _ B3 H3 ((t1.trans t2).trans t3) s3 .bl

/-! ### in -/
def flatD : D → Bool
  | .non => true
  | .bl _ => true
  | .int _ => true
  | .str _ => true
  | _ => false
def eqF : D → D → Bool
  | .non, .non => true
  | .bl a, .bl b => a == b
  | .bl a, .int b => (if a then 1 else 0) == b
  | .int a, .bl b => a == (if b then 1 else 0)
  | .int a, .int b => a == b
  | .str a, .str b => a == b
  | _, _ => false
def inF (x : D) (ds : List D) : Bool := ds.any fun y => eqF y x
section
variable {K : PySem.W.Frag} {B H : Hp}
def vOf : D → V
  | .bl b => .bl b
  | .int i => .int i
  | .str x => .str x
  | _ => .non
theorem vOf_eq {d : D} {v : V} (h : Rep K B d v) (f : flatD d = true) : v = vOf d := by
  cases d with
  | non => exact h.non_inv
  | bl b => exact h.bl_inv
  | int b => exact h.int_inv
  | str b => exact h.str_inv
  | _ => cases f
theorem flat_v {d : D} (f : flatD d = true) : flatV (vOf d) = true := by cases d <;> first | rfl | cases f
theorem eqV_of {a b : D} (fa : flatD a = true) (fb : flatD b = true) : eqV (vOf a) (vOf b) = eqF a b := by
  cases a <;> cases b <;> first | rfl | (cases fa; done) | (cases fb; done)
theorem flat_all : ∀ {ds : List D} {xs : List V}, RepL K B ds xs → ds.all flatD = true → xs.all flatV = true
  | [], _, h, _ => by rw [h.nil_inv]; rfl
  | d :: ds, _, h, f => by
    obtain ⟨y, ys, rfl, r, t⟩ := h.cons_inv
    obtain ⟨f1, f2⟩ := Bool.and_eq_true_iff.mp (show (flatD d && ds.all flatD) = true from f)
    show (flatV y && ys.all flatV) = true
    rw [vOf_eq r f1, flat_v f1, flat_all t f2]
    rfl
theorem inV_of : ∀ {ds : List D} {xs : List V} {x : D} {v : V}, Rep K B x v → flatD x = true → RepL K B ds xs → ds.all flatD = true → inV v xs = inF x ds
  | [], _, _, _, _, _, h, _ => by rw [h.nil_inv]; rfl
  | d :: ds, _, x, v, hx, fx, h, f => by
    obtain ⟨y, ys, rfl, r, t⟩ := h.cons_inv
    obtain ⟨f1, f2⟩ := Bool.and_eq_true_iff.mp (show (flatD d && ds.all flatD) = true from f)
    show (eqV y v || inV v ys) = (eqF d x || inF x ds)
    rw [inV_of hx fx t f2, vOf_eq r f1, vOf_eq hx fx, eqV_of f1 fx]
end
/-- x in a list, a tuple of flat things -/
def inSeq (x y : D) : Option Bool := match y with
  | .lst ds => if flatD x && ds.all flatD then some (inF x ds) else none
  | .tup ds => if flatD x && ds.all flatD then some (inF x ds) else none
  | _ => none
/-- .. in a dict -/
def keyD : D → Option Key
  | .int i => some (.inl i)
  | .str x => some (.inr x)
  | _ => none
theorem keyD_v {K : PySem.W.Frag} {B : Hp} {d : D} {k : Key} {v : V} (h : keyD d = some k) (r : Rep K B d v) : v = kV k := by
  cases d <;> cases h
  · exact r.int_inv
  · exact r.str_inv
def inDct (x y : D) : Option Bool := match y with
  | .dct kvs => (keyD x).map fun k => (valD kvs k).isSome
  | _ => none
def inStr (x y : D) : Option Bool := match x, y with
  | .str i, .str j => some (!(Builtin.Str.occurrences j i 0 j.length 1).isEmpty)
  | _, _ => none
def inSg (x y : D) : Option Bool := match x, y with
  | .str i, .str j => match i.cps.toList with
    | [c] => some (decide (c ∈ j.cps.toList))
    | _ => none
  | _, _ => none
theorem str_one {i : Str} {c : Nat} (h : i.cps.toList = [c]) : i = ⟨#[c]⟩ := by
  obtain ⟨⟨l⟩⟩ := i
  have h : l = [c] := h
  subst h
  rfl
def inD (x y : D) : Option Bool := (inSeq x y).or ((inDct x y).or ((inSg x y).or (inStr x y)))
def fIn (x y : D) : Option D := (inD x y).map .bl
def fNotIn (x y : D) : Option D := (inD x y).map fun k => .bl (!k)
def rInDct (neg : Bool) : R2 := fun x y H Q => ∃ a o, y = .ref a ∧ DGet H a x o ∧ Q (.bl (if neg then !o.isSome else o.isSome)) H
theorem op_in_dct (hu : X.A.units + 1 < cLine) : OpR X (compareOp .In) (rInDct false) := by
  intro pins s σ H x y v u Q I rx ry h
  obtain ⟨a, o, rfl, g, q⟩ := h
  obtain rfl : u = Value.ref a := ry
  exact d_in hu I g rx fun s3 I3 => ⟨.bl o.isSome, H, I3, rfl, q⟩
theorem op_notIn_dct (hu : X.A.units + 1 < cLine) : OpR X (compareOp .NotIn) (rInDct true) := by
  intro pins s σ H x y v u Q I rx ry h
  obtain ⟨a, o, rfl, g, q⟩ := h
  obtain rfl : u = Value.ref a := ry
  exact d_notIn hu I g rx fun s3 I3 => ⟨.bl (!o.isSome), H, I3, rfl, q⟩
def rInStr (neg : Bool) : R2 := fun x y H Q => ∃ i j, x = .str i ∧ y = .str j ∧ Q (.bl (if neg then !(!(Builtin.Str.occurrences j i 0 j.length 1).isEmpty) else !(Builtin.Str.occurrences j i 0 j.length 1).isEmpty)) H
def rInSg (neg : Bool) : R2 := fun x y H Q => ∃ (c : Nat) (z : Str), x = .str ⟨#[c]⟩ ∧ y = .str z ∧ Q (.bl (if neg then !decide (c ∈ z.cps.toList) else decide (c ∈ z.cps.toList))) H
def rInAll (K : PySem.W.Frag) (neg : Bool) : R2 := fun x y H Q => rIn K neg x y H Q ∨ (rInDct neg x y H Q ∨ (rInSg neg x y H Q ∨ rInStr neg x y H Q))
theorem op_inAll (hu : X.A.units + 1 < cLine) : OpR X (compareOp .In) (rInAll X.K false) := OpR.or op_in_seq (OpR.or (op_in_dct hu) (OpR.or op_in_sign op_in_str))
theorem op_notInAll (hu : X.A.units + 1 < cLine) : OpR X (compareOp .NotIn) (rInAll X.K true) := OpR.or op_notIn_seq (OpR.or (op_notIn_dct hu) (OpR.or op_notIn_sign op_notIn_str))
theorem RepK.val {K : PySem.W.Frag} {B : Hp} : ∀ {ds : List (Key × D)} {xs : List (Key × V)} {k : Key}, RepK K B ds xs → (valD ds k = none ∧ valV xs k = none) ∨ ∃ d v, valD ds k = some d ∧ valV xs k = some v ∧ Rep K B d v
  | [], _, k, h => by rw [h.nil_inv]; exact .inl ⟨rfl, rfl⟩
  | (j, d) :: ds, _, k, h => by
    obtain ⟨y, ys, rfl, r, t⟩ := h.cons_inv
    unfold valD valV
    rw [List.find?_cons, List.find?_cons]
    by_cases e : j = k
    · simp only [e, decide_true]
      exact .inr ⟨d, y, rfl, rfl, r⟩
    · simp only [e, decide_false]
      exact RepK.val t
theorem dget_of {K : PySem.W.Frag} {B H : Hp} (sb : Sub B H) {a : Addr} {ws : List (Key × V)} {k : Key} (h : DRd B a ws) : DGet H a (kV k) (valV ws k) := by
  obtain ⟨o, h1, h2⟩ := h
  refine .inl ⟨ws, k, ?_, rfl, rfl⟩
  rcases h2 with rfl | ⟨od, rfl⟩
  · exact .inl (sb _ _ h1)
  · exact .inr ⟨od, sb _ _ h1⟩
theorem inD_ok {B H : Hp} {x y : D} {vx vy : V} {k : Bool} {neg : Bool} {Q : VK} (sb : Sub B H) (rx : Rep X.K B x vx) (ry : Rep X.K B y vy) (e : inD x y = some k) (q : Q (.bl (if neg then !k else k)) H) : rInAll X.K neg vx vy H Q := by
  unfold inD at e
  cases e1 : inSeq x y with
  | some k1 =>
    rw [e1] at e
    have ek : k1 = k := Option.some.inj e
    subst ek
    refine .inl ?_
    unfold inSeq at e1
    split at e1
    · rename_i ds
      split at e1
      · rename_i c
        obtain ⟨c1, c2⟩ := Bool.and_eq_true_iff.mp c
        obtain ⟨p, xs, rfl, h1, h2⟩ := ry.lst_inv
        refine ⟨p, xs, rfl, .inl ((rd_sub sb h1)), by rw [vOf_eq rx c1]; exact flat_v c1, flat_all h2 c2, ?_⟩
        rw [inV_of rx c1 h2 c2, Option.some.inj e1]
        exact q
      · cases e1
    · rename_i ds
      split at e1
      · rename_i c
        obtain ⟨c1, c2⟩ := Bool.and_eq_true_iff.mp c
        obtain ⟨p, xs, rfl, h1, h2⟩ := ry.tup_inv
        refine ⟨p, xs, rfl, .inr (ex_t sb.ex h1), by rw [vOf_eq rx c1]; exact flat_v c1, flat_all h2 c2, ?_⟩
        rw [inV_of rx c1 h2 c2, Option.some.inj e1]
        exact q
      · cases e1
    · cases e1
  | none =>
    rw [e1] at e
    have e : (inDct x y).or ((inSg x y).or (inStr x y)) = some k := e
    refine .inr ?_
    cases e2 : inDct x y with
    | some k2 =>
      rw [e2] at e
      have ek : k2 = k := Option.some.inj e
      subst ek
      refine .inl ?_
      unfold inDct at e2
      split at e2
      · rename_i kvs
        obtain ⟨key, e3, rfl⟩ := Option.map_eq_some_iff.mp e2
        obtain ⟨a, ws, rfl, h1, h2⟩ := ry.dct_inv
        refine ⟨a, valV ws key, rfl, by rw [keyD_v e3 rx]; exact dget_of (K := X.K) sb h1, ?_⟩
        rcases h2.val (k := key) with ⟨z1, z2⟩ | ⟨d, v, z1, z2, _⟩
        · rw [z1] at q; rw [z2]; exact q
        · rw [z1] at q; rw [z2]; exact q
      · cases e2
    | none =>
      rw [e2] at e
      have e : (inSg x y).or (inStr x y) = some k := e
      refine .inr ?_
      cases e3 : inSg x y with
      | some k3 =>
        rw [e3] at e
        have ek : k3 = k := Option.some.inj e
        subst ek
        refine .inl ?_
        unfold inSg at e3
        split at e3
        · rename_i i j
          split at e3
          · rename_i c hc
            have e4 := Option.some.inj e3
            subst e4
            refine ⟨c, _, ?_, ry.str_inv, q⟩
            rw [rx.str_inv, str_one hc]
          · cases e3
        · cases e3
      | none =>
        rw [e3] at e
        have e : inStr x y = some k := e
        refine .inr ?_
        unfold inStr at e
        split at e
        · cases e
          exact ⟨_, _, rx.str_inv, ry.str_inv, q⟩
        · cases e
theorem o_in : Op2 X (rInAll X.K false) fIn := by
  intro B H a b d x y Q sb ra rb e k
  obtain ⟨q, e1, rfl⟩ := Option.map_eq_some_iff.mp e
  exact inD_ok sb ra rb e1 (k _ B H .same .bl)
theorem o_notIn : Op2 X (rInAll X.K true) fNotIn := by
  intro B H a b d x y Q sb ra rb e k
  obtain ⟨q, e1, rfl⟩ := Option.map_eq_some_iff.mp e
  exact inD_ok sb ra rb e1 (k _ B H .same .bl)
/-! ### subscripts of dicts -/
def rIxDct : R2 := fun x y H Q => ∃ a v, x = .ref a ∧ DGet H a y (some v) ∧ Q v H
theorem ix_dct (hu : X.A.units + 1 < cLine) : IxR X rIxDct := by
  intro value slice pins s σ H x y v u Q I rx ry h hs
  obtain ⟨a, r, rfl, g, q⟩ := h
  obtain rfl : v = Value.ref a := rx
  exact tail_any (dict_typeIs I g) PySem.F.slot_dict_getitem.lookup (d_getItem hu I g ry fun w' s3 I3 rw' => ⟨r, H, I3, rw', q⟩) hs
def fIxD (a b : D) : Option D := match a with
  | .dct kvs => (keyD b).bind (valD kvs)
  | _ => none
theorem o_ixD : Op2 X rIxDct fIxD := by
  intro B H a b d x y Q sb ra rb e k
  unfold fIxD at e
  split at e
  · rename_i kvs
    obtain ⟨key, e1, e2⟩ := Option.bind_eq_some_iff.mp e
    obtain ⟨p, ws, rfl, h1, h2⟩ := ra.dct_inv
    rcases h2.val (k := key) with ⟨z1, z2⟩ | ⟨d', v, z1, z2, r⟩
    · rw [z1] at e2; cases e2
    · rw [z1] at e2
      cases e2
      refine ⟨p, v, rfl, ?_, k v B H .same r⟩
      have g := dget_of (K := X.K) (k := key) sb h1
      rw [z2] at g
      rw [keyD_v e1 rb]
      exact g
  · cases e
def fIx (a b : D) : Option D := (fIxT a b).or ((fIxL a b).or ((fIxS a b).or (fIxD a b)))
def rIxAll (K : PySem.W.Frag) : R2 := fun x y H Q => rIxT K x y H Q ∨ (rIxL K x y H Q ∨ (rIxS x y H Q ∨ rIxDct x y H Q))
theorem ix_all (hu : X.A.units + 1 < cLine) : IxR X (rIxAll X.K) := IxR.or ix_tup (IxR.or ix_list (IxR.or ix_str (ix_dct hu)))
theorem o_ix : Op2 X (rIxAll X.K) fIx := Op2.or o_ixT (Op2.or o_ixL (Op2.or o_ixS o_ixD))
end
end EE
end

section
set_option Elab.async false
set_option linter.all false
set_option maxRecDepth 100000
set_option maxHeartbeats 4000000
/-! E7: built-ins on data -/
namespace EE
open PySem PySem.Spec PyProof.Rows L2
variable [XAd]
section
variable {X : Cx} {W : Wn} {K : PySem.W.Frag} {B H : Hp}

theorem OpN.or {r r' : List V → Hp → VK → Prop} {f f' : List D → Option D} (h : OpN X r f) (h' : OpN X r' f') : OpN X (fun xs H Q => r xs H Q ∨ r' xs H Q) (fun a => (f a).or (f' a)) := by
  intro B H a d x Q sb ra e k
  have e : (f a).or (f' a) = some d := e
  cases q : f a with
  | some d' =>
    rw [q] at e
    cases e
    exact .inl (h B H a _ x Q sb ra q k)
  | none =>
    rw [q] at e
    exact .inr (h' B H a d x Q sb ra e k)
theorem one_inv {ds : List D} {xs : List V} {d : D} (r : RepL K B [d] xs) : ∃ x, xs = [x] ∧ Rep K B d x := by
  obtain ⟨y, ys, rfl, r1, r2⟩ := r.cons_inv
  rw [r2.nil_inv]
  exact ⟨y, rfl, r1⟩

/-! ### len -/
def fLenS (as : List D) : Option D := match as with
  | [.str x] => if x.length ≤ 1000000 then some (.int x.length) else none
  | [.lst ds] => some (.int ds.length)
  | [.tup ds] => some (.int ds.length)
  | _ => none
def fLenD (as : List D) : Option D := match as with
  | [.dct kvs] => some (.int kvs.length)
  | _ => none
def fLen (as : List D) : Option D := (fLenS as).or (fLenD as)
def rLn (K : PySem.W.Frag) : List V → Hp → VK → Prop := fun xs H Q => ∃ x n, xs = [x] ∧ LenV K x H n ∧ Q (.int n) H
def rLnD : List V → Hp → VK → Prop := fun xs H Q => ∃ a kvs, xs = [V.ref a] ∧ Rd H a (.dK kvs) ∧ Q (.int kvs.length) H
theorem o_lenS : OpN X (rLn X.K) fLenS := by
  intro B H as d xs Q sb r e k
  unfold fLenS at e
  split at e
  · split at e
    · rename_i x c
      cases e
      obtain ⟨v, rfl, r1⟩ := one_inv (ds := []) r
      exact ⟨v, _, rfl, by rw [r1.str_inv]; exact ⟨line_of c, rfl⟩, k _ B H .same .int⟩
    · cases e
  · cases e
    obtain ⟨v, rfl, r1⟩ := one_inv (ds := []) r
    obtain ⟨a, xs, rfl, h1, h2⟩ := r1.lst_inv
    exact ⟨_, _, rfl, .inl ⟨xs, (rd_sub sb h1), by rw [h2.length]⟩, k _ B H .same .int⟩
  · cases e
    obtain ⟨v, rfl, r1⟩ := one_inv (ds := []) r
    obtain ⟨a, xs, rfl, h1, h2⟩ := r1.tup_inv
    exact ⟨_, _, rfl, .inr ⟨xs, ex_t sb.ex h1, by rw [h2.length]⟩, k _ B H .same .int⟩
  · cases e
theorem rd_of (sb : Sub B H) {a : Addr} {ws : List (Key × V)} (h : DRd B a ws) : Rd H a (.dK ws) := by
  obtain ⟨o, h1, h2⟩ := h
  rcases h2 with rfl | ⟨od, rfl⟩
  · exact .inl (sb _ _ h1)
  · exact .inr ⟨od, sb _ _ h1⟩
theorem o_lenD : OpN X rLnD fLenD := by
  intro B H as d xs Q sb r e k
  unfold fLenD at e
  split at e
  · cases e
    obtain ⟨v, rfl, r1⟩ := one_inv (ds := []) r
    obtain ⟨a, ws, rfl, h1, h2⟩ := r1.dct_inv
    refine ⟨a, ws, rfl, rd_of sb h1, ?_⟩
    rw [h2.length]
    exact k _ B H .same .int
  · cases e
theorem cr_lenD : CallR X (.builtin "len") rLnD := by
  intro pins s σ H xs us Q I r h
  obtain ⟨a, kvs, rfl, ha, q⟩ := h
  obtain ⟨u, rfl, ru⟩ := vals1 r
  cases ru
  exact d_len I ha fun t s' I' => ⟨.int kvs.length, H, I', ⟨t, rfl⟩, q⟩
def rLenAll (K : PySem.W.Frag) : List V → Hp → VK → Prop := fun xs H Q => rLn K xs H Q ∨ rLnD xs H Q
theorem cr_len : CallR X (.builtin "len") (rLenAll X.K) := CallR.or call_len cr_lenD
theorem o_len : OpN X (rLenAll X.K) fLen := OpN.or o_lenS o_lenD
/-! ### tuple(..), list(..), dict(..) -/
def fTupOf (as : List D) : Option D := match as with
  | [.lst ds] => some (.tup ds)
  | [.tup ds] => some (.tup ds)
  | _ => none
def rTupOf (K : PySem.W.Frag) : List V → Hp → VK → Prop := fun xs H Q => ∃ p ys, xs = [.ref p] ∧ ((SqL K H p ys ∧ ∀ l, H l = none → Q (.ref l) (upd H l (.tup ys))) ∨ (SqT K H p ys ∧ Q (.ref p) H))
theorem o_tupOf : OpN X (rTupOf X.K) fTupOf := by
  intro B H as d xs Q sb r e k
  unfold fTupOf at e
  split at e
  · cases e
    obtain ⟨v, rfl, r1⟩ := one_inv (ds := []) r
    obtain ⟨a, xs, rfl, h1, h2⟩ := r1.lst_inv
    exact ⟨a, xs, rfl, .inl ⟨(rd_sub sb h1), fun l hl => k _ _ _ (.new hl) (.tup (.inl (.inl upd_same)) (h2.mono (Ex.upd (sb.none hl))))⟩⟩
  · cases e
    obtain ⟨v, rfl, r1⟩ := one_inv (ds := []) r
    obtain ⟨a, xs, rfl, h1, h2⟩ := id r1.tup_inv
    exact ⟨a, xs, rfl, .inr ⟨ex_t sb.ex h1, k _ _ _ .same r1⟩⟩
  · cases e
def keyV : Key → D
  | .inl i => .int i
  | .inr x => .str x
theorem keyV_rep {k : Key} : Rep K B (keyV k) (kV k) := by cases k <;> first | exact .int | exact .str
def fLstOf (as : List D) : Option D := match as with
  | [.lst ds] => some (.lst ds)
  | [.tup ds] => some (.lst ds)
  | _ => none
def fLstOfD (as : List D) : Option D := match as with
  | [.dct kvs] => some (.lst (kvs.map fun p => keyV p.1))
  | _ => none
def rLstOf (K : PySem.W.Frag) : List V → Hp → VK → Prop := fun xs H Q => ∃ p ys, xs = [.ref p] ∧ (SqL K H p ys ∨ SqT K H p ys) ∧ ∀ l, H l = none → Q (.ref l) (upd H l (.lst ys))
def rLstOfD : List V → Hp → VK → Prop := fun xs H Q => ∃ (a : Addr) (kvs : List (Key × V)), xs = [.ref a] ∧ Rd H a (.dK kvs) ∧ ∀ p, H p = none → Q (.ref p) (upd H p (.lst (kvs.map fun kv => kV kv.1)))
theorem o_lstOf : OpN X (rLstOf X.K) fLstOf := by
  intro B H as d xs Q sb r e k
  unfold fLstOf at e
  split at e
  · cases e
    obtain ⟨v, rfl, r1⟩ := one_inv (ds := []) r
    obtain ⟨a, xs, rfl, h1, h2⟩ := r1.lst_inv
    exact ⟨a, xs, rfl, .inl ((rd_sub sb h1)), fun l hl => k _ _ _ (.new hl) (.lst upd_same (h2.mono (Ex.upd (sb.none hl))))⟩
  · cases e
    obtain ⟨v, rfl, r1⟩ := one_inv (ds := []) r
    obtain ⟨a, xs, rfl, h1, h2⟩ := r1.tup_inv
    exact ⟨a, xs, rfl, .inr (ex_t sb.ex h1), fun l hl => k _ _ _ (.new hl) (.lst upd_same (h2.mono (Ex.upd (sb.none hl))))⟩
  · cases e
theorem RepK.keys : ∀ {ds : List (Key × D)} {ws : List (Key × V)}, RepK K B ds ws → RepL K B (ds.map fun p => keyV p.1) (ws.map fun p => kV p.1)
  | [], _, h => by rw [h.nil_inv]; exact .nil
  | (k, d) :: ds, _, h => by
    obtain ⟨y, ys, rfl, r, t⟩ := h.cons_inv
    exact .cons keyV_rep (RepK.keys t)
theorem RepK.vals : ∀ {ds : List (Key × D)} {ws : List (Key × V)}, RepK K B ds ws → RepL K B (ds.map (·.2)) (ws.map (·.2))
  | [], _, h => by rw [h.nil_inv]; exact .nil
  | (k, d) :: ds, _, h => by
    obtain ⟨y, ys, rfl, r, t⟩ := h.cons_inv
    exact .cons r (RepK.vals t)
theorem RepK.fsts : ∀ {ds : List (Key × D)} {ws : List (Key × V)}, RepK K B ds ws → ws.map (·.1) = ds.map (·.1)
  | [], _, h => by rw [h.nil_inv]; rfl
  | (k, d) :: ds, _, h => by
    obtain ⟨y, ys, rfl, r, t⟩ := h.cons_inv
    rw [List.map_cons, List.map_cons, RepK.fsts t]
theorem o_lstOfD : OpN X rLstOfD fLstOfD := by
  intro B H as d xs Q sb r e k
  unfold fLstOfD at e
  split at e
  · cases e
    obtain ⟨v, rfl, r1⟩ := one_inv (ds := []) r
    obtain ⟨a, ws, rfl, h1, h2⟩ := r1.dct_inv
    exact ⟨a, ws, rfl, rd_of sb h1, fun l hl => k _ _ _ (.new hl) (.lst upd_same (h2.keys.mono (Ex.upd (sb.none hl))))⟩
  · cases e
def fListAll (as : List D) : Option D := (fLstOf as).or (fLstOfD as)
def rListAll (K : PySem.W.Frag) : List V → Hp → VK → Prop := fun xs H Q => rLstOf K xs H Q ∨ rLstOfD xs H Q
theorem cr_list (hc : X.calm = true) : CallR X (.type "list") (rListAll X.K) := CallR.or call_list_of (call_listD hc)
theorem o_listAll : OpN X (rListAll X.K) fListAll := OpN.or o_lstOf o_lstOfD
def fDctOf (as : List D) : Option D := match as with
  | [.dct kvs] => some (.dct kvs)
  | _ => none
def rDctOf : List V → Hp → VK → Prop := fun xs H Q => ∃ (a : Addr) (kvs : List (Key × V)), xs = [.ref a] ∧ Rd H a (.dK kvs) ∧ ∀ p, H p = none → Q (.ref p) (upd H p (.dK kvs))
theorem o_dctOf : OpN X rDctOf fDctOf := by
  intro B H as d xs Q sb r e k
  unfold fDctOf at e
  split at e
  · cases e
    obtain ⟨v, rfl, r1⟩ := one_inv (ds := []) r
    obtain ⟨a, ws, rfl, h1, h2⟩ := r1.dct_inv
    exact ⟨a, ws, rfl, rd_of sb h1, fun l hl => k _ _ _ (.new hl) (.dct ⟨_, upd_same, .inl rfl⟩ (h2.mono (Ex.upd (sb.none hl))))⟩
  · cases e
/-! ### all, any -/
def blsD : List D → Option (List Bool)
  | [] => some []
  | d :: ds => match isBl d, blsD ds with
    | some b, some bs => some (b :: bs)
    | _, _ => none
theorem blsD_inv : ∀ {ds : List D} {bs : List Bool}, blsD ds = some bs → ds = bs.map D.bl
  | [], bs, e => by unfold blsD at e; cases e; rfl
  | d :: ds, bs, e => by
    unfold blsD at e
    split at e
    · rename_i b bs' e1 e2
      cases e
      rw [isBl_inv e1, blsD_inv e2]
      rfl
    · cases e
theorem rep_bls : ∀ {bs : List Bool} {xs : List V}, RepL K B (bs.map D.bl) xs → xs = bs.map V.bl
  | [], _, h => h.nil_inv
  | b :: bs, _, h => by
    obtain ⟨y, ys, rfl, r, t⟩ := h.cons_inv
    rw [r.bl_inv, rep_bls t]
    rfl
def fAll (as : List D) : Option D := match as with
  | [.lst ds] => (blsD ds).map fun bs => .bl (bs.all id)
  | _ => none
def fAny (as : List D) : Option D := match as with
  | [.lst ds] => (blsD ds).map fun bs => .bl (bs.any id)
  | _ => none
theorem o_all : OpN X (rAll X.K) fAll := by
  intro B H as d xs Q sb r e k
  unfold fAll at e
  split at e
  · obtain ⟨bs, e1, rfl⟩ := Option.map_eq_some_iff.mp e
    cases blsD_inv e1
    obtain ⟨v, rfl, r1⟩ := one_inv (ds := []) r
    obtain ⟨a, ws, rfl, h1, h2⟩ := r1.lst_inv
    cases rep_bls h2
    exact ⟨a, bs, rfl, (rd_sub sb h1), k _ B H .same .bl⟩
  · cases e
theorem o_any : OpN X (rAny X.K) fAny := by
  intro B H as d xs Q sb r e k
  unfold fAny at e
  split at e
  · obtain ⟨bs, e1, rfl⟩ := Option.map_eq_some_iff.mp e
    cases blsD_inv e1
    obtain ⟨v, rfl, r1⟩ := one_inv (ds := []) r
    obtain ⟨a, ws, rfl, h1, h2⟩ := r1.lst_inv
    cases rep_bls h2
    exact ⟨a, bs, rfl, (rd_sub sb h1), k _ B H .same .bl⟩
  · cases e
/-! ### sorted of texts, of a dict's keys -/
def leS (a b : Str) : Bool := !ltCps b.cps.toList a.cps.toList
def sortS (xs : List Str) : List Str := xs.mergeSort leS
def strsD : List D → Option (List Str)
  | [] => some []
  | .str x :: ds => (strsD ds).map (x :: ·)
  | _ :: _ => none
theorem strsD_inv : ∀ {ds : List D} {xs : List Str}, strsD ds = some xs → ds = xs.map D.str
  | [], xs, e => by unfold strsD at e; cases e; rfl
  | .str x :: ds, xs, e => by
    unfold strsD at e
    obtain ⟨ys, e1, rfl⟩ := Option.map_eq_some_iff.mp e
    rw [strsD_inv e1]; rfl
  | .non :: _, _, e => by unfold strsD at e; cases e
  | .bl _ :: _, _, e => by unfold strsD at e; cases e
  | .int _ :: _, _, e => by unfold strsD at e; cases e
  | .tup _ :: _, _, e => by unfold strsD at e; cases e
  | .lst _ :: _, _, e => by unfold strsD at e; cases e
  | .dct _ :: _, _, e => by unfold strsD at e; cases e
  | .ins _ _ :: _, _, e => by unfold strsD at e; cases e
theorem rep_strs : ∀ {bs : List Str} {xs : List V}, RepL K B (bs.map D.str) xs → xs = bs.map V.str
  | [], _, h => h.nil_inv
  | b :: bs, _, h => by
    obtain ⟨y, ys, rfl, r, t⟩ := h.cons_inv
    rw [r.str_inv, rep_strs t]
    rfl
theorem strs_rep : ∀ {bs : List Str}, RepL K B (bs.map D.str) (bs.map V.str)
  | [] => .nil
  | b :: bs => .cons .str strs_rep
def keysS : List (Key × D) → Option (List Str)
  | [] => some []
  | (.inr x, _) :: ds => (keysS ds).map (x :: ·)
  | (.inl _, _) :: _ => none
theorem keysS_inv : ∀ {ds : List (Key × D)} {xs : List Str}, keysS ds = some xs → ds.map (·.1) = xs.map Sum.inr
  | [], xs, e => by unfold keysS at e; cases e; rfl
  | (.inr x, _) :: ds, xs, e => by
    unfold keysS at e
    obtain ⟨ys, e1, rfl⟩ := Option.map_eq_some_iff.mp e
    rw [List.map_cons, keysS_inv e1]; rfl
  | (.inl _, _) :: _, _, e => by unfold keysS at e; cases e
theorem ltC_irrefl : ∀ a : List Nat, ltCps a a = false
  | [] => rfl
  | a :: r => by
    show (decide (a < a) || (a == a && ltCps r r)) = false
    rw [ltC_irrefl r]; simp
theorem ltC_asymm : ∀ {a b : List Nat}, ltCps a b = true → ltCps b a = false
  | [], [], h => by cases h
  | [], _ :: _, _ => rfl
  | _ :: _, [], h => by cases h
  | a :: r, b :: t, h => by
    have h : (decide (a < b) || (a == b && ltCps r t)) = true := h
    show (decide (b < a) || (b == a && ltCps t r)) = false
    by_cases e : a = b
    · subst e
      have h2 : ltCps r t = true := by simpa using h
      rw [ltC_asymm h2]; simp
    · have h2 : a < b := by simpa [e] using h
      have h3 : ¬ b < a := by omega
      have h4 : ¬ b = a := fun z => e z.symm
      simp [h3, h4]
theorem ltC_trans : ∀ {a b c : List Nat}, ltCps a b = true → ltCps b c = true → ltCps a c = true
  | [], [], _, h, _ => by cases h
  | [], _ :: _, [], _, h => by cases h
  | [], _ :: _, _ :: _, _, _ => rfl
  | _ :: _, [], _, h, _ => by cases h
  | _ :: _, _ :: _, [], _, h => by cases h
  | a :: r, b :: t, c :: u, h, k => by
    have h : (decide (a < b) || (a == b && ltCps r t)) = true := h
    have k : (decide (b < c) || (b == c && ltCps t u)) = true := k
    show (decide (a < c) || (a == c && ltCps r u)) = true
    simp only [Bool.or_eq_true, decide_eq_true_eq, Bool.and_eq_true, beq_iff_eq] at h k ⊢
    rcases h with h | ⟨h1, h2⟩ <;> rcases k with k | ⟨k1, k2⟩
    · exact .inl (by omega)
    · exact .inl (by omega)
    · exact .inl (by omega)
    · exact .inr ⟨by omega, ltC_trans h2 k2⟩
theorem ltC_tri : ∀ {a b : List Nat}, ltCps a b = false → ltCps b a = false → a = b
  | [], [], _, _ => rfl
  | [], _ :: _, h, _ => by cases h
  | _ :: _, [], _, h => by cases h
  | a :: r, b :: t, h, k => by
    have h : (decide (a < b) || (a == b && ltCps r t)) = false := h
    have k : (decide (b < a) || (b == a && ltCps t r)) = false := k
    simp only [Bool.or_eq_false_iff, decide_eq_false_iff_not, Bool.and_eq_false_iff, beq_eq_false_iff_ne] at h k
    have e : a = b := by omega
    subst e
    rw [ltC_tri (a := r) (b := t) (by simpa using h.2) (by simpa using k.2)]
theorem str_ext {a b : Str} (h : a.cps.toList = b.cps.toList) : a = b := by
  obtain ⟨⟨a⟩⟩ := a
  obtain ⟨⟨b⟩⟩ := b
  have h : a = b := h
  rw [h]
theorem leS_trans : ∀ a b c : Str, leS a b = true → leS b c = true → leS a c = true := fun a b c h k => by
  unfold leS at *
  cases e : ltCps c.cps.toList a.cps.toList with
  | false => rfl
  | true =>
    have h' : ltCps b.cps.toList a.cps.toList = false := by simpa using h
    have k' : ltCps c.cps.toList b.cps.toList = false := by simpa using k
    cases e2 : ltCps a.cps.toList b.cps.toList with
    | true => rw [ltC_trans e e2] at k'; cases k'
    | false => rw [str_ext (ltC_tri e2 h')] at e; rw [e] at k'; cases k'
theorem leS_total : ∀ a b : Str, (leS a b || leS b a) = true := fun a b => by
  unfold leS
  cases e : ltCps b.cps.toList a.cps.toList with
  | false => rfl
  | true => rw [ltC_asymm e]; rfl
theorem leS_anti : ∀ a b : Str, leS a b = true → leS b a = true → a = b := fun a b h k => by
  unfold leS at *
  exact str_ext (ltC_tri (by simpa using k) (by simpa using h))
theorem rising_all : ∀ {xs : List Str} {p : Str}, risingS p xs = true → ∀ x ∈ xs, leS p x = true
  | [], _, _, _, hx => by cases hx
  | y :: ys, p, h, x, hx => by
    obtain ⟨h1, h2⟩ := Bool.and_eq_true_iff.mp (show (!ltCps y.cps.toList p.cps.toList && risingS y ys) = true from h)
    rcases List.mem_cons.mp hx with rfl | hx
    · exact h1
    · exact leS_trans _ _ _ h1 (rising_all h2 x hx)
theorem rising_pair : ∀ {xs : List Str} {p : Str}, risingS p xs = true → (p :: xs).Pairwise (fun a b => leS a b = true)
  | [], p, _ => List.pairwise_cons.mpr ⟨fun _ h => (nomatch h), .nil⟩
  | y :: ys, p, h => by
    obtain ⟨h1, h2⟩ := Bool.and_eq_true_iff.mp (show (!ltCps y.cps.toList p.cps.toList && risingS y ys) = true from h)
    exact List.pairwise_cons.mpr ⟨rising_all h, rising_pair h2⟩
theorem sortS_eq {ys xs : List Str} (p : ys.Perm xs) (h : sortedS ys = true) : ys = sortS xs := by
  refine PySem.W.Srt.the_of_perm leS leS_trans leS_total leS_anti p ?_
  cases ys with
  | nil => exact .nil
  | cons y ys => exact rising_pair h
def fSortL (as : List D) : Option D := match as with
  | [.lst ds] => (strsD ds).bind fun xs => if xs.length < 64 then some (.lst ((sortS xs).map .str)) else none
  | _ => none
def fSortD (as : List D) : Option D := match as with
  | [.dct kvs] => (keysS kvs).bind fun xs => if xs.length < 64 then some (.lst ((sortS xs).map .str)) else none
  | _ => none
theorem o_sortL : OpN X (rSortedS X.K) fSortL := by
  intro B H as d xs Q sb r e k
  unfold fSortL at e
  split at e
  · obtain ⟨zs, e1, e2⟩ := Option.bind_eq_some_iff.mp e
    cases strsD_inv e1
    split at e2
    · rename_i c
      cases e2
      obtain ⟨v, rfl, r1⟩ := one_inv (ds := []) r
      obtain ⟨a, ws, rfl, h1, h2⟩ := r1.lst_inv
      cases rep_strs h2
      refine ⟨a, zs, rfl, (rd_sub sb h1), c, fun ys p q1 q2 hp => ?_⟩
      rw [sortS_eq q1 q2]
      exact k _ _ _ (.new hp) (.lst upd_same strs_rep)
    · cases e2
  · cases e
def rSortD : List V → Hp → VK → Prop := fun xs H Q => ∃ (a : Addr) (kvs : List (Key × V)) (ks : List Str), xs = [.ref a] ∧ Rd H a (.dK kvs) ∧ kvs.map (·.1) = ks.map Sum.inr ∧ ks.length < 64 ∧
    ∀ ys p, ys.Perm ks → sortedS ys = true → H p = none → Q (.ref p) (upd H p (.lst (ys.map V.str)))
theorem o_sortD : OpN X rSortD fSortD := by
  intro B H as d xs Q sb r e k
  unfold fSortD at e
  split at e
  · obtain ⟨zs, e1, e2⟩ := Option.bind_eq_some_iff.mp e
    split at e2
    · rename_i c
      cases e2
      obtain ⟨v, rfl, r1⟩ := one_inv (ds := []) r
      obtain ⟨a, ws, rfl, h1, h2⟩ := r1.dct_inv
      refine ⟨a, ws, zs, rfl, rd_of sb h1, by rw [h2.fsts]; exact keysS_inv e1, c, fun ys p q1 q2 hp => ?_⟩
      rw [sortS_eq q1 q2]
      exact k _ _ _ (.new hp) (.lst upd_same strs_rep)
    · cases e2
  · cases e
def fSorted (as : List D) : Option D := (fSortL as).or (fSortD as)
def rSortAll (K : PySem.W.Frag) : List V → Hp → VK → Prop := fun xs H Q => rSortedS K xs H Q ∨ rSortD xs H Q
theorem cr_sort (hc : X.calm = true) : CallR X (.builtin "sorted") (rSortAll X.K) := CallR.or cr_sortedS (call_sortedD hc)
theorem o_sorted : OpN X (rSortAll X.K) fSorted := OpN.or o_sortL o_sortD
/-! ### abs, int -/
def fAbs (as : List D) : Option D := match as with
  | [.int i] => some (.int (if i < 0 then -i else i))
  | _ => none
def fInt (as : List D) : Option D := match as with
  | [.int i] => some (.int i)
  | _ => none
theorem o_abs : OpN X (fun xs H Q => ∃ i, xs = [.int i] ∧ Q (.int (if i < 0 then -i else i)) H) fAbs := by
  intro B H as d xs Q sb r e k
  unfold fAbs at e
  split at e
  · cases e
    obtain ⟨v, rfl, r1⟩ := one_inv (ds := []) r
    exact ⟨_, by rw [r1.int_inv], k _ B H .same .int⟩
  · cases e
theorem o_int : OpN X (fun xs H Q => (∃ i, xs = [.int i] ∧ Q (.int i) H) ∨ ∃ k, xs = [.bl k] ∧ Q (.int (if k then 1 else 0)) H) fInt := by
  intro B H as d xs Q sb r e k
  unfold fInt at e
  split at e
  · cases e
    obtain ⟨v, rfl, r1⟩ := one_inv (ds := []) r
    exact .inl ⟨_, by rw [r1.int_inv], k _ B H .same .int⟩
  · cases e
end
end EE
end

section
set_option Elab.async false
set_option linter.all false
set_option maxRecDepth 100000
set_option maxHeartbeats 4000000
/-! E8: one's own lists and dicts read and changed -/
namespace EE
open PySem PySem.Spec PyProof.Rows L2
variable [XAd]
section
variable {X : Cx} {W : Wn} {K : PySem.W.Frag} {B H : Hp} {a b : Expr} {pos : Pos}

/-! ### looked at, not kept -/
/-- a value looked at: it stands so in the heap as it is now -/
def DP (X : Cx) (W : Wn) (e : Expr) (m : M D) : Prop :=
  ∃ t : TE, PE X e t ∧ ∀ fr B σ H ρ (Q : VK), St X.K fr B σ H ρ → Go X.K W fr σ B H (m ρ) (fun d ρ' => ∀ v B' H', To fr B H B' H' → St X.K fr B' σ H' ρ' → Rep X.K H' d v → Q v H') → t σ H Q
theorem dp_of_de {m : M D} (h : DE X W a m) : DP X W a m := by
  obtain ⟨t, p, k⟩ := h
  refine ⟨t, p, fun fr B σ H ρ Q s h => k fr B σ H ρ Q s ?_⟩
  exact Res.post_mono h (fun d ρ' q v B' H' t s r => q v B' H' t s (r.mono s.sub.ex)) fun _ _ q => q
def pkD : Slot → Option D
  | .imm d => some d
  | .lst ds => some (.lst ds)
  | .dct ds => some (.dct ds)
  | _ => none
def mPk (i : Nat) : M D := fun ρ => match (ρ[i]?).bind pkD with
  | some d => .ok d ρ
  | none => .bad
theorem StF.peek {fr : Ad} {σ : L2.St} {ρ : List Slot} {fp : Nat → Ad} (s : StF K fr B σ H ρ fp) {i : Nat} {d : D} (h : (ρ[i]?).bind pkD = some d) : ∃ v, σ[i]? = some (some v) ∧ Rep K H d v := by
  obtain ⟨sl, h1, h2⟩ := Option.bind_eq_some_iff.mp h
  obtain ⟨w, h3, h4⟩ := s.slot i sl h1
  cases sl with
  | imm d' =>
    cases h2
    obtain ⟨_, v, rfl, r⟩ := h4
    exact ⟨v, h3, r.mono s.sub.ex⟩
  | lst ds =>
    cases h2
    obtain ⟨a, xs, rfl, _, q1, q2⟩ := h4
    exact ⟨_, h3, .lst q1 (q2.mono s.sub.ex)⟩
  | dct ds =>
    cases h2
    obtain ⟨a, xs, rfl, _, q1, q2⟩ := h4
    exact ⟨_, h3, .dct ⟨_, q1, .inl rfl⟩ (q2.mono s.sub.ex)⟩
  | _ => cases h2
theorem dp_var (i : Nat) {x : Str} {pos : Pos} (hN : X.N[i]? = some x := by rfl) (hv : Vis X.env.scope x := by first | exact Or.inl rfl | exact Or.inr (Or.inl rfl) | exact Or.inr (Or.inr rfl)) (hd : (x == ("__debug__" : Str)) = false := by decide)
    (hcd : (x == ("__classdict__" : Str)) = false := by decide) : DP X W (.Name x pos) (mPk i) := by
  refine ⟨_, pe_var hN hv hd hcd, fun fr B σ H ρ Q s h => ?_⟩
  unfold Go mPk at h
  cases e : (ρ[i]?).bind pkD with
  | none => rw [e] at h; exact h.elim
  | some d =>
    rw [e] at h
    obtain ⟨v, h1, h2⟩ := s.elim fun fp s => s.peek e
    exact ⟨v, h1, h v B H .refl s h2⟩
theorem flat_rep {d : D} {v : V} {B' : Hp} (f : flatD d = true) (r : Rep K B d v) : Rep K B' d v := by
  cases d with
  | non => rw [r.non_inv]; exact .non
  | bl _ => rw [r.bl_inv]; exact .bl
  | int _ => rw [r.int_inv]; exact .int
  | str _ => rw [r.str_inv]; exact .str
  | _ => cases f
/-- f gives flat things alone -/
def Flat1 (f : List D → Option D) : Prop := ∀ as d, f as = some d → flatD d = true
def Flat2 (f : D → D → Option D) : Prop := ∀ x y d, f x y = some d → flatD d = true
theorem Al.base {H H' B' : Hp} (a : Al H H B' H') {fr : Ad} {B : Hp} {σ : L2.St} {ρ : List Slot} (s : St K fr B σ H ρ) : ∃ B'', St K fr B'' σ H' ρ ∧ To fr B H B'' H' := by
  cases a with
  | same => exact ⟨B, s, .refl⟩
  | new h => exact ⟨_, s.new h⟩
/-- len(x), .. of what is looked at -/
theorem de_callP {id : String} {x : Str} {p : Pos} {r : List V → Hp → VK → Prop} {f : List D → Option D} {m : M D} (hc : CallR X (.builtin id) r) (ho : OpN X r f) (hf : Flat1 f) (hg : Gl X x) (hm : X.mg x = none) (hv : bootBuiltins x = some (.builtin id)) (ha : DP X W a m)
    (hn : x ≠ "__name__" := by decide) (hdb : (x == ("__debug__" : Str)) = false := by decide) (he : starEach [a] X.env = (false, eval a X.env) :: starEach [] X.env := by rfl) (hpl : (backTo pos (starEach [] X.env)).any (·.1) = false := by rfl) :
    DE X W (.Call (.Name x p) [a] [] pos) (m1 (fun d => f [d]) m) := by
  obtain ⟨t, pa, k⟩ := ha
  refine ⟨_, pe_callB hc hg hm hv (pa_cons pa pa_nil he) hn hdb he hpl, fun fr B σ H ρ Q s h => ?_⟩
  refine k fr B σ H ρ _ s (h.step fun d ρ1 h v B1 H1 t1 s1 r1 => ?_)
  obtain ⟨d', e, q⟩ := h.of
  show r [v] H1 Q
  refine ho H1 H1 [d] d' [v] Q (.refl H1) (.cons r1 .nil) e fun v' B3 H3 al r3 => ?_
  obtain ⟨B4, s4, t4⟩ := al.base s1
  exact q v' B4 H3 (t1.trans t4) s4 (flat_rep (hf _ _ e) r3)
theorem fLen_flat : Flat1 fLen := by
  intro as d e
  unfold fLen fLenS fLenD at e
  split at e
  · split at e
    · cases e; rfl
    · cases e
  · cases e; rfl
  · cases e; rfl
  · split at e
    · cases e; rfl
    · cases e
/-- x in y, .. the right one looked at -/
theorem de_cmpP {op : CmpOp} {r : R2} {f : D → D → Option D} {ma mb : M D} (hr : OpR X (compareOp op) r) (ho : Op2 X r f) (hf : Flat2 f) (ha : DE X W a ma) (hb : DP X W b mb) (hm : behindInMarks op b = false := by first | exact nobehind _ (by decide) (by decide) | rfl) : DE X W (.Compare a [op] [b] pos) (m2 f ma mb) := by
  obtain ⟨ta, pa, ka⟩ := ha
  obtain ⟨tb, pb, kb⟩ := hb
  refine ⟨_, pe_cmpR hr pa pb hm, fun fr B σ H ρ Q s h => ?_⟩
  refine ka fr B σ H ρ _ s (h.step fun d1 ρ1 h x B1 H1 t1 s1 r1 => ?_)
  refine kb fr B1 σ H1 ρ1 _ s1 (Go.step (h.later t1 fun _ _ q => q) fun d2 ρ2 h y B2 H2 t2 s2 r2 => ?_)
  obtain ⟨d, e, q⟩ := h.of
  refine ho H2 H2 d1 d2 d x y Q (.refl H2) (r1.mono (t2.sub.ex.trans s2.sub.ex)) r2 e fun v B3 H3 al r3 => ?_
  obtain ⟨B4, s4, t4⟩ := al.base s2
  exact q v B4 H3 ((t1.trans t2).trans t4) s4 (flat_rep (hf _ _ _ e) r3)
theorem dt_of_de {m : M D} (h : DE X W a m) (he : ∀ whole, isTrue a X.env whole = (do let v ← whole; standAt a.pos; holding [v] (truthy v)) := by intro _; rfl) : DT X W a (mTst m) := dt_val h he
theorem dt_cmpP {op : CmpOp} {r : R2} {f : D → D → Option D} {ma mb : M D} (hr : OpR X (compareOp op) r) (ho : Op2 X r f) (hf : Flat2 f) (ha : DE X W a ma) (hb : DP X W b mb) (hm : behindInMarks op b = false := by first | exact nobehind _ (by decide) (by decide) | rfl) :
    DT X W (.Compare a [op] [b] pos) (mTst (m2 f ma mb)) := by
  obtain ⟨ta, pa, ka⟩ := ha
  obtain ⟨tb, pb, kb⟩ := hb
  refine ⟨_, pt_cmpR hr pa pb hm, fun fr B σ H ρ Q s h => ?_⟩
  have h0 : Go X.K W fr σ B H ((m2 f ma mb) ρ) (fun d ρ' => ∀ v B' H', To fr B H B' H' → St X.K fr B' σ H' ρ' → Rep X.K B' d v → ∃ k, v = .bl k ∧ Q k H') :=
    h.step fun d ρ1 h v B1 H1 t1 s1 r1 => by
      obtain ⟨q, e, h⟩ := h.of
      cases isBl_inv e
      exact ⟨q, r1.bl_inv, h B1 H1 t1 s1⟩
  refine ka fr B σ H ρ _ s (h0.step fun d1 ρ1 h x B1 H1 t1 s1 r1 => ?_)
  refine kb fr B1 σ H1 ρ1 _ s1 (Go.step (h.later t1 fun _ _ q => q) fun d2 ρ2 h y B2 H2 t2 s2 r2 => ?_)
  obtain ⟨d, e, q⟩ := h.of
  refine ho H2 H2 d1 d2 d x y _ (.refl H2) (r1.mono (t2.sub.ex.trans s2.sub.ex)) r2 e fun v B3 H3 al r3 => ?_
  obtain ⟨B4, s4, t4⟩ := al.base s2
  exact q v B4 H3 ((t1.trans t2).trans t4) s4 (flat_rep (hf _ _ _ e) r3)
theorem fIn_flat : Flat2 fIn := by
  intro x y d e
  obtain ⟨k, _, rfl⟩ := Option.map_eq_some_iff.mp e
  rfl
theorem fNotIn_flat : Flat2 fNotIn := by
  intro x y d e
  obtain ⟨k, _, rfl⟩ := Option.map_eq_some_iff.mp e
  rfl
theorem Go.pk {K : PySem.W.Frag} {W : Wn} {fr : Ad} {σ : L2.St} {B H : Hp} {β : Type} {f : D → M β} {ρ : List Slot} {i : Nat} {Q : β → List Slot → Prop} (h : Go K W fr σ B H (((mPk i).bind f) ρ) Q) : ∃ c, (ρ[i]?).bind pkD = some c ∧ Go K W fr σ B H (f c ρ) Q := by
  have h1 := h.step fun c ρ1 h => h
  unfold Go mPk at h1
  split at h1
  · rename_i d e
    exact ⟨d, e, h1⟩
  · exact h1.elim
/-- x[e], x a list, a dict of one's own: looked up behind e -/
def mIxO (i : Nat) (m : M D) : M D := (mPk i).bind fun _ => m.bind fun d => (mPk i).bind fun c => M.of (fIx c d)
theorem de_ixO (i : Nat) {x : Str} {xp : Pos} {m : M D} (hu : X.A.units + 1 < cLine) (hb : DE X W b m) (hN : X.N[i]? = some x := by rfl) (hv : Vis X.env.scope x := by first | exact Or.inl rfl | exact Or.inr (Or.inl rfl) | exact Or.inr (Or.inr rfl)) (hd : (x == ("__debug__" : Str)) = false := by decide)
    (hcd : (x == ("__classdict__" : Str)) = false := by decide) (hs : PlainIx b := by exact fun _ _ => rfl) : DE X W (.Subscript (.Name x xp) b pos) (mIxO i m) := by
  obtain ⟨tb, pb, kb⟩ := hb
  refine ⟨_, pe_ix (ix_all hu) (pe_var hN hv hd hcd) pb hs, fun fr B σ H ρ Q s h => ?_⟩
  obtain ⟨c0, e, h1⟩ := h.pk
  · obtain ⟨v, hv1, _⟩ := s.elim fun fp s => s.peek e
    refine ⟨v, hv1, ?_⟩
    refine kb fr B σ H ρ _ s (Go.step h1 fun d ρ2 h y B2 H2 t2 s2 r2 => ?_)
    obtain ⟨c, e2, h3⟩ := h.pk
    · obtain ⟨d', e3, q⟩ := Go.of h3
      obtain ⟨fp, sf⟩ := id s2
      obtain ⟨sl, g1, g2⟩ := Option.bind_eq_some_iff.mp e2
      obtain ⟨w, g3, g4⟩ := sf.slot i sl g1
      rw [hv1] at g3
      cases g3
      cases sl with
      | imm d0 =>
        cases g2
        obtain ⟨_, v', e4, r⟩ := g4
        cases e4
        refine o_ix B2 H2 c d d' v y Q s2.sub r r2 e3 fun v' B3 H3 al r3 => ?_
        obtain ⟨s3, t3⟩ := al.st s2
        exact q v' B3 H3 (t2.trans t3) s3 r3
      | lst ds =>
        cases g2
        obtain ⟨p, xs, e4, _, q1, q2⟩ := g4
        cases e4
        unfold fIx fIxT fIxL fIxS fIxD at e3
        cases d with
        | int j =>
          have e3 : (none : Option D).or ((atI ds j).or ((none : Option D).or none)) = some d' := e3
          cases e5 : atI ds j with
          | none => rw [e5] at e3; cases e3
          | some d2 =>
            rw [e5] at e3
            cases e3
            obtain ⟨v', q3, q4⟩ := atI_rep q2 e5
            exact .inr (.inl ⟨p, xs, j, v', rfl, r2.int_inv, .inl (.inl q1), q3, q v' B2 H2 t2 s2 q4⟩)
        | _ => cases e3
      | dct kvs =>
        cases g2
        obtain ⟨p, ws, e4, _, q1, q2⟩ := g4
        cases e4
        have e3 : (keyD d).bind (valD kvs) = some d' := by
          unfold fIx fIxT fIxL fIxS fIxD at e3
          cases d <;> first | exact e3 | (have e3 : ((none : Option D).or (none : Option D)) = some d' := e3; cases e3)
        obtain ⟨key, e5, e6⟩ := Option.bind_eq_some_iff.mp e3
        rcases q2.val (k := key) with ⟨z1, _⟩ | ⟨d0, v', z1, z2, r⟩
        · rw [z1] at e6; cases e6
        · rw [z1] at e6
          cases e6
          refine .inr (.inr (.inr ⟨p, v', rfl, ?_, q v' B2 H2 t2 s2 r⟩))
          rw [keyD_v e5 r2]
          exact .inl ⟨ws, key, .inl q1, rfl, z2.symm⟩
      | _ => cases g2
/-! ### a method of a list of one's own -/
/-- r does f: from the items and the arguments to a result and the items behind -/
def MetL (X : Cx) (r : V → List V → Hp → VK → Prop) (f : List D → List D → Option (D × List D)) : Prop :=
  ∀ (B H : Hp) (p : Addr) (xs : List V) (ds ds' args : List D) (d : D) (vs : List V) (Q : VK), Sub B H → H p = some (.lst xs) → RepL X.K B ds xs → RepL X.K B args vs → f ds args = some (d, ds') →
    (∀ v xs', RepL X.K B ds' xs' → Rep X.K B d v → Q v (upd H p (.lst xs'))) → r (.ref p) vs H Q
def mLst (i : Nat) (f : List D → Option (D × List D)) : M D := fun ρ => match ρ[i]? with
  | some (.lst ds) => match f ds with
    | some (d, ds') => .ok d (ρ.set i (.lst ds'))
    | none => .bad
  | _ => .bad
def isL (i : Nat) : M Unit := fun ρ => match ρ[i]? with
  | some (.lst _) => .ok () ρ
  | _ => .bad
theorem Go.isL {K : PySem.W.Frag} {W : Wn} {fr : Ad} {σ : L2.St} {B H : Hp} {β : Type} {f : Unit → M β} {ρ : List Slot} {i : Nat} {Q : β → List Slot → Prop} (h : Go K W fr σ B H (((isL i).bind f) ρ) Q) : ∃ ds, ρ[i]? = some (.lst ds) ∧ Go K W fr σ B H (f () ρ) Q := by
  have h1 := h.step fun c ρ1 h => h
  unfold Go EE.isL at h1
  split at h1
  · rename_i ds e
    exact ⟨ds, e, h1⟩
  · exact h1.elim
theorem Go.lst {K : PySem.W.Frag} {W : Wn} {fr : Ad} {σ : L2.St} {B H : Hp} {ρ : List Slot} {i : Nat} {f : List D → Option (D × List D)} {Q : D → List Slot → Prop} (h : Go K W fr σ B H (mLst i f ρ) Q) : ∃ ds d ds', ρ[i]? = some (.lst ds) ∧ f ds = some (d, ds') ∧ Q d (ρ.set i (.lst ds')) := by
  unfold Go mLst at h
  split at h
  · rename_i ds e
    split at h
    · rename_i d ds' e2
      exact ⟨ds, d, ds', e, e2, h⟩
    · exact h.elim
  · exact h.elim
def mMeth (i : Nat) (f : List D → List D → Option (D × List D)) (ms : M (List D)) : M D := (isL i).bind fun _ => ms.bind fun args => mLst i fun ds => f ds args
section
variable {i : Nat} {x name : Str} {xp ap cp : Pos} {id : String} {r : V → List V → Hp → VK → Prop} {f : List D → List D → Option (D × List D)} {es : List Expr} {ms : M (List D)}
theorem de_meth (slot : PySem.Slot "list" name id) (hty : typeOf (.builtin id) = pure (.type "method_descriptor")) (hm : MtR X id r) (ho : MetL X r f) (i : Nat) (ha : DA X W (a :: es) ms) (hN : X.N[i]? = some x := by rfl)
    (hv : Vis X.env.scope x := by first | exact Or.inl rfl | exact Or.inr (Or.inl rfl) | exact Or.inr (Or.inr rfl)) (hd : (x == ("__debug__" : Str)) = false := by decide) (hcd : (x == ("__classdict__" : Str)) = false := by decide)
    (hbase : attributeBase (.Name x xp) name X.env (eval (.Name x xp) X.env) = eval (.Name x xp) X.env := by rfl)
    (hfew : ((backTo cp (starEach (a :: es) X.env)).all (fun x => !x.1) && (backToKw cp (keywordEach [] X.env)).all (fun x => x.1.isSome)
      && decide ((a :: es).length + ([] : List Keyword).length + (if ([] : List Keyword).isEmpty then 0 else 1) < 30)) = true := by rfl)
    (hline : (ap.endLine == cp.line) = true := by rfl) (hs : starEach (a :: es) X.env = (false, eval a X.env) :: starEach es X.env := by rfl) (hplain : (backTo cp (starEach es X.env)).any (·.1) = false := by rfl) :
    DE X W (.Call (.Attribute (.Name x xp) name ap) (a :: es) [] cp) (mMeth i f ms) := by
  obtain ⟨t, pa, k⟩ := ha
  refine ⟨_, pe_bm PySem.F.plainAttrs_list slot hty hm (pe_var hN hv hd hcd) pa hbase hfew hline hs hplain, fun fr B σ H ρ Q s h => ?_⟩
  obtain ⟨ds0, e0, h⟩ := h.isL
  obtain ⟨p0, xs0, g1, g2, _, _⟩ := s.updL (ds' := []) e0
  refine ⟨_, g1, .inl ⟨rfl, xs0, .inl (.inl g2)⟩, ?_⟩
  refine k fr B σ H ρ _ s (Go.step h fun args ρ1 h vs B1 H1 t1 s1 r1 => ?_)
  obtain ⟨ds, d, ds', e1, e2, q⟩ := h.lst
  obtain ⟨p, xs, j1, j2, j3, j4⟩ := s1.updL (ds' := ds') e1
  rw [g1] at j1
  cases j1
  refine ho B1 H1 p0 xs ds ds' args d vs Q s1.sub j2 j3 r1 e2 fun v xs' rx rd => ?_
  obtain ⟨s2, t2⟩ := j4 xs' rx
  exact q v B1 _ (t1.trans t2) s2 rd
theorem de_meth0 (slot : PySem.Slot "list" name id) (hty : typeOf (.builtin id) = pure (.type "method_descriptor")) (hm : MtR X id r) (ho : MetL X r f) (i : Nat) (hN : X.N[i]? = some x := by rfl)
    (hv : Vis X.env.scope x := by first | exact Or.inl rfl | exact Or.inr (Or.inl rfl) | exact Or.inr (Or.inr rfl)) (hd : (x == ("__debug__" : Str)) = false := by decide) (hcd : (x == ("__classdict__" : Str)) = false := by decide)
    (hbase : attributeBase (.Name x xp) name X.env (eval (.Name x xp) X.env) = eval (.Name x xp) X.env := by rfl) (hline : (ap.endLine == cp.line) = true := by rfl) :
    DE X W (.Call (.Attribute (.Name x xp) name ap) [] [] cp) (mMeth i f (M.pure [])) := by
  refine ⟨_, pe_bm0 PySem.F.plainAttrs_list slot hty hm (pe_var hN hv hd hcd) hbase hline, fun fr B σ H ρ Q s h => ?_⟩
  obtain ⟨ds0, e0, h⟩ := h.isL
  obtain ⟨p0, xs0, g1, g2, _, _⟩ := s.updL (ds' := []) e0
  refine ⟨_, g1, .inl ⟨rfl, xs0, .inl (.inl g2)⟩, ?_⟩
  obtain ⟨ds, d, ds', e1, e2, q⟩ := Go.lst (Go.pure (Go.step h fun _ _ h => h))
  obtain ⟨p, xs, j1, j2, j3, j4⟩ := s.updL (ds' := ds') e1
  rw [g1] at j1
  cases j1
  refine ho B H p0 xs ds ds' [] d [] Q s.sub j2 j3 .nil e2 fun v xs' rx rd => ?_
  obtain ⟨s2, t2⟩ := j4 xs' rx
  exact q v B _ t2 s2 rd
end
/-! the methods -/
def fApp (ds args : List D) : Option (D × List D) := match args with
  | [d] => if okSz ds then some (.non, ds ++ [d]) else none
  | _ => none
theorem MtM.r {X : Cx} {id : String} {r : V → List V → Hp → VK → Prop} (h : MtM X id r) : MtR X id r := h
theorem o_app : MetL X rAppend fApp := by
  intro B H p xs ds ds' args d vs Q sb hp rx ra e k
  unfold fApp at e
  split at e
  · split at e
    · rename_i d0 c
      cases e
      obtain ⟨y, rfl, r1⟩ := one_inv (ds := []) ra
      exact ⟨p, xs, y, rfl, rfl, hp, by rw [rx.length]; exact Nat.lt_of_le_of_lt c (by decide), k _ _ (rx.append (.cons r1 .nil)) .non⟩
    · cases e
  · cases e
def seqD : D → Option (List D)
  | .lst ds => some ds
  | .tup ds => some ds
  | _ => none
def fExt (ds args : List D) : Option (D × List D) := match args with
  | [d] => (seqD d).bind fun es => if ds.length + es.length ≤ 1000000 then some (.non, ds ++ es) else none
  | _ => none
/-- xs.extend(a list, a tuple) -/
def rExt (K : PySem.W.Frag) : V → List V → Hp → VK → Prop := fun x vs H Q => ∃ l b xs zs, x = .ref l ∧ vs = [.ref b] ∧ H l = some (.lst xs) ∧ (SqL K H b zs ∨ SqT K H b zs) ∧ xs.length + zs.length ≤ sizeLine ∧ Q .non (upd H l (.lst (xs ++ zs)))
theorem seq_of {pins : List (Addr × Obj)} {σ : L2.St} {H : Hp} {s : Shared} {b : Addr} {zs : List V} (I : Inv X pins σ H s) (h : SqL X.K H b zs ∨ SqT X.K H b zs) :
    ∃ (its : List Value) (T : String) (o : Obj) (n : Nat), (T = "list" ∨ T = "tuple") ∧ Vals zs its ∧ s.heap.get? b = some o ∧ o.cls = .type T ∧ o.data = .seq its.toArray n := by
  rcases h with h | h
  · obtain ⟨its, rv, ⟨o, n, h1, h2, _, h3⟩, _⟩ := I.list h
    exact ⟨its, "list", o, n, .inl rfl, rv, h1, h2, h3⟩
  · obtain ⟨its, rv, ⟨o, h1, h2, n, h3⟩, _⟩ := I.tuple h
    exact ⟨its, "tuple", o, n, .inr rfl, rv, h1, h2, h3⟩
theorem mt_ext : MtR X "list.extend" (rExt X.K) := by
  intro pins s σ H x vs v us Q I rx rv h
  obtain ⟨l, b, xs, zs, rfl, rfl, hH, hB, hz, q⟩ := h
  cases rx
  obtain ⟨u, rfl, ru⟩ := rv.one
  cases ru
  obtain ⟨z, its, n, r, hl, e⟩ := I.lstM hH
  obtain ⟨its2, T, o, n2, hT, r2, e2, hc, hd⟩ := seq_of I hB
  have l1 := r.length
  have l2 := r2.length
  refine wpAny_call (codeAny_call_builtin PySem.F.slot_list_extend.plain PySem.F.entry_list_extend (PySem.F.slot_list_extend.check _ _ _ _ _ _ _ _ ⟨_, e, rfl⟩ (PySem.F.args_list_extend_2 _ _) ?_))
  show wpAny _ X.A.in1 (Builtin.List.listExtendWith (.ref l) (.ref b) .none) _ _ s
  unfold Builtin.List.listExtendWith
  refine wpAny_bind (wpAny_typeOf ⟨o, e2, hc⟩ ?_)
  have c1 : (Builtin.List.listSameRef (.ref l) (.ref b) || Value.type T == Value.type "list" || Value.type T == Value.type "tuple") = true := by
    rcases hT with rfl | rfl <;> simp
  rw [if_pos c1]
  refine wpAny_bind ?_
  unfold Builtin.List.listItems
  refine wpAny_bind (wpAny_seqItems e2 hd (wpAny_pure ?_))
  refine wpAny_bind (wpAny_bind (wpAny_seqItems e rfl (wpAny_pure ?_)))
  have c2 : ¬ (!its.toArray.isEmpty && Builtin.List.listTooLong (its.toArray.size + its2.toArray.size)) = true := by
    rw [notLongL (by rw [List.size_toArray, List.size_toArray]; omega), Bool.and_false]
    exact Bool.false_ne_true
  rw [if_neg c2]
  refine wpAny_bind ?_
  unfold Builtin.List.listUpdate
  refine wpAny_updateSeq e rfl ?_ (by rw [List.size_toArray]; omega) (by rw [Array.size_append, List.size_toArray, List.size_toArray]; omega)
  refine wpAny_pure ?_
  refine ⟨.non, _, I.lset (its' := its ++ its2) hH e (by simp) (r.append r2) ?_, rfl, q⟩
  rw [List.length_append]
  omega
theorem o_ext : MetL X (rExt X.K) fExt := by
  intro B H p xs ds ds' args d vs Q sb hp rx ra e k
  unfold fExt at e
  split at e
  · obtain ⟨es, e1, e2⟩ := Option.bind_eq_some_iff.mp e
    split at e2
    · rename_i d0 c
      cases e2
      obtain ⟨y, rfl, r1⟩ := one_inv (ds := []) ra
      cases d0 <;> cases e1
      · obtain ⟨q, ys, rfl, h1, h2⟩ := r1.tup_inv
        exact ⟨p, q, xs, ys, rfl, rfl, hp, .inr (ex_t sb.ex h1), line_of (by rw [rx.length, h2.length]; exact c), k _ _ (rx.append h2) .non⟩
      · obtain ⟨q, ys, rfl, h1, h2⟩ := r1.lst_inv
        exact ⟨p, q, xs, ys, rfl, rfl, hp, .inl ((rd_sub sb h1)), line_of (by rw [rx.length, h2.length]; exact c), k _ _ (rx.append h2) .non⟩
    · cases e2
  · cases e
def fPop (ds args : List D) : Option (D × List D) := match args with
  | [] => (ds[ds.length - 1]?).map fun d => (d, ds.dropLast)
  | _ => none
theorem RepL.dropLast {ds : List D} {xs : List V} (h : RepL K B ds xs) : RepL K B ds.dropLast xs.dropLast := by
  rw [List.dropLast_eq_take, List.dropLast_eq_take, h.length]
  exact h.take _
theorem o_pop : MetL X rPop fPop := by
  intro B H p xs ds ds' args d vs Q sb hp rx ra e k
  unfold fPop at e
  split at e
  · obtain ⟨d0, e1, e2⟩ := Option.map_eq_some_iff.mp e
    cases e2
    cases ra.nil_inv
    obtain ⟨y, h1, h2⟩ := rx.get e1
    exact ⟨p, xs, y, rfl, rfl, hp, by rw [rx.length]; exact h1, k y _ rx.dropLast h2⟩
  · cases e
def fPop0 (ds args : List D) : Option (D × List D) := match args, ds with
  | [.int 0], d :: ds => some (d, ds)
  | _, _ => none
theorem o_pop0 : MetL X rPopAt fPop0 := by
  intro B H p xs ds ds' args d vs Q sb hp rx ra e k
  unfold fPop0 at e
  split at e
  · cases e
    obtain ⟨y, rfl, r1⟩ := one_inv (ds := []) ra
    obtain ⟨z, zs, rfl, h1, h2⟩ := rx.cons_inv
    refine ⟨p, z :: zs, 0, 0, z, rfl, by rw [r1.int_inv], hp, by decide, by decide, ?_, rfl, k z _ h2 h1⟩
    exact seqIndex_of (by decide) (by simp only [List.length_cons]; omega)
  · cases e
def fIns0 (ds args : List D) : Option (D × List D) := match args with
  | [.int 0, d] => if okSz ds then some (.non, d :: ds) else none
  | _ => none
def rIns : V → List V → Hp → VK → Prop := fun x vs H Q => ∃ (l : Addr) (xs : List V) (i : Int) (y : V), x = .ref l ∧ vs = [.int i, y] ∧ H l = some (.lst xs) ∧ xs.length < sizeLine ∧ 0 ≤ i ∧ i < 2 ^ 63 ∧
    Q .non (upd H l (.lst (xs.take i.toNat ++ [y] ++ xs.drop i.toNat)))
theorem o_ins0 : MetL X rIns fIns0 := by
  intro B H p xs ds ds' args d vs Q sb hp rx ra e k
  unfold fIns0 at e
  split at e
  · split at e
    · rename_i d0 c
      cases e
      obtain ⟨y, ys, rfl, r1, r2⟩ := ra.cons_inv
      obtain ⟨z, rfl, r3⟩ := one_inv (ds := []) r2
      exact ⟨p, xs, 0, z, rfl, by rw [r1.int_inv], hp, by rw [rx.length]; exact Nat.lt_of_le_of_lt c (by decide), by decide, by decide, k _ _ (.cons r3 rx) .non⟩
    · cases e
  · cases e
end
end EE
end

section
set_option Elab.async false
set_option linter.all false
set_option maxRecDepth 100000
set_option maxHeartbeats 4000000
/-! E9: loops, comprehensions -/
namespace EE
open PySem PySem.Spec PyProof.Rows L2
variable [XAd]
section
variable {K : PySem.W.Frag} {B B' H H' : Hp} {σ σ' : L2.St} {ρ ρ' : List Slot} {fp : Nat → Ad} {fr : Ad}
def orF (fr : Ad) (p : Addr) : Ad := fun b => fr b ∨ b = p
/-- a new object that is not to be seen yet -/
theorem St.hide (s : St K fr B σ H ρ) {p : Addr} {o : HO} (h : H p = none) : St K (orF fr p) B σ (upd H p o) ρ ∧ To fr B H B (upd H p o) := by
  obtain ⟨fp, s⟩ := s
  have np : ∀ i b, fp i b → b ≠ p := fun i b z q => s.there i b z (by rw [q]; exact h)
  have nf : ∀ b, fr b → b ≠ p := fun b z q => s.frt b z (by rw [q]; exact h)
  have eb : B = hid (upd H p o) (frF (orF fr p) fp) := by
    rw [s.base]
    funext b
    by_cases e : b = p
    · subst e
      rw [hid_no (P := frF (orF fr b) fp) (.inl (.inr rfl))]
      by_cases q : frF fr fp b
      · exact hid_no q
      · rw [hid_at q]; exact h
    · by_cases q : frF fr fp b
      · rw [hid_no q, hid_no (q.elim (fun z => .inl (.inl z)) .inr)]
      · rw [hid_at q, hid_at ?_, upd_ne e]
        rintro ((z | z) | z)
        · exact q (.inl z)
        · exact e z
        · exact q (.inr z)
  refine ⟨⟨fp, ⟨s.len, eb, s.dis, fun i b z => ?_, fun b z => ?_, fun i b z q => ?_, s.out, fun i sl hi => ?_⟩⟩, ⟨.refl B, fun b z => upd_ne (nf b z)⟩⟩
  · rw [upd_ne (np i b z)]; exact s.there i b z
  · rcases z with z | z
    · rw [upd_ne (nf b z)]; exact s.frt b z
    · rw [z, upd_same]; simp
  · rcases q with q | q
    · exact s.frd i b z q
    · exact np i b z q
  · obtain ⟨w, h1, h2⟩ := s.slot i sl hi
    exact ⟨w, h1, h2.mono (Ex.refl B) fun b z => upd_ne (np i b z)⟩
/-- what is not seen changes -/
theorem St.frUpd (s : St K (orF fr p) B σ H ρ) {o : HO} (nf : ¬ fr p) : St K (orF fr p) B σ (upd H p o) ρ ∧ To fr B H B (upd H p o) := by
  obtain ⟨fp, s⟩ := s
  have np : ∀ i b, fp i b → b ≠ p := fun i b z q => s.frd i b z (.inr q)
  have eb : B = hid (upd H p o) (frF (orF fr p) fp) := by
    rw [s.base]
    funext b
    by_cases e : b = p
    · subst e
      rw [hid_no (P := frF (orF fr b) fp) (.inl (.inr rfl)), hid_no (P := frF (orF fr b) fp) (.inl (.inr rfl))]
    · by_cases q : frF (orF fr p) fp b
      · rw [hid_no q, hid_no q]
      · rw [hid_at q, hid_at q, upd_ne e]
  refine ⟨⟨fp, ⟨s.len, eb, s.dis, fun i b z => ?_, fun b z => ?_, s.frd, s.out, fun i sl hi => ?_⟩⟩, ⟨.refl B, fun b z => upd_ne fun e => nf (e ▸ z)⟩⟩
  · rw [upd_ne (np i b z)]; exact s.there i b z
  · by_cases e : b = p
    · rw [e, upd_same]; simp
    · rw [upd_ne e]; exact s.frt b z
  · obtain ⟨w, h1, h2⟩ := s.slot i sl hi
    exact ⟨w, h1, h2.mono (Ex.refl B) fun b z => upd_ne (np i b z)⟩
/-- it is seen from now on -/
theorem St.show_ (s : St K (orF fr p) B σ H ρ) {o : HO} (nf : ¬ fr p) (h : H p = some o) : St K fr (upd B p o) σ H ρ ∧ To fr B H (upd B p o) H := by
  obtain ⟨fp, s⟩ := s
  have np : ∀ i b, fp i b → b ≠ p := fun i b z q => s.frd i b z (.inr q)
  have bp : B p = none := by rw [s.base]; exact hid_no (.inl (.inr rfl))
  have eb : upd B p o = hid H (frF fr fp) := by
    rw [s.base]
    funext b
    by_cases e : b = p
    · subst e
      rw [upd_same, hid_at ?_, h]
      rintro (z | ⟨i, z⟩)
      · exact nf z
      · exact np i b z rfl
    · rw [upd_ne e]
      by_cases q : frF fr fp b
      · rw [hid_no q, hid_no (q.elim (fun z => .inl (.inl z)) .inr)]
      · rw [hid_at q, hid_at ?_]
        rintro ((z | z) | z)
        · exact q (.inl z)
        · exact e z
        · exact q (.inr z)
  refine ⟨⟨fp, ⟨s.len, eb, s.dis, s.there, fun b z => s.frt b (.inl z), fun i b z q => s.frd i b z (.inl q), s.out, fun i sl hi => ?_⟩⟩, ⟨fun b u e => by rw [upd_ne (ne_of_none e bp)]; exact e, fun _ _ => rfl⟩⟩
  obtain ⟨w, h1, h2⟩ := s.slot i sl hi
  exact ⟨w, h1, h2.mono (Ex.upd bp) fun b z => rfl⟩
/-- a dict is locked, unlocked -/
theorem St.swap (s : St K fr B σ H ρ) {p : Addr} {o o' : HO} (h : B p = some o) (e : Sm o o') : St K fr (upd B p o') σ (upd H p o') ρ := by
  obtain ⟨fp, s⟩ := s
  have hp : ¬ frF fr fp p := fun z => by rw [s.base, hid_no z] at h; cases h
  have np : ∀ i b, fp i b → b ≠ p := fun i b z q => hp (.inr ⟨i, q ▸ z⟩)
  have nf : ∀ b, fr b → b ≠ p := fun b z q => hp (.inl (q ▸ z))
  have eb : hid (upd H p o') (frF fr fp) = upd B p o' := by rw [hid_upd hp, ← s.base]
  refine ⟨fp, ?_⟩
  rw [← eb]
  refine s.move ?_ (fun i b z => upd_ne (np i b z)) fun b z => upd_ne (nf b z)
  rw [eb]
  intro b u hb
  by_cases q : b = p
  · subst q
    rw [h] at hb; cases hb
    exact ⟨o', upd_same, e⟩
  · exact ⟨u, by rw [upd_ne q]; exact hb, .refl u⟩
end

/-! ### what is walked -/
/-- J yields ds, from the base B on -/
def ItR (K : PySem.W.Frag) (J : It) (B : Hp) (ds : List D) : Prop := ∀ B2 H2, Sub B B2 → Sub B2 H2 → ∀ i, i ≤ ds.length →
  (i < ds.length → J.go i H2 ∧ ∀ x H3, J.yld i H2 x H3 → ∃ B3, Al B2 H2 B3 H3 ∧ ∃ d, ds[i]? = some d ∧ Rep K B3 d x) ∧ (i = ds.length → J.stop i H2)
section
variable {X : Cx} {W : Wn}
def DI (X : Cx) (W : Wn) (tg iter : Expr) (m : M (List D)) : Prop :=
  ∃ wi : TI, PI X tg iter wi ∧ ∀ fr B σ H ρ (R : It → Hp → Prop), St X.K fr B σ H ρ → Go X.K W fr σ B H (m ρ) (fun ds ρ' => ∀ J B' H', To fr B H B' H' → St X.K fr B' σ H' ρ' → ItR X.K J B' ds → R J H') → wi σ H R
theorem itr_l {K : PySem.W.Frag} {a : Addr} {xs : List V} {ds : List D} {B : Hp} (h : SqL K B a xs) (r : RepL K B ds xs) : ItR K (Itl K a) B ds := by
  intro B2 H2 s1 s2 i hi
  have h2 : SqL K H2 a xs := rd_sub s2 (rd_sub s1 h)
  have hl := r.length
  refine ⟨fun lt => ⟨⟨xs, xs[i], h2, by simp [hl, lt]⟩, fun x H3 y => ?_⟩, fun e => ⟨xs, h2, by omega⟩⟩
  obtain ⟨e, y⟩ := y
  subst e
  obtain ⟨d, hd⟩ : ∃ d, ds[i]? = some d := ⟨ds[i], by simp [lt]⟩
  obtain ⟨x', h3, h4⟩ := r.get hd
  have h5 := y xs h2
  rw [h3] at h5
  cases h5
  exact ⟨B2, .same, d, hd, h4.mono s1.ex⟩
theorem itr_t {K : PySem.W.Frag} {a : Addr} {xs : List V} {ds : List D} {B : Hp} (h : SqT K B a xs) (r : RepL K B ds xs) : ItR K (Itt K a) B ds := by
  intro B2 H2 s1 s2 i hi
  have h2 : SqT K H2 a xs := ex_t (s1.trans s2).ex h
  have hl := r.length
  refine ⟨fun lt => ⟨⟨xs, xs[i], h2, by simp [hl, lt]⟩, fun x H3 y => ?_⟩, fun e => ⟨xs, h2, by omega⟩⟩
  obtain ⟨e, y⟩ := y
  subst e
  obtain ⟨d, hd⟩ : ∃ d, ds[i]? = some d := ⟨ds[i], by simp [lt]⟩
  obtain ⟨x', h3, h4⟩ := r.get hd
  have h5 := y xs h2
  rw [h3] at h5
  cases h5
  exact ⟨B2, .same, d, hd, h4.mono s1.ex⟩
theorem itr_s {K : PySem.W.Frag} {x : Str} {B : Hp} : ItR K (Its x) B (x.cps.toList.map fun c => .str ⟨#[c]⟩) := by
  intro B2 H2 s1 s2 i hi
  rw [List.length_map, Array.length_toList] at hi
  refine ⟨fun lt => ⟨show i < x.cps.size by simpa using lt, fun v H3 y => ?_⟩, fun e => show x.cps.size ≤ i by simpa using Nat.le_of_eq e.symm⟩
  obtain ⟨e, c, hc, rfl⟩ := y
  subst e
  exact ⟨B2, .same, .str ⟨#[c]⟩, by rw [List.getElem?_map, Array.getElem?_toList, hc]; rfl, .str⟩
theorem itr_r {K : PySem.W.Frag} {lo : Int} {n : Nat} {B : Hp} : ItR K (Itr lo n) B ((List.range n).map fun (i : Nat) => .int (lo + i)) := by
  intro B2 H2 s1 s2 i hi
  rw [List.length_map, List.length_range] at hi
  refine ⟨fun lt => ?_, fun e => ?_⟩
  · rw [List.length_map, List.length_range] at lt
    refine ⟨lt, fun v H3 y => ?_⟩
    obtain ⟨e, rfl⟩ := y
    subst e
    exact ⟨B2, .same, _, by rw [List.getElem?_map, List.getElem?_range lt]; rfl, .int⟩
  · rw [List.length_map, List.length_range] at e
    exact Nat.le_of_eq e.symm
/-- PI of two readings -/
theorem PI.or {tg iter : Expr} {w1 w2 : TI} (h1 : PI X tg iter w1) (h2 : PI X tg iter w2) : PI X tg iter (fun σ H R => w1 σ H R ∨ w2 σ H R) :=
  ⟨fun pins s σ H R I h => h.elim (h1.run pins s σ H R I) (h2.run pins s σ H R I)⟩
theorem PS.or {st : Stmt} {t1 t2 : TS} (h1 : PS X st t1) (h2 : PS X st t2) : PS X st (fun D σ H => t1 D σ H ∨ t2 D σ H) :=
  ⟨fun pins s σ H D I h => h.elim (h1.run pins s σ H D I) (h2.run pins s σ H D I)⟩
theorem PE.or {e : Expr} {t1 t2 : TE} (h1 : PE X e t1) (h2 : PE X e t2) : PE X e (fun σ H Q => t1 σ H Q ∨ t2 σ H Q) :=
  ⟨fun pins s σ H Q I h => h.elim (h1.run pins s σ H Q I) (h2.run pins s σ H Q I)⟩
def strsOf (x : Str) : List D := x.cps.toList.map fun c => .str ⟨#[c]⟩
/-- what a for may walk: a list, a tuple, a text -/
def itD : D → Option (List D)
  | .lst ds => some ds
  | .tup ds => some ds
  | .str x => some (strsOf x)
  | _ => none
theorem Go.dead {K : PySem.W.Frag} {W : Wn} {fr : Ad} {σ : L2.St} {B H : Hp} {α : Type} {r : Res α} {Q : α → List Slot → Prop} (h : Go K W fr σ B H r Q) (e : r = .bad) : False := by
  subst e; exact h
/-- for x in e, e a list, a tuple, a text -/
theorem di_seq {tg e : Expr} {m : M D} (he : DE X W e m) : DI X W tg e (m.bind fun d => M.of (itD d)) := by
  obtain ⟨t, p, k⟩ := he
  refine ⟨_, PI.or (pi_list p) (PI.or (pi_tup p) (pi_str p)), fun fr B σ H ρ R s h => ?_⟩
  cases em : m ρ with
  | bad => exact (Go.dead h (by unfold M.bind; rw [em]; rfl)).elim
  | exc c ρ' =>
    refine .inl (k fr B σ H ρ _ s ?_)
    rw [em]
    have h : Go X.K W fr σ B H ((m.bind fun d => M.of (itD d)) ρ) _ := h
    unfold M.bind at h
    rw [em] at h
    exact h
  | ok d ρ' =>
    have h2 := h
    unfold M.bind at h2
    rw [em] at h2
    cases d with
    | lst ds =>
      refine .inl (k fr B σ H ρ _ s ?_)
      rw [em]
      intro v B1 H1 t1 s1 r1
      obtain ⟨a, xs, rfl, q1, q2⟩ := r1.lst_inv
      exact ⟨a, rfl, ⟨xs, (rd_sub s1.sub q1)⟩, h2 _ B1 H1 t1 s1 (itr_l q1 q2)⟩
    | tup ds =>
      refine .inr (.inl (k fr B σ H ρ _ s ?_))
      rw [em]
      intro v B1 H1 t1 s1 r1
      obtain ⟨a, xs, rfl, q1, q2⟩ := r1.tup_inv
      exact ⟨a, rfl, ⟨xs, ex_t s1.sub.ex q1⟩, h2 _ B1 H1 t1 s1 (itr_t q1 q2)⟩
    | str x =>
      refine .inr (.inr (k fr B σ H ρ _ s ?_))
      rw [em]
      intro v B1 H1 t1 s1 r1
      exact ⟨x, r1.str_inv, h2 _ B1 H1 t1 s1 itr_s⟩
    | _ => exact (Go.dead h2 rfl).elim
/-- range(e) -/
def rngD (lo : Int) (n : Nat) : List D := (List.range n).map fun (i : Nat) => .int (lo + i)
def rng1 (d : D) : Option (List D) := match d with
  | .int j => if j < 1000000000 ∧ -1000000000 < j then some (rngD 0 j.toNat) else none
  | _ => none
theorem di_rng1 {tg a : Expr} {p pos : Pos} {m : M D} (ha : DE X W a m) (hg : Gl X "range") (hm : X.mg "range" = none) (hs : starEach [a] X.env = [(false, eval a X.env)] := by rfl) : DI X W tg (.Call (.Name "range" p) [a] [] pos) (m.bind fun d => M.of (rng1 d)) := by
  obtain ⟨t, pp, k⟩ := ha
  refine ⟨_, pi_range1 hg hm (pa_cons pp pa_nil hs) hs, fun fr B σ H ρ R s h => ?_⟩
  refine k fr B σ H ρ _ s (h.step fun d ρ1 h v B1 H1 t1 s1 r1 => ?_)
  obtain ⟨ds, e, q⟩ := h.of
  unfold rng1 at e
  split at e
  · split at e
    · rename_i j c
      cases e
      rw [r1.int_inv]
      exact ⟨j, rfl, by omega, by omega, q _ B1 H1 t1 s1 itr_r⟩
    · cases e
  · cases e

/-! ### for -/
def forM (bnd : D → M Unit) (body : M Fl) : List D → M Fl
  | [] => mNx
  | d :: ds => (bnd d).bind fun _ => body.bind fun fl => match fl with
    | .nx => forM bnd body ds
    | .ct => forM bnd body ds
    | .bk => mNx
    | .rt r => M.pure (.rt r)
def mFor (m : M (List D)) (bnd : D → M Unit) (body : M Fl) : M Fl := m.bind fun ds => forM bnd body ds
theorem run_for {g : TG} {bnd : D → M Unit} {tb : TS} {body : M Fl}
    (kg : ∀ fr B σ H ρ d v (Q : L2.St → Hp → Prop), St X.K fr B σ H ρ → Rep X.K B d v → Go X.K W fr σ B H (bnd d ρ) (fun _ ρ' => ∀ σ' B' H', To fr B H B' H' → Pin W.P σ σ' → St X.K fr B' σ' H' ρ' → Q σ' H') → g v σ H Q)
    (kb : ∀ fr B σ H ρ (D : L2.Ends), St X.K fr B σ H ρ → Go X.K W fr σ B H (body ρ) (OkS X.K W fr σ B H D) → tb D σ H)
    {fr : Ad} {B : Hp} {σ : L2.St} {H : Hp} {ρ : List Slot} {J : It} {ds : List D} {D : L2.Ends} (s : St X.K fr B σ H ρ) (hJ : ItR X.K J B ds) (h : Go X.K W fr σ B H (forM bnd body ds ρ) (OkS X.K W fr σ B H D)) :
    ∃ W : Nat → Nat → L2.St → Hp → Prop, (∃ m, W 0 m σ H) ∧ ∀ i m σ H, W i m σ H →
      (J.stop i H ∧ D.nx σ H) ∨ (J.go i H ∧ ∃ N : L2.St → Hp → Prop, (∀ σ' H', N σ' H' → ∃ m', m' < m ∧ W (i + 1) m' σ' H') ∧ ∀ x H', J.yld i H x H' → g x σ H' fun σ2 H2 => tb { D with nx := N, ct := N, bk := D.nx } σ2 H2) := by
  refine ⟨fun i m σ' H' => i ≤ ds.length ∧ m = ds.length - i ∧ ∃ B' ρ', To fr B H B' H' ∧ Pin W.P σ σ' ∧ St X.K fr B' σ' H' ρ' ∧ Go X.K W fr σ B H (forM bnd body (ds.drop i) ρ') (OkS X.K W fr σ B H D), ⟨ds.length, Nat.zero_le _, rfl, B, ρ, .refl, .refl, s, h⟩, ?_⟩
  rintro i m σ1 H1 ⟨hi, rfl, B1, ρ1, t1, p1, s1, h1⟩
  obtain ⟨q1, q2⟩ := hJ B1 H1 t1.sub s1.sub i hi
  by_cases lt : i < ds.length
  · obtain ⟨go, yl⟩ := q1 lt
    refine .inr ⟨go, fun σ' H' => ∃ B' ρ', To fr B H B' H' ∧ Pin W.P σ σ' ∧ St X.K fr B' σ' H' ρ' ∧ Go X.K W fr σ B H (forM bnd body (ds.drop (i + 1)) ρ') (OkS X.K W fr σ B H D), fun σ' H' z => ⟨ds.length - (i + 1), by omega, lt, rfl, z⟩, fun x H3 y => ?_⟩
    obtain ⟨B3, al, d, hd, r⟩ := yl x H3 y
    obtain ⟨s3, t3⟩ := al.st s1
    have ed : ds.drop i = d :: ds.drop (i + 1) := by
      rw [List.drop_eq_getElem_cons lt]
      congr 1
      rw [List.getElem?_eq_getElem lt] at hd
      exact Option.some.inj hd
    rw [ed] at h1
    have t13 := t1.trans t3
    refine kg fr B3 σ1 H3 ρ1 d x _ s3 r (Go.later' t13 p1 (Go.step h1 fun _ ρ2 h2 => h2) fun _ ρ2 h2 σ2 B2 H2 t2 p2 s2 => ?_)
    have t12 := t13.trans t2
    have p12 := p1.trans p2
    refine kb fr B2 σ2 H2 ρ2 _ s2 (Go.later' t12 p12 (Go.step h2 fun fl ρ3 h3 => h3) fun fl ρ3 h3 => ?_)
    cases fl with
    | nx => exact fun σ4 B4 H4 t4 p4 s4 => ⟨B4, ρ3, t12.trans t4, p12.trans p4, s4, h3⟩
    | ct => exact fun σ4 B4 H4 t4 p4 s4 => ⟨B4, ρ3, t12.trans t4, p12.trans p4, s4, h3⟩
    | bk => exact fun σ4 B4 H4 t4 p4 s4 => (Go.pure h3) σ4 B4 H4 (t12.trans t4) (p12.trans p4) s4
    | rt r => exact fun σ4 B4 H4 t4 p4 => (Go.pure h3) σ4 B4 H4 (t12.trans t4) (p12.trans p4)
  · have e : i = ds.length := by omega
    subst e
    rw [List.drop_length] at h1
    exact .inl ⟨q2 rfl, (Go.pure h1) σ1 B1 H1 t1 p1 s1⟩
theorem ds_for {tg iter : Expr} {sts : List Stmt} {pos : Pos} {m : M (List D)} {bnd : D → M Unit} {body : M Fl} (hp : PassesOwn (model X.prog X.w) X.A X.env X.xe) (hc : X.calm = true) (hi : DI X W tg iter m) (hg : DG X W tg bnd) (hb : DSs X W sts body)
    (hs : ∀ x, foldedSetIterable iter X.env x = pure x := by intro _; rfl) : DS X W (.For tg iter sts [] pos) (mFor m bnd body) := by
  obtain ⟨wi, pi, ki⟩ := hi
  obtain ⟨g, pg, kg⟩ := hg
  obtain ⟨tb, pb, kb⟩ := hb
  refine ⟨_, ps_for hp hc pi pg pb hs, fun fr B σ H ρ D s h => ?_⟩
  refine ki fr B σ H ρ _ s (h.step fun ds ρ1 h J B1 H1 t1 s1 hJ => ?_)
  exact run_for kg kb s1 hJ (h.later t1 fun _ _ q => q.later t1 .refl)

/-! ### values that stand: a name, an attribute, a written subscript of such -/
/-- e stands for the data f tells, and goes on to do so -/
def DV (X : Cx) (e : Expr) (f : List Slot → Option D) : Prop :=
  ∃ t : TE, PE X e t ∧ ∀ fr B σ H ρ d, St X.K fr B σ H ρ → f ρ = some d → ∃ v, Rep X.K B d v ∧ ∀ B2 H2 (Q : VK), Ex B B2 → Sub B2 H2 → Q v H2 → t σ H2 Q
def sVar (i : Nat) : List Slot → Option D := fun ρ => match ρ[i]? with
  | some (.imm d) => some d
  | _ => none
theorem dv_var (i : Nat) {x : Str} {pos : Pos} (hN : X.N[i]? = some x := by rfl) (hv : Vis X.env.scope x := by first | exact Or.inl rfl | exact Or.inr (Or.inl rfl) | exact Or.inr (Or.inr rfl)) (hd : (x == ("__debug__" : Str)) = false := by decide)
    (hcd : (x == ("__classdict__" : Str)) = false := by decide) : DV X (.Name x pos) (sVar i) := by
  refine ⟨_, pe_var hN hv hd hcd, fun fr B σ H ρ d s h => ?_⟩
  unfold sVar at h
  split at h
  · rename_i d' e
    cases h
    obtain ⟨v, h1, h2⟩ := s.elim fun fp s => s.imm e
    exact ⟨v, h2, fun B2 H2 Q _ _ q => ⟨v, h1, q⟩⟩
  · cases h
def mS (f : List Slot → Option D) : M D := fun ρ => match f ρ with
  | some d => .ok d ρ
  | none => .bad
theorem Go.s {K : PySem.W.Frag} {W : Wn} {fr : Ad} {σ : L2.St} {B H : Hp} {f : List Slot → Option D} {ρ : List Slot} {Q : D → List Slot → Prop} (h : Go K W fr σ B H (mS f ρ) Q) : ∃ d, f ρ = some d ∧ Q d ρ := by
  unfold Go mS at h
  split at h
  · rename_i d e
    exact ⟨d, e, h⟩
  · exact h.elim
theorem de_of_dv {e : Expr} {f : List Slot → Option D} (h : DV X e f) : DE X W e (mS f) := by
  obtain ⟨t, p, k⟩ := h
  refine ⟨t, p, fun fr B σ H ρ Q s h => ?_⟩
  obtain ⟨d, e, h⟩ := h.s
  obtain ⟨v, r, q⟩ := k fr B σ H ρ d s e
  exact q B H Q (Ex.refl B) s.sub (h v B H .refl s r)
/-- the walk over a dict that stands -/
inductive Wk where
  | keys | vals | items
def wkD (w : Wk) (d : D) : Option (List D) := match d with
  | .dct kvs => some (match w with
    | .keys => kvs.map fun p => keyV p.1
    | .vals => kvs.map (·.2)
    | .items => kvs.map fun p => .tup [keyV p.1, p.2])
  | _ => none
def wkIt (w : Wk) (d : Addr) (o : Obj) (kvs : List (Key × V)) : It := match w with
  | .keys => Itk d o kvs
  | .vals => Itd d o kvs
  | .items => Iti d o kvs
theorem RepK.at_ {K : PySem.W.Frag} {B : Hp} : ∀ {kvs : List (Key × D)} {ws : List (Key × V)}, RepK K B kvs ws → ∀ i, i < kvs.length → ∃ k d v, kvs[i]? = some (k, d) ∧ ws[i]? = some (k, v) ∧ Rep K B d v
  | [], _, _, i, hi => by simp at hi
  | (k, d) :: kvs, _, h, i, hi => by
    obtain ⟨y, ys, rfl, r1, r2⟩ := h.cons_inv
    cases i with
    | zero => exact ⟨k, d, y, rfl, rfl, r1⟩
    | succ i =>
      obtain ⟨k', d', v', h1, h2, h3⟩ := RepK.at_ r2 i (by simpa using hi)
      exact ⟨k', d', v', by simpa using h1, by simpa using h2, h3⟩
theorem itr_d {K : PySem.W.Frag} {w : Wk} {a : Addr} {o : Obj} {ws : List (Key × V)} {kvs : List (Key × D)} {ds : List D} {B : Hp} (h : B a = some (.frz o (.dK ws))) (r : RepK K B kvs ws) (e : wkD w (.dct kvs) = some ds) : ItR K (wkIt w a o ws) B ds := by
  intro B2 H2 s1 s2 i hi
  have hH : H2 a = some (.frz o (.dK ws)) := s2 _ _ (s1 _ _ h)
  have hl := r.length
  have at_ := r.at_
  have dl : ds.length = kvs.length := by
    cases w <;> (cases e; simp)
  refine ⟨fun lt => ?_, fun e2 => ?_⟩
  · obtain ⟨k, d, v, g1, g2, g3⟩ := at_ i (by omega)
    have g0 : i < ws.length := by omega
    cases w with
    | keys =>
      cases e
      refine ⟨⟨hH, g0⟩, fun x H3 y => ?_⟩
      obtain ⟨rfl, k', v', q1, rfl⟩ := y
      rw [g2] at q1; cases q1
      exact ⟨B2, .same, keyV k, by rw [List.getElem?_map, g1]; rfl, keyV_rep⟩
    | vals =>
      cases e
      refine ⟨⟨hH, g0⟩, fun x H3 y => ?_⟩
      obtain ⟨rfl, k', q1⟩ := y
      rw [g2] at q1; cases q1
      exact ⟨B2, .same, d, by rw [List.getElem?_map, g1]; rfl, g3.mono s1.ex⟩
    | items =>
      cases e
      refine ⟨⟨hH, g0⟩, fun x H3 y => ?_⟩
      obtain ⟨T, k', v', q1, rfl, hT, rfl⟩ := y
      rw [g2] at q1; cases q1
      have e3 := Ex.upd (o := .tup [kV k, v]) (s2.none hT)
      exact ⟨_, .new hT, .tup [keyV k, d], by rw [List.getElem?_map, g1]; rfl, .tup (.inl (.inl upd_same)) (.cons keyV_rep (.cons (g3.mono (s1.ex.trans e3)) .nil))⟩
  · have g0 : ws.length ≤ i := by omega
    cases w with
    | keys => exact ⟨hH, g0⟩
    | vals => exact ⟨hH, g0⟩
    | items => exact ⟨hH, g0⟩
def DWk (X : Cx) (tg iter : Expr) (w : Wk) (f : List Slot → Option D) : Prop :=
  ∃ wi : TI, PI X tg iter wi ∧ ∀ fr B σ H ρ d, St X.K fr B σ H ρ → f ρ = some d → ∀ kvs, d = .dct kvs → ∃ a ws, DRd B a ws ∧ RepK X.K B kvs ws ∧
    ∀ B2 H2 (R : It → Hp → Prop) o, Ex B B2 → Sub B2 H2 → H2 a = some (.frz o (.dK ws)) → R (wkIt w a o ws) H2 → wi σ H2 R
theorem dwk_keys {tg e : Expr} {f : List Slot → Option D} (h : DV X e f) : DWk X tg e .keys f := by
  obtain ⟨t, p, k⟩ := h
  refine ⟨_, pi_keys p, fun fr B σ H ρ d s e kvs ed => ?_⟩
  obtain ⟨v, r, q⟩ := k fr B σ H ρ d s e
  subst ed
  obtain ⟨a, ws, rfl, h1, h2⟩ := r.dct_inv
  exact ⟨a, ws, h1, h2, fun B2 H2 R o e1 s1 hH hR => q B2 H2 _ e1 s1 ⟨a, o, rfl, .inl ⟨ws, hH, hR⟩⟩⟩
theorem dwk_vals {tg e : Expr} {apos cpos : Pos} {f : List Slot → Option D} (h : DV X e f) (hbase : attributeBase e "values" X.env (eval e X.env) = eval e X.env := by rfl) (hline : (apos.endLine == cpos.line) = true := by rfl) : DWk X tg (.Call (.Attribute e "values" apos) [] [] cpos) .vals f := by
  obtain ⟨t, p, k⟩ := h
  refine ⟨_, pi_values p hbase hline, fun fr B σ H ρ d s e kvs ed => ?_⟩
  obtain ⟨v, r, q⟩ := k fr B σ H ρ d s e
  subst ed
  obtain ⟨a, ws, rfl, h1, h2⟩ := r.dct_inv
  exact ⟨a, ws, h1, h2, fun B2 H2 R o e1 s1 hH hR => q B2 H2 _ e1 s1 ⟨a, o, ws, rfl, hH, hR⟩⟩
theorem dwk_items {elts : List Expr} {kk : Nat} {tpos : Pos} {e : Expr} {apos cpos : Pos} {f : List Slot → Option D} (h : DV X e f) (hbase : attributeBase e "items" X.env (eval e X.env) = eval e X.env := by rfl) (hline : (apos.endLine == cpos.line) = true := by rfl) :
    DWk X (.Tuple elts kk tpos) (.Call (.Attribute e "items" apos) [] [] cpos) .items f := by
  obtain ⟨t, p, k⟩ := h
  refine ⟨_, pi_items p hbase hline, fun fr B σ H ρ d s e kvs ed => ?_⟩
  obtain ⟨v, r, q⟩ := k fr B σ H ρ d s e
  subst ed
  obtain ⟨a, ws, rfl, h1, h2⟩ := r.dct_inv
  exact ⟨a, ws, h1, h2, fun B2 H2 R o e1 s1 hH hR => q B2 H2 _ e1 s1 ⟨a, o, ws, rfl, hH, hR⟩⟩
/-- no exception leaves it -/
def noX {α : Type} (m : M α) : M α := fun ρ => match m ρ with
  | .exc _ _ => .bad
  | r => r
theorem Go.noX {K : PySem.W.Frag} {W W' : Wn} {fr : Ad} {σ σ' : L2.St} {B H B' H' : Hp} {α : Type} {m : M α} {ρ : List Slot} {Q Q' : α → List Slot → Prop} (h : Go K W fr σ B H (noX m ρ) Q) (k : ∀ a ρ, Q a ρ → Q' a ρ) : Go K W' fr σ' B' H' (m ρ) Q' := by
  unfold Go EE.noX at h
  unfold Go
  cases e : m ρ with
  | ok a ρ1 => rw [e] at h; exact k a ρ1 h
  | exc c ρ1 => rw [e] at h; exact h.elim
  | bad => rw [e] at h; exact h.elim
def mForD (w : Wk) (f : List Slot → Option D) (bnd : D → M Unit) (body : M Fl) : M Fl := fun ρ => match (f ρ).bind (wkD w) with
  | some ds => noX (forM bnd body ds) ρ
  | none => .bad
theorem wkD_inv {w : Wk} {d : D} {ds : List D} (h : wkD w d = some ds) : ∃ kvs, d = .dct kvs := by
  cases d <;> first | exact ⟨_, rfl⟩ | cases h
theorem ds_forD {tg iter : Expr} {sts : List Stmt} {pos : Pos} {w : Wk} {f : List Slot → Option D} {bnd : D → M Unit} {body : M Fl} (hp : PassesOwn (model X.prog X.w) X.A X.env X.xe) (hc : X.calm = true) (hi : DWk X tg iter w f) (hg : DG X W tg bnd) (hb : DSs X W sts body)
    (hs : ∀ x, foldedSetIterable iter X.env x = pure x := by intro _; rfl) : DS X W (.For tg iter sts [] pos) (mForD w f bnd body) := by
  obtain ⟨wi, pi, ki⟩ := hi
  obtain ⟨g, pg, kg⟩ := hg
  obtain ⟨tb, pb, kb⟩ := hb
  have p0 := ps_for (pos := pos) hp hc pi pg pb hs
  refine ⟨_, PS.or (ps_lock p0) p0, fun fr B σ H ρ D s h => ?_⟩
  unfold mForD at h
  cases e : (f ρ).bind (wkD w) with
  | none => rw [e] at h; exact h.elim
  | some ds =>
    rw [e] at h
    obtain ⟨d, e1, e2⟩ := Option.bind_eq_some_iff.mp e
    obtain ⟨kvs, rfl⟩ := wkD_inv e2
    obtain ⟨a, ws, ⟨o, ho, hd⟩, r, k⟩ := ki fr B σ H ρ _ s e1 kvs rfl
    rcases hd with rfl | ⟨od, rfl⟩
    · refine .inl ⟨a, _, s.sub _ _ ho, trivial, fun od => ?_⟩
      have sm : Sm (.dK ws) (.frz od (.dK ws)) := .inr ⟨ws, .inl rfl, .inr ⟨od, rfl⟩⟩
      have s1 := s.swap ho sm
      have e1 : Ex B (upd B a (.frz od (.dK ws))) := fun b u hb => by
        by_cases q : b = a
        · subst q; rw [ho] at hb; cases hb; exact ⟨_, upd_same, sm⟩
        · exact ⟨u, by rw [upd_ne q]; exact hb, .refl u⟩
      have nf : ∀ b, fr b → b ≠ a := fun b z q => by
        obtain ⟨fp, sf⟩ := s
        rw [sf.base, hid_no (.inl (q ▸ z))] at ho
        cases ho
      refine k _ _ _ od e1 s1.sub upd_same ?_
      refine run_for kg kb s1 (itr_d upd_same (r.mono e1) e2) ?_
      have back : ∀ {B2 H2 : Hp}, To fr (upd B a (.frz od (.dK ws))) (upd H a (.frz od (.dK ws))) B2 H2 → H2 a = some (.frz od (.dK ws)) → B2 a = some (.frz od (.dK ws)) → To fr B H (upd B2 a (.dK ws)) (upd H2 a (.dK ws)) := fun {B2 H2} t _ _ => by
        refine ⟨fun b u hb => ?_, fun b z => ?_⟩
        · by_cases q : b = a
          · subst q; rw [upd_same]; exact ho.symm.trans hb ▸ rfl
          · rw [upd_ne q]; exact t.sub b u (by rw [upd_ne q]; exact hb)
        · rw [upd_ne (nf b z), t.keep b z, upd_ne (nf b z)]
      refine Go.noX h fun fl ρ' q => ?_
      · intro σ2 B2 H2 t2 p2
        have b2 : B2 a = some (.frz od (.dK ws)) := t2.sub _ _ upd_same
        cases fl with
        | nx => exact fun s2 => ⟨s2.sub _ _ b2, q σ2 _ _ (back t2 (s2.sub _ _ b2) b2) p2 (s2.swap b2 (.inr ⟨ws, .inr ⟨od, rfl⟩, .inl rfl⟩))⟩
        | bk => exact fun s2 => ⟨s2.sub _ _ b2, q σ2 _ _ (back t2 (s2.sub _ _ b2) b2) p2 (s2.swap b2 (.inr ⟨ws, .inr ⟨od, rfl⟩, .inl rfl⟩))⟩
        | ct => exact fun s2 => ⟨s2.sub _ _ b2, q σ2 _ _ (back t2 (s2.sub _ _ b2) b2) p2 (s2.swap b2 (.inr ⟨ws, .inr ⟨od, rfl⟩, .inl rfl⟩))⟩
        | rt rr => exact fun v s2 => ⟨s2.sub _ _ b2, q σ2 _ _ (back t2 (s2.sub _ _ b2) b2) p2 v (s2.swap b2 (.inr ⟨ws, .inr ⟨od, rfl⟩, .inl rfl⟩))⟩
    · refine .inr ?_
      refine k B H _ od (Ex.refl B) s.sub (s.sub _ _ ho) ?_
      exact run_for kg kb s (itr_d ho r e2) (Go.noX h fun _ _ q => q)

/-! ### list comprehensions -/
/-- the wish in a block, out of which nothing is raised; its own names are at vs, n names there are -/
def W0 (n : Nat) (vs : List Nat) : Wn := ⟨fun _ _ _ _ => False, (List.range n).filter fun i => !vs.contains i⟩
/-- the block's own names forgotten -/
def wipeR (ρ : List Slot) : List Nat → List Slot
  | [] => ρ
  | v :: vs => (wipeR ρ vs).set v .non
/-- the items made so far; the block's names are bound anew at each turn -/
def compM (bnd : D → M Unit) (tst : M Bool) (elt : M D) (vs : List Nat) : List D → List D → M (List D)
  | [], acc => M.pure acc
  | d :: ds, acc => (noX (bnd d)).bind fun _ => (noX tst).bind fun k => if k then (noX elt).bind fun y => if okSz acc then fun ρ => compM bnd tst elt vs ds (acc ++ [y]) (wipeR ρ vs) else M.bad else fun ρ => compM bnd tst elt vs ds acc (wipeR ρ vs)
/-- what the names held comes back -/
def backR (ρ0 ρ : List Slot) : List Nat → List Slot
  | [] => ρ
  | v :: vs => (backR ρ0 ρ vs).set v (ρ0[v]?.getD .non)
def plainS : Slot → Bool
  | .non => true
  | .imm _ => true
  | _ => false
def plainAt (ρ : List Slot) (vs : List Nat) : Bool := vs.all fun v => match ρ[v]? with
  | some s => plainS s
  | none => false
def mComp (n : Nat) (m : M (List D)) (bnd : D → M Unit) (tst : M Bool) (elt : M D) (vs : List Nat) : M D := m.bind fun ds => fun ρ => if plainAt ρ vs && decide (ρ.length = n) then match compM bnd tst elt vs ds [] (wipeR ρ vs) with
    | .ok acc ρ' => .ok (.lst acc) (backR ρ ρ' vs)
    | _ => .bad
  else .bad
/-- the reading of what m tells -/
def tE (K : PySem.W.Frag) (W : Wn) (m : M D) : TE := fun σ H Q => ∃ fr B ρ, St K fr B σ H ρ ∧ Go K W fr σ B H (m ρ) (fun d ρ' => ∀ v B' H', To fr B H B' H' → St K fr B' σ H' ρ' → Rep K B' d v → Q v H')
def tT_ (K : PySem.W.Frag) (W : Wn) (m : M Bool) : TT := fun σ H Q => ∃ fr B ρ, St K fr B σ H ρ ∧ Go K W fr σ B H (m ρ) (fun b ρ' => ∀ B' H', To fr B H B' H' → St K fr B' σ H' ρ' → Q b H')
def tG_ (K : PySem.W.Frag) (W : Wn) (m : D → M Unit) : TG := fun v σ H Q => ∃ fr B ρ d, St K fr B σ H ρ ∧ Rep K B d v ∧ Go K W fr σ B H (m d ρ) (fun _ ρ' => ∀ σ' B' H', To fr B H B' H' → Pin W.P σ σ' → St K fr B' σ' H' ρ' → Q σ' H')
theorem DE.pe {e : Expr} {m : M D} (h : DE X W e m) : PE X e (tE X.K W m) := by
  obtain ⟨t, p, k⟩ := h
  exact ⟨fun pins s σ H Q I ⟨fr, B, ρ, q, g⟩ => p.run pins s σ H Q I (k fr B σ H ρ Q q g)⟩
theorem DT.pt {e : Expr} {m : M Bool} (h : DT X W e m) : PT X e (tT_ X.K W m) := by
  obtain ⟨t, p, k⟩ := h
  exact ⟨fun pins s σ H Q I ⟨fr, B, ρ, q, g⟩ => p.run pins s σ H Q I (k fr B σ H ρ Q q g)⟩
theorem DG.pg {e : Expr} {m : D → M Unit} (h : DG X W e m) : PG X e (tG_ X.K W m) := by
  obtain ⟨t, p, k⟩ := h
  exact ⟨fun pins s σ H v u Q I r ⟨fr, B, ρ, d, q, rd, g⟩ => p.run pins s σ H v u Q I r (k fr B σ H ρ d v Q q rd g)⟩
/-- the tests of a clause: none, one -/
def DTs (X : Cx) (W : Wn) (es : List Expr) (m : M Bool) : Prop := PTs X es (tT_ X.K W m)
theorem dts_nil : DTs X W [] (M.pure true) := ⟨fun pins s σ H Q I ⟨fr, B, ρ, q, g⟩ => pts_nil.run pins s σ H Q I ((Go.pure g) B H .refl q)⟩
theorem dts_one {c : Expr} {m : M Bool} (h : DT X W c m) : DTs X W [c] m := pts_one h.pt
end
section
variable {K : PySem.W.Frag} {B B' H H' : Hp} {σ σ' : L2.St} {ρ ρ' : List Slot} {fr : Ad}
theorem St.dropW (s : St K fr B σ H ρ) (i : Nat) (w : Option V) : ∃ B', Sub B B' ∧ St K fr B' (σ.set i w) H (ρ.set i .non) := by
  obtain ⟨fp, s⟩ := s
  have q := s.pick (σ' := σ.set i w) (ρ' := ρ.set i .non) (fun j => if j = i then none else some j) (by simpa using s.len) (fun a b j h1 h2 => by
    have h1 : (if a = i then none else some a) = some j := h1
    have h2 : (if b = i then none else some b) = some j := h2
    split at h1
    · cases h1
    · split at h2
      · cases h2
      · have h1 := Option.some.inj h1
        have h2 := Option.some.inj h2
        omega) fun j sl hj => by
      by_cases e : j = i
      · subst e
        by_cases lt : j < ρ.length
        · rw [List.getElem?_set_self lt] at hj
          cases hj
          have lt2 : j < σ.length := by rw [s.len]; exact lt
          exact ⟨w, by rw [List.getElem?_set_self lt2], .inl ⟨rfl, by simp⟩⟩
        · rw [List.getElem?_eq_none (by simpa using lt)] at hj
          cases hj
      · rw [List.getElem?_set_ne (Ne.symm e)] at hj
        obtain ⟨w', h1, _⟩ := s.slot j sl hj
        exact ⟨w', by rw [List.getElem?_set_ne (Ne.symm e)]; exact h1, .inr (.inr ⟨j, by simp [e], hj, h1⟩)⟩
  exact ⟨_, q.2, _, q.1⟩
theorem St.wipe (s : St K fr B σ H ρ) : ∀ vs : List Nat, ∃ B', Sub B B' ∧ St K fr B' (L2.wipe σ vs) H (wipeR ρ vs)
  | [] => ⟨B, .refl B, s⟩
  | v :: vs => by
    obtain ⟨B1, b1, s1⟩ := St.wipe s vs
    obtain ⟨B2, b2, s2⟩ := s1.dropW v none
    exact ⟨B2, b1.trans b2, s2⟩
theorem backR_len (ρ0 ρ : List Slot) : ∀ vs : List Nat, (backR ρ0 ρ vs).length = ρ.length
  | [] => rfl
  | v :: vs => by unfold backR; rw [List.length_set, backR_len ρ0 ρ vs]
theorem backR_get (ρ0 ρ : List Slot) (i : Nat) (lt : i < ρ.length) : ∀ vs : List Nat, (backR ρ0 ρ vs)[i]? = if i ∈ vs then some (ρ0[i]?.getD .non) else ρ[i]?
  | [] => by rw [if_neg (by simp)]; rfl
  | v :: vs => by
    unfold backR
    by_cases e : v = i
    · subst e
      rw [List.getElem?_set_self (by rw [backR_len]; exact lt), if_pos (by simp)]
    · rw [List.getElem?_set_ne e, backR_get ρ0 ρ i lt vs]
      by_cases q : i ∈ vs
      · rw [if_pos q, if_pos (by simp [q])]
      · rw [if_neg q, if_neg (by simp [q, Ne.symm e])]
theorem wipe_out (σ : L2.St) {i : Nat} : ∀ {vs : List Nat}, i ∉ vs → (L2.wipe σ vs)[i]? = σ[i]?
  | [], _ => rfl
  | v :: vs, h => by
    unfold L2.wipe
    rw [List.getElem?_set_ne (fun e => h (by simp [e])), wipe_out σ fun z => h (by simp [z])]
theorem wipe_in (σ : L2.St) {i : Nat} (lt : i < σ.length) : ∀ {vs : List Nat}, i ∈ vs → (L2.wipe σ vs)[i]? = some none
  | v :: vs, h => by
    unfold L2.wipe
    by_cases e : v = i
    · subst e
      rw [List.getElem?_set_self (by rw [wipe_length]; exact lt)]
    · rw [List.getElem?_set_ne e]
      exact wipe_in σ lt (by simpa [Ne.symm e] using h)
/-- two that differ at vs alone are the same once these are forgotten -/
theorem wipe_eq {σ σ' : L2.St} {vs : List Nat} (hl : σ'.length = σ.length) (h : ∀ i, i < σ.length → i ∉ vs → σ'[i]? = σ[i]?) : L2.wipe σ' vs = L2.wipe σ vs := by
  apply List.ext_getElem?
  intro i
  by_cases lt : i < σ.length
  · by_cases q : i ∈ vs
    · rw [wipe_in σ' (by rw [hl]; exact lt) q, wipe_in σ lt q]
    · rw [wipe_out σ' q, wipe_out σ q, h i lt q]
  · rw [List.getElem?_eq_none (by rw [wipe_length, hl]; omega), List.getElem?_eq_none (by rw [wipe_length]; omega)]
theorem St.unwipe {B1 H1 : Hp} {ρ1 ρL : List Slot} {vs : List Nat} (s1 : St K fr B1 σ H1 ρ1) (hp : plainAt ρ1 vs = true) (sL : St K fr B' (L2.wipe σ vs) H' ρL) (t : To fr B1 H1 B' H') : ∃ B'', Sub B' B'' ∧ St K fr B'' σ H' (backR ρ1 ρL vs) := by
  have hl1 := s1.len
  have hlL := sL.len
  rw [wipe_length] at hlL
  obtain ⟨fp1, f1⟩ := s1
  obtain ⟨fp, sL⟩ := sL
  have q := sL.pick (σ' := σ) (ρ' := backR ρ1 ρL vs) (fun j => if j ∈ vs then none else some j) (by rw [backR_len, ← hlL]) (fun a b j h1 h2 => by
    have h1 : (if a ∈ vs then none else some a) = some j := h1
    have h2 : (if b ∈ vs then none else some b) = some j := h2
    split at h1
    · cases h1
    · split at h2
      · cases h2
      · have h1 := Option.some.inj h1
        have h2 := Option.some.inj h2
        omega) fun j sl hj => by
      have lt : j < ρL.length := by
        have := (List.getElem?_eq_some_iff.mp hj).1
        rwa [backR_len] at this
      rw [backR_get ρ1 ρL j lt] at hj
      by_cases e : j ∈ vs
      · rw [if_pos e] at hj
        have lt1 : j < ρ1.length := by omega
        have e1 : ρ1[j]? = some sl := by
          rw [List.getElem?_eq_getElem lt1] at hj ⊢
          exact hj
        have pl : plainS sl = true := by
          have := List.all_eq_true.mp hp j e
          rw [e1] at this
          exact this
        obtain ⟨w, h1, h2⟩ := f1.slot j sl e1
        refine ⟨w, h1, ?_⟩
        cases sl with
        | non => exact .inl ⟨rfl, by simp [e]⟩
        | imm d =>
          obtain ⟨_, v, rfl, r⟩ := h2
          refine .inr (.inl ⟨d, v, rfl, rfl, by simp [e], r.mono (t.sub.ex.trans ?_)⟩)
          rw [sL.base]
          exact (hid_le fun b z => z.elim .inl fun ⟨i, _, k, _, z⟩ => .inr ⟨k, z⟩).ex
        | _ => cases pl
      · rw [if_neg e] at hj
        obtain ⟨w, h1, _⟩ := sL.slot j sl hj
        exact ⟨w, by rw [← wipe_out σ e]; exact h1, .inr (.inr ⟨j, by simp [e], hj, h1⟩)⟩
  exact ⟨_, q.2, _, q.1⟩
end
section
variable {X : Cx} {W : Wn}
theorem noX_ok {α : Type} {m : M α} {ρ : List Slot} {β : Type} {f : α → M β} {b : β} {ρ' : List Slot} (h : ((noX m).bind f) ρ = .ok b ρ') : ∃ a ρ1, m ρ = .ok a ρ1 ∧ f a ρ1 = .ok b ρ' := by
  unfold M.bind noX at h
  cases e : m ρ with
  | ok a ρ1 => rw [e] at h; exact ⟨a, ρ1, rfl, h⟩
  | exc c ρ1 => rw [e] at h; cases h
  | bad => rw [e] at h; cases h
theorem pin_out {n : Nat} {vs : List Nat} {σ σ' : L2.St} (p : Pin (W0 n vs).P σ σ') {i : Nat} (lt : i < n) (h : i ∉ vs) : σ'[i]? = σ[i]? :=
  p.at_ i (List.mem_filter.mpr ⟨List.mem_range.mpr lt, by simpa using h⟩)
theorem de_comp {elt tg iter : Expr} {ifs : List Expr} {scope : Scope} {own : List (Str × Nat)} {pos : Pos} {m : M (List D)} {bnd : D → M Unit} {tst : M Bool} {em : M D} {n : Nat} (hc : X.calm = true) (hN : X.N.Nodup) (hi : DI X W tg iter m) (ok : blkC X.N X.env.scope scope own = true)
    (hg : ∀ (s : Shared) (H : Hp) (C : Addr) (cl : List (Str × Addr)) (fp : List Addr), DG (X.blk s H scope (compEnvC scope cl C X.env) fp) (W0 n (own.map (·.2))) tg bnd) (ht : ∀ (s : Shared) (H : Hp) (C : Addr) (cl : List (Str × Addr)) (fp : List Addr), DTs (X.blk s H scope (compEnvC scope cl C X.env) fp) (W0 n (own.map (·.2))) ifs tst)
    (he : ∀ (s : Shared) (H : Hp) (C : Addr) (cl : List (Str × Addr)) (fp : List Addr), DE (X.blk s H scope (compEnvC scope cl C X.env) fp) (W0 n (own.map (·.2))) elt em) (hs : ∀ x, foldedSetIterable iter X.env x = pure x := by intro _; rfl) :
    DE X W (.ListComp elt [⟨tg, iter, ifs, 0⟩] scope pos) (mComp n m bnd tst em (own.map (·.2))) := by
  obtain ⟨wi, pi, ki⟩ := hi
  obtain ⟨vs, hvs⟩ : ∃ vs, vs = own.map (·.2) := ⟨_, rfl⟩
  refine ⟨_, pe_lc (te := tE X.K (W0 n (own.map fun p : Str × Nat => p.2)) em) (tt := tT_ X.K (W0 n (own.map fun p : Str × Nat => p.2)) tst) (g := tG_ X.K (W0 n (own.map fun p : Str × Nat => p.2)) bnd) hc hN pi (blkOk_by ok) (fun s H C cl fp => (hg s H C cl fp).pg) ht (fun s H C cl fp => (he s H C cl fp).pe) hs, fun fr B σ H ρ Q s h => ?_⟩
  rw [← hvs] at h ⊢
  refine ki fr B σ H ρ _ s (h.step fun ds ρ1 h J B1 H1 t1 s1 hJ D hD => ?_)
  unfold Go at h
  by_cases c : (plainAt ρ1 vs && decide (ρ1.length = n)) = true
  · rw [if_pos c] at h
    obtain ⟨c1, c2⟩ := Bool.and_eq_true_iff.mp c
    have hn : ρ1.length = n := of_decide_eq_true c2
    cases e : compM bnd tst em vs ds [] (wipeR ρ1 vs) with
    | bad => rw [e] at h; exact h.elim
    | exc c ρ' => rw [e] at h; exact h.elim
    | ok accF ρF =>
      rw [e] at h
      have nfD : ¬ fr D := fun z => by
        obtain ⟨fp, sf⟩ := s1
        exact sf.frt D z hD
      obtain ⟨s2, t2⟩ := s1.hide (o := .lst []) hD
      obtain ⟨B3, b3, s3⟩ := s2.wipe vs
      refine ⟨fun i k H' => i ≤ ds.length ∧ k = ds.length - i ∧ ∃ B' acc xs ρ', To fr B1 H1 B' H' ∧ St X.K (orF fr D) B' (L2.wipe σ vs) H' ρ' ∧ H' D = some (.lst xs) ∧ RepL X.K B' acc xs ∧ compM bnd tst em vs (ds.drop i) acc ρ' = .ok accF ρF,
        ⟨ds.length, Nat.zero_le _, rfl, B3, [], [], _, t2.trans (.of b3), s3, upd_same, .nil, e⟩, ?_⟩
      rintro i k H4 ⟨hi, rfl, B4, acc, xs, ρ4, t4, s4, hD4, r4, e4⟩
      obtain ⟨q1, q2⟩ := hJ B4 H4 t4.sub s4.sub i hi
      by_cases lt : i < ds.length
      · obtain ⟨go, yl⟩ := q1 lt
        refine .inr ⟨go, fun H' => ∃ B' acc xs ρ', To fr B1 H1 B' H' ∧ St X.K (orF fr D) B' (L2.wipe σ vs) H' ρ' ∧ H' D = some (.lst xs) ∧ RepL X.K B' acc xs ∧ compM bnd tst em vs (ds.drop (i + 1)) acc ρ' = .ok accF ρF, fun H' z => ⟨ds.length - (i + 1), by omega, lt, rfl, z⟩, fun x H5 y => ?_⟩
        obtain ⟨B5, al, d, hd, rd⟩ := yl x H5 y
        obtain ⟨s5, t5⟩ := al.st s4
        have ed : ds.drop i = d :: ds.drop (i + 1) := by
          rw [List.drop_eq_getElem_cons lt]
          congr 1
          rw [List.getElem?_eq_getElem lt] at hd
          exact Option.some.inj hd
        rw [ed] at e4
        have fr1 : ∀ {B H B' H' : Hp}, To (orF fr D) B H B' H' → To fr B H B' H' := fun t => ⟨t.sub, fun b z => t.keep b (.inl z)⟩
        obtain ⟨_, ρ6, g1, e6⟩ := noX_ok e4
        obtain ⟨kb, ρ7, g2, e7⟩ := noX_ok e6
        refine ⟨orF fr D, B5, ρ4, d, s5, rd, ?_⟩
        unfold Go
        rw [g1]
        intro σ6 B6 H6 t6 p6 s6
        have hσ : σ.length = n := by rw [s1.len, hn]
        have hl4 : (L2.wipe σ vs).length = n := by rw [wipe_length, hσ]
        have hl6 : σ6.length = (L2.wipe σ vs).length := p6.len
        have ew : L2.wipe σ6 vs = L2.wipe σ vs := by
          have w1 : L2.wipe σ6 vs = L2.wipe (L2.wipe σ vs) vs := wipe_eq hl6 fun i hi hv => pin_out p6 (by omega) hv
          have w2 : L2.wipe (L2.wipe σ vs) vs = L2.wipe σ vs := wipe_eq (by rw [wipe_length]) fun i hi hv => wipe_out σ hv
          rw [w1, w2]
        refine ⟨ew, orF fr D, B6, ρ6, s6, ?_⟩
        unfold Go
        rw [g2]
        intro B7 H7 t7 s7
        have hD5 : H5 D = some (.lst xs) := (t5.keep D (.inr rfl)).trans hD4
        have hD7 : H7 D = some (.lst xs) := (t7.keep D (.inr rfl)).trans ((t6.keep D (.inr rfl)).trans hD5)
        have t17 := ((t4.trans (fr1 t5)).trans (fr1 t6)).trans (fr1 t7)
        have r7 := r4.mono (t5.sub.ex.trans (t6.sub.ex.trans t7.sub.ex))
        cases kb with
        | false =>
          show ∃ B' acc xs ρ', _
          obtain ⟨B8, b8, s8⟩ := s7.wipe vs
          rw [ew] at s8
          exact ⟨B8, acc, xs, wipeR ρ7 vs, t17.trans (.of b8), s8, hD7, r7.mono b8.ex, e7⟩
        | true =>
          obtain ⟨yd, ρ8, g3, e8⟩ := noX_ok e7
          show tE X.K _ em σ6 H7 _
          refine ⟨orF fr D, B7, ρ7, s7, ?_⟩
          unfold Go
          rw [g3]
          intro yv B8 H8 t8 s8 ry
          have hD8 : H8 D = some (.lst xs) := (t8.keep D (.inr rfl)).trans hD7
          by_cases z : okSz acc
          · rw [if_pos z] at e8
            have r8 := r7.mono t8.sub.ex
            refine ⟨xs, hD8, by rw [r8.length]; exact Nat.lt_of_le_of_lt z (by decide), ?_⟩
            obtain ⟨s9, t9⟩ := s8.frUpd (o := .lst (xs ++ [yv])) nfD
            obtain ⟨B10, b10, s10⟩ := s9.wipe vs
            rw [ew] at s10
            exact ⟨B10, acc ++ [yd], xs ++ [yv], wipeR ρ8 vs, ((t17.trans (fr1 t8)).trans t9).trans (.of b10), s10, upd_same, (r8.append (.cons ry .nil)).mono b10.ex, e8⟩
          · rw [if_neg z] at e8
            cases e8
      · have ei : i = ds.length := by omega
        subst ei
        rw [List.drop_length] at e4
        cases e4
        obtain ⟨s5, t5⟩ := s4.show_ nfD hD4
        obtain ⟨B6, b6, s6⟩ := St.unwipe s1 c1 s5 (t4.trans t5)
        have t6 := (t1.trans (t4.trans t5)).trans (.of b6)
        refine .inl ⟨q2 rfl, h _ B6 H4 t6 s6 (.lst (b6 _ _ upd_same) (r4.mono (t5.sub.trans b6).ex))⟩
  · rw [if_neg c] at h; exact h.elim
end
end EE
end

section
set_option Elab.async false
set_option linter.all false
set_option maxRecDepth 100000
set_option maxHeartbeats 4000000
/-! E10: a def's promise, its call -/
namespace EE
open PySem PySem.Spec PyProof.Rows L2
variable [XAd]

/-! ### what a def does -/
abbrev Fn := List Slot → Res Slot
def keepS : List Slot → List Slot → List Slot
  | [], _ => []
  | a :: as, ρ => (if plainS a then .non else ρ.headD .non) :: keepS as ρ.tail
theorem keepS_len : ∀ as ρ : List Slot, (keepS as ρ).length = as.length
  | [], _ => rfl
  | a :: as, ρ => by unfold keepS; rw [List.length_cons, List.length_cons, keepS_len as]
theorem keepS_get : ∀ {as ρ : List Slot} {k : Nat} {s : Slot}, (keepS as ρ)[k]? = some s → ∃ a, as[k]? = some a ∧ ((plainS a = true ∧ s = .non) ∨ (plainS a = false ∧ s = (ρ[k]?).getD .non))
  | [], _, _, _, h => by simp [keepS] at h
  | a :: as, ρ, 0, s, h => by
    refine ⟨a, rfl, ?_⟩
    have h : some (if plainS a then Slot.non else ρ.headD .non) = some s := h
    cases e : plainS a with
    | true => rw [e, if_pos rfl] at h; exact .inl ⟨rfl, (Option.some.inj h).symm⟩
    | false =>
      rw [e, if_neg Bool.false_ne_true] at h
      refine .inr ⟨rfl, ?_⟩
      rw [← Option.some.inj h]
      cases ρ <;> rfl
  | a :: as, ρ, k + 1, s, h => by
    obtain ⟨a', h1, h2⟩ := keepS_get (as := as) (ρ := ρ.tail) (k := k) (s := s) h
    refine ⟨a', h1, ?_⟩
    have e : ρ.tail[k]? = ρ[k + 1]? := by cases ρ <;> rfl
    rw [← e]
    exact h2
/-- n parameters, m further slots, P: the parameters that may be one's own objects -/
def ownIn (P : List Nat) (as : List Slot) : Bool := (List.range as.length).all fun k => P.contains k || (match as[k]? with
  | some a => plainS a
  | none => true)
def runDef (n m : Nat) (P : List Nat) (body : M Fl) : Fn := fun as => if as.length = n ∧ ownIn P as = true then match body (as ++ List.replicate m .non) with
  | .ok (.rt r) ρ => .ok r (keepS as ρ)
  | .ok .nx ρ => .ok (.imm .non) (keepS as ρ)
  | .exc c ρ => .exc c (keepS as ρ)
  | _ => .bad
else .bad
/-- the promise: it does F -/
def spM (K : PySem.W.Frag) (n : Nat) (F : Fn) : Sp := fun vs H Q E => ∃ fr B as, vs.length = n ∧ St K fr B (vs.map some) H as ∧ match F as with
  | .ok r as' => ∀ v B' H', To fr B H B' H' → St K fr B' (some v :: vs.map some) H' (r :: as') → Q v H'
  | .exc c as' => ∀ B' H' cls dx, Sub B B' → (∀ b, fr b → H' b = H b) → St K fr B' (vs.map some) H' as' → ExnR K B' c cls dx → E cls dx H'
  | .bad => False
def KeepL (as as' : List Slot) : Prop := as'.length = as.length ∧ ∀ (k : Nat) (a s : Slot), as[k]? = some a → as'[k]? = some s → plainS a = true → s = Slot.non
/-- n arguments; what was handed over as data is let go -/
structure Keeps (n : Nat) (F : Fn) : Prop where
  len : ∀ as, as.length ≠ n → F as = .bad
  ok : ∀ as r as', F as = .ok r as' → KeepL as as'
  exc : ∀ as c as', F as = .exc c as' → KeepL as as'
theorem keepL_keepS (as ρ : List Slot) : KeepL as (keepS as ρ) := ⟨keepS_len as ρ, fun k a s h1 h2 p => by
  obtain ⟨a', q1, q2⟩ := keepS_get h2
  rw [h1] at q1; cases q1
  rcases q2 with ⟨_, q⟩ | ⟨q, _⟩
  · exact q
  · rw [p] at q; cases q⟩
theorem keeps_run {n m : Nat} {Pn : List Nat} {mb : M Fl} : Keeps n (runDef n m Pn mb) := by
  refine ⟨fun as h => ?_, fun as r as' h => ?_, fun as c as' h => ?_⟩
  · unfold runDef; rw [if_neg fun z => h z.1]
  · unfold runDef at h
    split at h
    · split at h
      · cases h; exact keepL_keepS _ _
      · cases h; exact keepL_keepS _ _
      · cases h
      · cases h
    · cases h
  · unfold runDef at h
    split at h
    · split at h
      · cases h
      · cases h
      · cases h; exact keepL_keepS _ _
      · cases h
    · cases h
theorem St.pad {K : PySem.W.Frag} {fr : Ad} {B H : Hp} {σ : L2.St} {ρ : List Slot} (s : St K fr B σ H ρ) (m : Nat) : St K fr B (σ ++ List.replicate m none) H (ρ ++ List.replicate m .non) := by
  obtain ⟨fp, s⟩ := s
  refine ⟨fp, ⟨by simp [s.len], s.base, s.dis, s.there, s.frt, s.frd, fun i hi b => s.out i (by simp at hi; omega) b, fun i sl hi => ?_⟩⟩
  by_cases lt : i < ρ.length
  · rw [List.getElem?_append_left lt] at hi
    obtain ⟨w, h1, h2⟩ := s.slot i sl hi
    exact ⟨w, by rw [List.getElem?_append_left (by rw [s.len]; exact lt)]; exact h1, h2⟩
  · rw [List.getElem?_append_right (by omega), List.getElem?_replicate] at hi
    split at hi
    · cases hi
      refine ⟨none, ?_, fun b z => s.out i (by omega) b z⟩
      rw [List.getElem?_append_right (by rw [s.len]; omega), List.getElem?_replicate, if_pos (by rw [s.len]; assumption)]
    · cases hi
/-- a def's end: what was handed over is as the slots say, all else goes -/
theorem St.leave {K : PySem.W.Frag} {fr : Ad} {B H : Hp} {vs : List V} {σ' : L2.St} {as ρ' : List Slot} {w : Option V} {r : Slot} (s : St K fr B (w :: σ') H (r :: ρ')) (hl : vs.length = as.length) (hp : ∀ (k : Nat) (a : Slot), as[k]? = some a → plainS a = false → σ'[k]? = (vs.map some)[k]?) :
    ∃ B', Sub B B' ∧ St K fr B' (w :: vs.map some) H (r :: keepS as ρ') := by
  obtain ⟨fp, s⟩ := s
  have q := s.pick (σ' := w :: vs.map some) (ρ' := r :: keepS as ρ') (fun j => match j with | 0 => some 0 | j + 1 => match as[j]? with | some a => if plainS a then none else if j < ρ'.length then some (j + 1) else none | none => none)
    (by simp [keepS_len, hl]) (fun a b j h1 h2 => by
      cases a with
      | zero =>
        cases b with
        | zero => rfl
        | succ b =>
          have h1 := Option.some.inj h1
          subst h1
          simp only at h2
          split at h2
          · split at h2
            · cases h2
            · split at h2
              · cases h2
              · cases h2
          · cases h2
      | succ a =>
        cases b with
        | zero =>
          have h2 := Option.some.inj h2
          subst h2
          simp only at h1
          split at h1
          · split at h1
            · cases h1
            · split at h1
              · cases h1
              · cases h1
          · cases h1
        | succ b =>
          simp only at h1 h2
          split at h1
          · split at h1
            · cases h1
            · split at h1
              · split at h2
                · split at h2
                  · cases h2
                  · split at h2
                    · have h1 := Option.some.inj h1
                      have h2 := Option.some.inj h2
                      omega
                    · cases h2
                · cases h2
              · cases h1
          · cases h1) fun j sl hj => by
      cases j with
      | zero =>
        simp at hj; subst hj
        obtain ⟨w', h1, _⟩ := s.slot 0 r rfl
        simp at h1; subst h1
        exact ⟨w, rfl, .inr (.inr ⟨0, rfl, rfl, rfl⟩)⟩
      | succ j =>
        have hj : (keepS as ρ')[j]? = some sl := by simpa using hj
        obtain ⟨a, h1, h2⟩ := keepS_get hj
        have lt : j < vs.length := by rw [hl]; exact (List.getElem?_eq_some_iff.mp h1).1
        have ew : (w :: vs.map some)[j + 1]? = some (some vs[j]) := by simp [lt]
        refine ⟨some vs[j], ew, ?_⟩
        rcases h2 with ⟨p, rfl⟩ | ⟨p, e⟩
        · exact .inl ⟨rfl, by simp [h1, p]⟩
        · by_cases lt2 : j < ρ'.length
          · rw [List.getElem?_eq_getElem lt2] at e
            have e : sl = ρ'[j] := e
            subst e
            refine .inr (.inr ⟨j + 1, by simp [h1, p, lt2], by simp [lt2], ?_⟩)
            have := hp j a h1 p
            simp only [List.getElem?_cons_succ]
            rw [this]
            simp [lt]
          · rw [List.getElem?_eq_none (by omega)] at e
            have e : sl = .non := e
            subst e
            exact .inl ⟨rfl, by simp [h1, p, lt2]⟩
  exact ⟨_, q.2, _, q.1⟩
section
variable {P : Program} {w : World} {K : PySem.W.Frag} {mg : Str → Option Value} {base : Heap}
/-- where a def runs -/
structure CxOk (X : Cx) (W : Wn) (P : Program) (w : World) (K : PySem.W.Frag) (mg : Str → Option Value) (base : Heap) (k : Nat) : Prop where
  prog : X.prog = P
  w_ : X.w = w
  K_ : X.K = K
  mg_ : X.mg = mg
  base_ : X.base = base
  room : Room k X.A
  calm : X.calm = true
  takes : Takes X W.w
/-- THE RULE for a def: its body does m -/
theorem def_ok {x qual : Str} {params : Arguments} {body : List Stmt} {scope : Scope} {f : Addr} {fd : FuncData} {N ps : List Str} {k n m : Nat} {Pn : List Nat} {mb : M Fl} (F : FunD K x qual params body scope [] [] f fd) (S : FnScope N ps scope) (hn : ps.length = n) (hN : N.length = n + m)
    (hb : ∀ (cdv : Value) (A : Around) (outer : List Env) (s : Shared) (H : Hp) (E : XK), CxOk (cxOf (L2.CX P w) P w K mg base N qual scope f cdv A outer s H E) ⟨fun cls d _ H => E cls d H, Pn⟩ P w K mg base k →
      DSs (cxOf (L2.CX P w) P w K mg base N qual scope f cdv A outer s H E) ⟨fun cls d _ H => E cls d H, Pn⟩ body mb) :
    FnOk P w K mg base (L2.CX P w) (k + 1) f fd ps (spM K n (runDef n m Pn mb)) := by
  refine F.ok S (fun vs H Q E h => ?_) (fun cdv A outer s H vs Q E hr h => ?_)
  · obtain ⟨_, _, _, hl, _⟩ := h
    rw [hl, hn]
  · obtain ⟨fr, B, as, hl, st, h⟩ := h
    obtain ⟨t, p, kk⟩ := hb cdv A outer s H E ⟨rfl, rfl, rfl, rfl, rfl, hr, rfl, takes_of rfl rfl rfl rfl⟩
    refine ⟨t, p, ?_⟩
    have hla : as.length = n := by rw [← hl]; have := st.len; simpa using this.symm
    have s0 : St K fr B (L2.start N vs) H (as ++ List.replicate m .non) := by
      have e : L2.start N vs = vs.map some ++ List.replicate m none := by
        unfold L2.start
        rw [hN, hl]
        congr 2
        omega
      rw [e]
      exact st.pad m
    refine kk fr B (L2.start N vs) H _ _ s0 ?_
    unfold runDef at h
    by_cases c : as.length = n ∧ ownIn Pn as = true
    · rw [if_pos c] at h
      have pinned : ∀ {σ' : L2.St}, Pin Pn (L2.start N vs) σ' → ∀ k a, as[k]? = some a → plainS a = false → σ'[k]? = (vs.map some)[k]? := fun {σ'} pn k a ha pl => by
        have lt : k < as.length := (List.getElem?_eq_some_iff.mp ha).1
        have q := List.all_eq_true.mp c.2 k (List.mem_range.mpr lt)
        rw [ha, Bool.or_eq_true] at q
        have mem : k ∈ Pn := by
          rcases q with q | q
          · simpa using q
          · have q : plainS a = true := q
            rw [pl] at q; cases q
        rw [pn.at_ k mem]
        unfold L2.start
        exact List.getElem?_append_left (by simp; omega)
      have hva : vs.length = as.length := by omega
      unfold Go
      cases e : mb (as ++ List.replicate m .non) with
      | bad => rw [e] at h; exact h.elim
      | exc c ρ' =>
        rw [e] at h
        intro σ' H' B' cls dx ex kf pn st' er
        obtain ⟨B2, b2, s2⟩ := (st'.push (d := .non) .non).leave hva (pinned pn)
        obtain ⟨B3, b3, s3⟩ := s2.pop
        refine h B3 H' cls dx (ex.trans (b2.trans b3)) kf s3 ?_
        obtain ⟨e1, e2⟩ := er
        refine ⟨e1, ?_⟩
        rcases e2 with e2 | ⟨d, ws, q1, q2, q3⟩
        · exact .inl e2
        · exact .inr ⟨d, ws, q1, (b2.trans b3) _ _ q2, q3.mono (b2.trans b3).ex⟩
      | ok fl ρ' =>
        rw [e] at h
        cases fl with
        | nx =>
          intro σ' B' H' t' pn st'
          obtain ⟨B2, b2, s2⟩ := (st'.push (d := .non) .non).leave hva (pinned pn)
          exact h .non B2 H' (t'.trans (.of b2)) s2
        | rt r =>
          intro σ' B' H' t' pn v st'
          obtain ⟨B2, b2, s2⟩ := st'.leave hva (pinned pn)
          exact h v B2 H' (t'.trans (.of b2)) s2
        | bk => exact h.elim
        | ct => exact h.elim
    · rw [if_neg c] at h; exact h.elim
/-- a def of the module, by its name -/
def GFn (P : Program) (w : World) (K : PySem.W.Frag) (mg : Str → Option Value) (base : Heap) (x : Str) (n k : Nat) (F : Fn) : Prop :=
  ∃ f fd ps, mg x = some (.ref f) ∧ PySem.W.keepIn K (.ref f) = true ∧ Binds K fd ps [] ∧ FnOk P w K mg base (L2.CX P w) k f fd ps (spM K n F) ∧ Keeps n F
theorem GFn.mono {x : Str} {n j k : Nat} {F : Fn} (g : GFn P w K mg base x n j F) (h : j ≤ k) : GFn P w K mg base x n k F := by
  obtain ⟨f, fd, ps, h1, h2, h3, h4, h5⟩ := g
  exact ⟨f, fd, ps, h1, h2, h3, h4.mono h, h5⟩
end

/-! ### the arguments of a call: data, or one's own objects by their names -/
inductive Ag where
  | v (d : D) | o (i : Nat)
def AgR (K : PySem.W.Frag) (B : Hp) (σ : L2.St) : List Ag → List V → Prop
  | [], vs => vs = []
  | .v d :: as, vs => ∃ y ys, vs = y :: ys ∧ Rep K B d y ∧ AgR K B σ as ys
  | .o i :: as, vs => ∃ y ys, vs = y :: ys ∧ σ[i]? = some (some y) ∧ AgR K B σ as ys
theorem AgR.mono {K : PySem.W.Frag} {B B' : Hp} {σ : L2.St} (e : Ex B B') : ∀ {as : List Ag} {vs : List V}, AgR K B σ as vs → AgR K B' σ as vs
  | [], _, h => h
  | .v d :: as, _, h => let ⟨y, ys, h1, h2, h3⟩ := h; ⟨y, ys, h1, h2.mono e, AgR.mono e h3⟩
  | .o i :: as, _, h => let ⟨y, ys, h1, h2, h3⟩ := h; ⟨y, ys, h1, h2, AgR.mono e h3⟩
theorem AgR.len {K : PySem.W.Frag} {B : Hp} {σ : L2.St} : ∀ {as : List Ag} {vs : List V}, AgR K B σ as vs → vs.length = as.length
  | [], _, h => by rw [show _ = [] from h]; rfl
  | .v d :: as, _, h => by obtain ⟨y, ys, rfl, h2, h3⟩ := h; rw [List.length_cons, List.length_cons, AgR.len h3]
  | .o i :: as, _, h => by obtain ⟨y, ys, rfl, h2, h3⟩ := h; rw [List.length_cons, List.length_cons, AgR.len h3]
theorem AgR.get {K : PySem.W.Frag} {B : Hp} {σ : L2.St} : ∀ {as : List Ag} {vs : List V} {k : Nat} {a : Ag}, AgR K B σ as vs → as[k]? = some a → ∃ v, vs[k]? = some v ∧ match a with
    | .v d => Rep K B d v
    | .o i => σ[i]? = some (some v)
  | .v d :: as, _, 0, a, h, e => by obtain ⟨y, ys, rfl, h2, h3⟩ := h; simp at e; subst e; exact ⟨y, rfl, h2⟩
  | .o i :: as, _, 0, a, h, e => by obtain ⟨y, ys, rfl, h2, h3⟩ := h; simp at e; subst e; exact ⟨y, rfl, h2⟩
  | .v d :: as, _, k + 1, a, h, e => by obtain ⟨y, ys, rfl, h2, h3⟩ := h; exact AgR.get (k := k) h3 (by simpa using e)
  | .o i :: as, _, k + 1, a, h, e => by obtain ⟨y, ys, rfl, h2, h3⟩ := h; exact AgR.get (k := k) h3 (by simpa using e)
def srcA (as : List Ag) (k : Nat) : Option Nat := match as[k]? with
  | some (.o i) => some i
  | _ => none
def slotA (ρ : List Slot) : Ag → Slot
  | .v d => .imm d
  | .o i => (ρ[i]?).getD .non
/-- own objects, each once -/
def okA (ρ : List Slot) (as : List Ag) : Bool := (as.all fun a => match a with
  | .v _ => true
  | .o i => match ρ[i]? with
    | some s => !plainS s
    | none => false) && (List.range as.length).all fun a => (List.range as.length).all fun b => decide (a = b) || decide (srcA as a ≠ srcA as b) || (srcA as a).isNone
def putB (ρ : List Slot) (as : List Ag) (as' : List Slot) : List Slot := (List.range ρ.length).map fun i => match (List.range as.length).find? fun k => decide (srcA as k = some i) with
  | some k => (as'[k]?).getD .non
  | none => (ρ[i]?).getD .non
def mCall (n : Nat) (F : Fn) (ms : M (List Ag)) : M Slot := ms.bind fun as ρ => if okA ρ as = true ∧ as.length = n then match F (as.map (slotA ρ)) with
    | .ok r as' => .ok r (putB ρ as as')
    | .exc c as' => .exc c (putB ρ as as')
    | .bad => .bad
  else .bad
end EE
end

section
set_option Elab.async false
set_option linter.all false
set_option maxRecDepth 100000
set_option maxHeartbeats 4000000
/-! E11: the call of a def of the module -/
namespace EE
open PySem PySem.Spec PyProof.Rows L2
variable [XAd]
section
variable {X : Cx} {W : Wn}
def DAg (X : Cx) (W : Wn) (es : List Expr) (m : M (List Ag)) : Prop :=
  ∃ t : TA, PA X es t ∧ ∀ fr B σ H ρ (Q : List V → Hp → Prop), St X.K fr B σ H ρ → Go X.K W fr σ B H (m ρ) (fun as ρ' => ∀ vs B' H', To fr B H B' H' → St X.K fr B' σ H' ρ' → AgR X.K B' σ as vs → Q vs H') → t σ H Q
def DAg1 (X : Cx) (W : Wn) (e : Expr) (m : M Ag) : Prop :=
  ∃ t : TE, PE X e t ∧ ∀ fr B σ H ρ (Q : VK), St X.K fr B σ H ρ → Go X.K W fr σ B H (m ρ) (fun a ρ' => ∀ v B' H', To fr B H B' H' → St X.K fr B' σ H' ρ' → AgR X.K B' σ [a] [v] → Q v H') → t σ H Q
theorem ag_de {e : Expr} {m : M D} (h : DE X W e m) : DAg1 X W e (m.bind fun d => M.pure (.v d)) := by
  obtain ⟨t, p, k⟩ := h
  refine ⟨t, p, fun fr B σ H ρ Q s h => k fr B σ H ρ _ s (h.step fun d ρ1 h v B1 H1 t1 s1 r => h v B1 H1 t1 s1 ⟨v, [], rfl, r, rfl⟩)⟩
def mAg (i : Nat) : M Ag := fun ρ => match ρ[i]? with
  | some (.imm d) => .ok (.v d) ρ
  | some .non => .bad
  | some (.exn _) => .bad
  | some _ => .ok (.o i) ρ
  | none => .bad
theorem ag_var (i : Nat) {x : Str} {pos : Pos} (hN : X.N[i]? = some x := by rfl) (hv : Vis X.env.scope x := by first | exact Or.inl rfl | exact Or.inr (Or.inl rfl) | exact Or.inr (Or.inr rfl)) (hd : (x == ("__debug__" : Str)) = false := by decide)
    (hcd : (x == ("__classdict__" : Str)) = false := by decide) : DAg1 X W (.Name x pos) (mAg i) := by
  refine ⟨_, pe_var hN hv hd hcd, fun fr B σ H ρ Q s h => ?_⟩
  unfold Go mAg at h
  cases e : ρ[i]? with
  | none => rw [e] at h; exact h.elim
  | some sl =>
    rw [e] at h
    have own : sl ≠ .non → ∃ v, σ[i]? = some (some v) := fun n => by
      obtain ⟨fp, s⟩ := s
      obtain ⟨w, h1, h2⟩ := s.slot i sl e
      obtain ⟨v, rfl⟩ := h2.val n
      exact ⟨v, h1⟩
    cases sl with
    | non => exact h.elim
    | imm d =>
      obtain ⟨fp, s⟩ := s
      obtain ⟨v, h1, h2⟩ := s.imm e
      exact ⟨v, h1, h v B H .refl ⟨fp, s⟩ ⟨v, [], rfl, h2, rfl⟩⟩
    | lst ds => obtain ⟨v, h1⟩ := own (fun z => by cases z); exact ⟨v, h1, h v B H .refl s ⟨v, [], rfl, h1, rfl⟩⟩
    | dct ds => obtain ⟨v, h1⟩ := own (fun z => by cases z); exact ⟨v, h1, h v B H .refl s ⟨v, [], rfl, h1, rfl⟩⟩
    | pot gs a b c => obtain ⟨v, h1⟩ := own (fun z => by cases z); exact ⟨v, h1, h v B H .refl s ⟨v, [], rfl, h1, rfl⟩⟩
    | obj c fs => obtain ⟨v, h1⟩ := own (fun z => by cases z); exact ⟨v, h1, h v B H .refl s ⟨v, [], rfl, h1, rfl⟩⟩
    | exn c => exact h.elim
theorem dag_nil : DAg X W [] (M.pure []) := ⟨_, pa_nil, fun fr B σ H ρ Q s h => Go.pure h [] B H .refl s rfl⟩
theorem AgR.cons {K : PySem.W.Frag} {B : Hp} {σ : L2.St} {a : Ag} {as : List Ag} {v : V} {vs : List V} (h1 : AgR K B σ [a] [v]) (h2 : AgR K B σ as vs) : AgR K B σ (a :: as) (v :: vs) := by
  cases a with
  | v d => obtain ⟨y, ys, e, r, _⟩ := h1; cases e; exact ⟨v, vs, rfl, r, h2⟩
  | o i => obtain ⟨y, ys, e, r, _⟩ := h1; cases e; exact ⟨v, vs, rfl, r, h2⟩
theorem dag_cons {a : Expr} {es : List Expr} {ma : M Ag} {ms : M (List Ag)} (ha : DAg1 X W a ma) (hr : DAg X W es ms) (hs : starEach (a :: es) X.env = (false, eval a X.env) :: starEach es X.env := by rfl) :
    DAg X W (a :: es) (ma.bind fun d => ms.bind fun ds => M.pure (d :: ds)) := by
  obtain ⟨ta, pa, ka⟩ := ha
  obtain ⟨tr, pr, kr⟩ := hr
  refine ⟨_, pa_cons pa pr hs, fun fr B σ H ρ Q s h => ?_⟩
  refine ka fr B σ H ρ _ s (h.step fun d1 ρ1 h x B1 H1 t1 s1 r1 => ?_)
  refine kr fr B1 σ H1 ρ1 _ s1 (Go.step (h.later t1 fun _ _ q => q) fun ds ρ2 h xs B2 H2 t2 s2 r2 => ?_)
  exact h (x :: xs) B2 H2 (t1.trans t2) s2 ((AgR.mono t2.sub.ex r1).cons r2)

/-! ### the call -/
theorem srcA_some {as : List Ag} {k j : Nat} (h : srcA as k = some j) : as[k]? = some (.o j) := by
  unfold srcA at h
  split at h
  · rename_i i e; cases h; exact e
  · cases h
theorem srcA_lt {as : List Ag} {k j : Nat} (h : srcA as k = some j) : k < as.length := (List.getElem?_eq_some_iff.mp (srcA_some h)).1
theorem okA_inj {ρ : List Slot} {as : List Ag} (h : okA ρ as = true) {a b j : Nat} (h1 : srcA as a = some j) (h2 : srcA as b = some j) : a = b := by
  unfold okA at h
  have h := (Bool.and_eq_true_iff.mp h).2
  have q := List.all_eq_true.mp (List.all_eq_true.mp h a (List.mem_range.mpr (srcA_lt h1))) b (List.mem_range.mpr (srcA_lt h2))
  rw [h1, h2] at q
  simpa using q
theorem okA_own {ρ : List Slot} {as : List Ag} (h : okA ρ as = true) {k j : Nat} (h1 : as[k]? = some (.o j)) : ∃ s, ρ[j]? = some s ∧ plainS s = false := by
  unfold okA at h
  have h := (Bool.and_eq_true_iff.mp h).1
  have q := List.all_eq_true.mp h _ (List.mem_of_getElem? h1)
  simp only at q
  cases e : ρ[j]? with
  | none => rw [e] at q; cases q
  | some s => rw [e] at q; exact ⟨s, rfl, by simpa using q⟩
variable {P : Program} {w : World} {K : PySem.W.Frag} {mg : Str → Option Value} {base : Heap}
theorem run_call {vs : List V} {as : List Ag} {n : Nat} {F : Fn} (kp : Keeps n F) {fr : Ad} {B H : Hp} {σ : L2.St} {ρ : List Slot} {Q : VK} (s : St K fr B σ H ρ) (r : AgR K B σ as vs)
    (h : Go K W fr σ B H ((if okA ρ as = true ∧ as.length = n then match F (as.map (slotA ρ)) with
    | .ok r as' => .ok r (putB ρ as as')
    | .exc c as' => .exc c (putB ρ as as')
    | .bad => .bad
  else .bad : Res Slot)) (fun sl ρ' => ∀ v B' H', To fr B H B' H' → St K fr B' (some v :: σ) H' (sl :: ρ') → Q v H')) : spM K n F vs H Q (WE W.w σ) := by
  by_cases c : okA ρ as = true ∧ as.length = n
  · rw [if_pos c] at h
    obtain ⟨fp, sf⟩ := s
    have hlen : vs.length = (as.map (slotA ρ)).length := by rw [r.len, List.length_map]
    have inj : ∀ i i' j, srcA as i = some j → srcA as i' = some j → i = i' := fun i i' j => okA_inj c.1
    have g := sf.give (vs := vs) (as := as.map (slotA ρ)) (srcA as) hlen inj (fun i j e => by rw [List.length_map]; exact srcA_lt e) fun i sl hi => by
      rw [List.getElem?_map, Option.map_eq_some_iff] at hi
      obtain ⟨a, ha, e⟩ := hi
      obtain ⟨v, hv, q⟩ := r.get ha
      refine ⟨v, hv, ?_⟩
      cases a with
      | v d => exact .inl ⟨d, e.symm, by unfold srcA; rw [ha], q⟩
      | o j =>
        obtain ⟨s', e', _⟩ := okA_own c.1 ha
        refine .inr ⟨j, by unfold srcA; rw [ha], ?_, q⟩
        rw [← e]
        show ρ[j]? = some ((ρ[j]?).getD .non)
        rw [e']; rfl
    refine ⟨_, B, as.map (slotA ρ), by rw [r.len]; exact c.2, ⟨_, g⟩, ?_⟩
    have src_none : ∀ {k : Nat} {as' : List Slot} {s' : Slot}, KeepL (as.map (slotA ρ)) as' → as'[k]? = some s' → srcA as k = none → s' = .non := fun {k as' s'} kl h1 h2 => by
      have lt : k < as.length := by
        have := (List.getElem?_eq_some_iff.mp h1).1
        rw [kl.1, List.length_map] at this
        exact this
      have ea : as[k]? = some as[k] := List.getElem?_eq_getElem lt
      cases e : as[k] with
      | o j => unfold srcA at h2; rw [ea, e] at h2; cases h2
      | v d =>
        refine kl.2 k (.imm d) s' ?_ h1 rfl
        rw [List.getElem?_map, ea, e]; rfl
    have hback : ∀ {as' : List Slot}, KeepL (as.map (slotA ρ)) as' → ∀ i sl, (putB ρ as as')[i]? = some sl → (∃ k v, srcA as k = some i ∧ as'[k]? = some sl ∧ vs[k]? = some v ∧ σ[i]? = some (some v)) ∨ ((∀ k, srcA as k ≠ some i) ∧ ρ[i]? = some sl) := fun {as'} kl i sl hi => by
      have hi0 := hi
      unfold putB at hi
      rw [List.getElem?_map, Option.map_eq_some_iff] at hi
      obtain ⟨i', h1, h2⟩ := hi
      rw [List.getElem?_range (by
        have := (List.getElem?_eq_some_iff.mp h1).1
        simpa using this)] at h1
      cases h1
      have lt : i < ρ.length := by
        have q := (List.getElem?_eq_some_iff.mp hi0).1
        unfold putB at q
        simpa using q
      cases e : (List.range as.length).find? fun k => decide (srcA as k = some i) with
      | some k =>
        rw [e] at h2
        have hk : srcA as k = some i := by simpa using List.find?_some e
        have ltk := srcA_lt hk
        have lt2 : k < as'.length := by rw [kl.1, List.length_map]; exact ltk
        have h2 : (as'[k]?).getD .non = sl := h2
        rw [List.getElem?_eq_getElem lt2] at h2
        obtain ⟨v, hv, q⟩ := r.get (srcA_some hk)
        refine .inl ⟨k, v, hk, ?_, hv, ?_⟩
        · rw [List.getElem?_eq_getElem lt2]; exact congrArg some h2
        · exact q
      | none =>
        rw [e] at h2
        refine .inr ⟨fun k hk => ?_, ?_⟩
        · have := List.find?_eq_none.mp e k (List.mem_range.mpr (srcA_lt hk))
          simp [hk] at this
        · have h2 : (ρ[i]?).getD .non = sl := h2
          rw [List.getElem?_eq_getElem lt] at h2 ⊢
          exact congrArg some h2
    have hput : ∀ as' : List Slot, (putB ρ as as').length = ρ.length := fun as' => by unfold putB; simp
    have hsrc : ∀ k i, srcA as k = some i → i < ρ.length := fun k i e => by
      obtain ⟨s', e', _⟩ := okA_own c.1 (srcA_some e)
      exact (List.getElem?_eq_some_iff.mp e').1
    cases e : F (as.map (slotA ρ)) with
    | bad => rw [e] at h; exact h.elim
    | ok rs as' =>
      rw [e] at h
      intro v B' H' t' s'
      obtain ⟨fp', sf'⟩ := s'
      have kl := kp.ok _ _ _ e
      have b := sf.back (ρ' := putB ρ as as') inj sf' t'.sub.ex t'.keep (fun i j q => by rw [kl.1, List.length_map]; exact srcA_lt q) (hput as') (hback kl) hsrc fun k sl hk hn b z => by
        have := src_none kl hk hn
        subst this
        obtain ⟨w', _, q⟩ := sf'.slot (k + 1) .non (by simpa using hk)
        exact q b z
      exact h v B' H' ⟨t'.sub, fun b z => t'.keep b (.inl z)⟩ ⟨_, b⟩
    | exc c' as' =>
      rw [e] at h
      intro B' H' cls dx ee kf s' er
      have kl := kp.exc _ _ _ e
      obtain ⟨fp', sf'⟩ := s'.push (d := .non) .non
      have b := sf.back (ρ' := putB ρ as as') inj sf' ee.ex kf (fun i j q => by rw [kl.1, List.length_map]; exact srcA_lt q) (hput as') (hback kl) hsrc fun k sl hk hn b z => by
        have := src_none kl hk hn
        subst this
        obtain ⟨w', _, q⟩ := sf'.slot (k + 1) .non (by simpa using hk)
        exact q b z
      obtain ⟨B2, b2, s2⟩ := St.pop ⟨_, b⟩
      refine h σ H' B2 cls dx (ee.trans b2) (fun b z => kf b (.inl z)) .refl s2 ?_
      obtain ⟨e1, e2⟩ := er
      refine ⟨e1, ?_⟩
      rcases e2 with e2 | ⟨d, ws, q1, q2, q3⟩
      · exact .inl e2
      · exact .inr ⟨d, ws, q1, b2 _ _ q2, q3.mono b2.ex⟩
  · rw [if_neg c] at h; exact h.elim
theorem do_call {x : Str} {p pos : Pos} {e : Expr} {es : List Expr} {n j k : Nat} {F : Fn} {ms : M (List Ag)} (C : CxOk X W P w K mg base k) (g : GFn P w K mg base x n j F) (hjk : j ≤ k) (ha : DAg X W (e :: es) ms) (hg : Gl X x := by rfl)
    (hdb : (x == ("__debug__" : Str)) = false := by decide) (he : starEach (e :: es) X.env = (false, eval e X.env) :: starEach es X.env := by rfl) (hpl : (backTo pos (starEach es X.env)).any (·.1) = false := by rfl) :
    DO X W (.Call (.Name x p) (e :: es) [] pos) (mCall n F ms) := by
  obtain ⟨f, fd, ps, h1, h2, h3, h4, kp⟩ := g.mono hjk
  obtain ⟨c1, c2, c3, c4, c5, rm, cc, tk⟩ := C
  obtain ⟨t, pa, ka⟩ := ha
  subst c1 c2 c3 c4 c5
  refine ⟨_, pe_callSD h4 rm hg h1 h2 h3 .nil (passAt tk) pa hdb he hpl, fun fr B σ H ρ Q s h => ?_⟩
  refine ka fr B σ H ρ _ s (h.step fun as ρ1 h vs B1 H1 t1 s1 r1 => ?_)
  show spM X.K n F (vs ++ []) H1 Q _
  rw [List.append_nil]
  exact run_call kp s1 r1 (h.later t1 fun sl ρ' q v B' H' t' s' => q v B' H' (t1.trans t') s')
/-- the same in a comprehension: no exception -/
theorem takes_no {X : Cx} : Takes X fun _ _ _ _ => False := fun _ _ ⟨_, _, _, _, _, _, _, _, _, _, _, _, _, _, _, _, h⟩ => h.elim
theorem CxOk.blk {k : Nat} (C : CxOk X W P w K mg base k) {s : Shared} {H : Hp} {scope : Scope} {Cc : Addr} {cl : List (Str × Addr)} {fp : List Addr} {vs : List Nat} {n : Nat} : CxOk (X.blk s H scope (compEnvC scope cl Cc X.env) fp) (W0 n vs) P w K mg base k :=
  ⟨C.prog, C.w_, C.K_, C.mg_, C.base_, C.room, C.calm, takes_no⟩
end
end EE
end

section
set_option Elab.async false
set_option linter.all false
set_option maxRecDepth 100000
set_option maxHeartbeats 4000000
/-! E12: kinds, attributes, dicts stored into, displays with stars, while, op= -/
namespace EE
open PySem PySem.Spec PyProof.Rows L2
variable [XAd]
section
variable {X : Cx} {W : Wn} {K : PySem.W.Frag} {B H : Hp} {a b : Expr} {pos : Pos}
/-! ### isinstance of a built-in class -/
def kindD : D → Option String
  | .non => some "NoneType"
  | .bl _ => some "bool"
  | .int _ => some "int"
  | .str _ => some "str"
  | .tup _ => some "tuple"
  | .lst _ => some "list"
  | .dct _ => some "dict"
  | .ins _ _ => none
def isK (T t : String) : Bool := t == T || (T == "int" && t == "bool")
theorem kit_all : ∀ t ∈ ["NoneType", "bool", "int", "str", "tuple", "list", "dict"], ∀ T ∈ ["bool", "int", "str", "tuple", "list", "dict"], kitB t T = some (isK T t) := by decide +kernel
/-- what the written part says of a class whose objects are data -/
structure InsK (K : PySem.W.Frag) (c : Str) : Prop where
  cl : Cls K (He.ga K c)
  ha : PySem.W.findIn K (.ref (He.ga K c)) "__class__" = some (some (.builtin "object.__class__"))
  hn : PySem.W.specialIn K (.builtin "object.__class__") "__get__" = some (some (.builtin "getset_descriptor.__get__"))
  htk : PySem.W.takesIn K (.builtin "object.__class__") = some true
  hm : PySem.W.mroIn K (He.ga K c) (.type "object") = some true
  no : ∀ T ∈ ["bool", "int", "str", "tuple", "list", "dict"], PySem.W.kitOne K (.ref (He.ga K c)) (.type T) = some false
def fIsi (T : String) (cs : List Str) (d : D) : Option D := match d with
  | .ins c _ => if c ∈ cs then some (.bl false) else none
  | d => (kindD d).map fun t => .bl (isK T t)
theorem tyx_of {H : Hp} {d : D} {v : V} (r : Rep K H d v) {t : String} (h : kindD d = some t) : TyX K H v (.type t) := by
  cases d with
  | non => cases h; rw [r.non_inv]; exact .base .non
  | bl b => cases h; rw [r.bl_inv]; exact .base (.bl _)
  | int i => cases h; rw [r.int_inv]; exact .base (.int _)
  | str x => cases h; rw [r.str_inv]; exact .base (.str _)
  | tup ds =>
    cases h
    obtain ⟨a, xs, rfl, q, _⟩ := r.tup_inv
    rcases q with (q | ⟨o, q⟩) | ⟨o, its, n, q1, q2, _⟩
    · exact .base (.tup q)
    · exact .fTuple q
    · exact .kTuple q1 q2
  | lst ds =>
    cases h
    obtain ⟨a, xs, rfl, q, _⟩ := r.lst_inv
    rcases q with (q | ⟨o, q⟩) | ⟨o, its, n, q1, q2, _⟩
    · exact .base (.lst q)
    · exact .base (.frz q)
    · exact .kList q1 q2
  | dct ds =>
    cases h
    obtain ⟨a, ws, rfl, ⟨o, q, q2⟩, _⟩ := r.dct_inv
    rcases q2 with rfl | ⟨od, rfl⟩
    · exact .base (.dK q)
    · exact .fDict q
  | ins c fs => cases h
theorem isi_ok {T : String} {cs : List Str} (hT : T ∈ ["bool", "int", "str", "tuple", "list", "dict"]) (hcs : ∀ c ∈ cs, InsK K c) {H : Hp} {d d' : D} {v : V} {Q : VK} (r : Rep K H d v) (e : fIsi T cs d = some d') (q : ∀ v', Rep K B d' v' → Q v' H) :
    rIsi K [v, .ty T] H Q := by
  have main : ∀ t, kindD d = some t → d' = .bl (isK T t) → rIsi K [v, .ty T] H Q := fun t ht ed => by
    have mt : t ∈ ["NoneType", "bool", "int", "str", "tuple", "list", "dict"] := by
      cases d <;> cases ht <;> decide
    exact ⟨v, .ty T, .type t, .type T, isK T t, rfl, .ty T, tyx_of r ht, kit_ty (kit_all t mt T hT), q _ (by rw [ed]; exact .bl)⟩
  cases d with
  | ins c fs =>
    unfold fIsi at e
    by_cases m : c ∈ cs
    · have e : (if c ∈ cs then some (D.bl false) else none) = some d' := e
      rw [if_pos m] at e
      cases e
      obtain ⟨a, dx, ws, rfl, q1, _⟩ := r.ins_inv
      have I := hcs c m
      exact ⟨_, .ty T, .ref (He.ga K c), .type T, false, rfl, .ty T, .base (.ins q1 I.cl I.ha I.hn I.htk I.hm), I.no T hT, q _ .bl⟩
    · have e : (if c ∈ cs then some (D.bl false) else none) = some d' := e
      rw [if_neg m] at e; cases e
  | non => exact main _ rfl (Option.some.inj e).symm
  | bl _ => exact main _ rfl (Option.some.inj e).symm
  | int _ => exact main _ rfl (Option.some.inj e).symm
  | str _ => exact main _ rfl (Option.some.inj e).symm
  | tup _ => exact main _ rfl (Option.some.inj e).symm
  | lst _ => exact main _ rfl (Option.some.inj e).symm
  | dct _ => exact main _ rfl (Option.some.inj e).symm
theorem de_isi (T : String) (cs : List Str) {x : Str} {p p2 : Pos} {m : M D} (hcs : ∀ c ∈ cs, InsK X.K c) (hg : Gl X "isinstance") (hm : X.mg "isinstance" = none) (hg2 : Gl X x) (hm2 : X.mg x = none) (ha : DP X W a m) (hv2 : bootBuiltins x = some (.type T) := by first | boot_by_name | rfl | kernel_rfl) (hT : T ∈ ["bool", "int", "str", "tuple", "list", "dict"] := by decide)
    (hn : x ≠ "__name__" := by decide) (hdb : (x == ("__debug__" : Str)) = false := by decide)
    (he : starEach [a, .Name x p2] X.env = (false, eval a X.env) :: starEach [.Name x p2] X.env := by rfl) (he2 : starEach [.Name x p2] X.env = (false, eval (.Name x p2) X.env) :: starEach [] X.env := by rfl) (hpl : (backTo pos (starEach [.Name x p2] X.env)).any (·.1) = false := by rfl) :
    DE X W (.Call (.Name "isinstance" p) [a, .Name x p2] [] pos) (m1 (fIsi T cs) m) := by
  obtain ⟨t, pa, k⟩ := ha
  have pt : PE X (.Name x p2) (tC (.ty T)) := pe_bltn hg2 hm2 hv2 (show RelV (.ty T) (.type T) from rfl) hn hdb
  refine ⟨_, pe_callB call_isi hg hm (by first | boot_by_name | rfl | kernel_rfl) (pa_cons pa (pa_cons pt pa_nil he2) he) (by decide) (by decide) he hpl, fun fr B σ H ρ Q s h => ?_⟩
  refine k fr B σ H ρ _ s (h.step fun d ρ1 h v B1 H1 t1 s1 r1 => ?_)
  obtain ⟨d', e, q⟩ := h.of
  exact isi_ok hT hcs r1 e fun v' r' => q v' B1 H1 t1 s1 r'
/-! ### an attribute of an object that is data -/
structure AtK (K : PySem.W.Frag) (c : Str) (fs : List Str) : Prop where
  cl : Cls K (He.ga K c)
  no : ∀ f ∈ fs, NoAttr K (He.ga K c) f
def fFld (c : Str) (fs : List Str) (f : Str) (d : D) : Option D := match d with
  | .ins c' gs => if c' = c ∧ f ∈ fs then gs.lookup f else none
  | _ => none
theorem fFld_inv {c f : Str} {fs : List Str} {d d' : D} (h : fFld c fs f d = some d') : ∃ gs, d = .ins c gs ∧ f ∈ fs ∧ gs.lookup f = some d' := by
  cases d <;> simp [fFld] at h
  obtain ⟨⟨rfl, mf⟩, h⟩ := h
  exact ⟨_, rfl, mf, h⟩
theorem de_fld {c f : Str} {fs : List Str} {m : M D} (A : AtK X.K c fs) (he : DE X W a m) (hb : attributeBase a f X.env (eval a X.env) = eval a X.env := by rfl) : DE X W (.Attribute a f pos) (m1 (fFld c fs f) m) := by
  obtain ⟨t, p, k⟩ := he
  refine ⟨_, pe_fld p hb, fun fr B σ H ρ Q s h => ?_⟩
  refine k fr B σ H ρ _ s (h.step fun d ρ1 h v B1 H1 t1 s1 r1 => ?_)
  obtain ⟨d', e, q⟩ := h.of
  obtain ⟨gs, rfl, mf, e⟩ := fFld_inv e
  obtain ⟨x, dx, ws, rfl, q1, q2⟩ := r1.ins_inv
  obtain ⟨y, h1, h2⟩ := RepF.lookup q2 e
  exact ⟨x, _, dx, ws, y, rfl, s1.sub _ _ q1, A.cl, A.no f mf, h1, q y B1 H1 t1 s1 h2⟩
/-! ### d[k] = v, d one's own -/
def isDc (i : Nat) : M Unit := fun ρ => match ρ[i]? with
  | some (.dct _) => .ok () ρ
  | _ => .bad
def mStore (i : Nat) (k v : D) : M Unit := fun ρ => match ρ[i]?, keyD k with
  | some (.dct kvs), some kk => if kvs.length ≤ 1000000 then .ok () (ρ.set i (.dct (putD kvs kk v))) else .bad
  | _, _ => .bad
theorem RepK.any (k : Key) : ∀ {ds : List (Key × D)} {ws : List (Key × V)}, RepK K B ds ws → (ds.any fun kv => decide (kv.1 = k)) = (ws.any fun kv => decide (kv.1 = k))
  | [], _, h => by rw [h.nil_inv]; rfl
  | (j, d) :: ds, _, h => by
    obtain ⟨y, ys, rfl, _, r⟩ := h.cons_inv
    rw [List.any_cons, List.any_cons, RepK.any k r]
theorem RepK.append : ∀ {ds es : List (Key × D)} {ws us : List (Key × V)}, RepK K B ds ws → RepK K B es us → RepK K B (ds ++ es) (ws ++ us)
  | [], _, _, _, h, g => by rw [h.nil_inv]; exact g
  | (j, d) :: ds, _, _, _, h, g => by
    obtain ⟨y, ys, rfl, r1, r⟩ := h.cons_inv
    exact .cons r1 (RepK.append r g)
theorem RepK.repl (k : Key) {e : D} {v : V} (re : Rep K B e v) : ∀ {ds : List (Key × D)} {ws : List (Key × V)}, RepK K B ds ws → RepK K B (ds.map fun kv => if kv.1 = k then (kv.1, e) else kv) (ws.map fun kv => if kv.1 = k then (kv.1, v) else kv)
  | [], _, h => by rw [h.nil_inv]; exact .nil
  | (j, d) :: ds, _, h => by
    obtain ⟨y, ys, rfl, r1, r⟩ := h.cons_inv
    rw [List.map_cons, List.map_cons]
    by_cases q : j = k
    · rw [if_pos q, if_pos q]; exact .cons re (RepK.repl k re r)
    · rw [if_neg q, if_neg q]; exact .cons r1 (RepK.repl k re r)
theorem RepK.put {ds : List (Key × D)} {ws : List (Key × V)} {k : Key} {d : D} {v : V} (h : RepK K B ds ws) (r : Rep K B d v) : RepK K B (putD ds k d) (putK ws k v) := by
  unfold putD putK
  rw [h.any k]
  split
  · exact h.repl k r
  · exact h.append (.cons r .nil)
theorem Go.isDc {K : PySem.W.Frag} {W : Wn} {fr : Ad} {σ : L2.St} {B H : Hp} {β : Type} {f : Unit → M β} {ρ : List Slot} {i : Nat} {Q : β → List Slot → Prop} (h : Go K W fr σ B H (((isDc i).bind f) ρ) Q) : ∃ ds, ρ[i]? = some (.dct ds) ∧ Go K W fr σ B H (f () ρ) Q := by
  unfold M.bind EE.isDc at h
  split at h
  · rename_i ds e; exact ⟨ds, e, h⟩
  · exact h.elim
theorem Go.store {K : PySem.W.Frag} {W : Wn} {fr : Ad} {σ : L2.St} {B H : Hp} {i : Nat} {k v : D} {ρ : List Slot} {Q : Unit → List Slot → Prop} (h : Go K W fr σ B H (mStore i k v ρ) Q) :
    ∃ kvs kk, ρ[i]? = some (.dct kvs) ∧ keyD k = some kk ∧ kvs.length ≤ 1000000 ∧ Q () (ρ.set i (.dct (putD kvs kk v))) := by
  unfold mStore at h
  cases e1 : ρ[i]? with
  | none => rw [e1] at h; exact h.elim
  | some s =>
    rw [e1] at h
    cases s with
    | dct kvs =>
      cases e2 : keyD k with
      | none => rw [e2] at h; exact h.elim
      | some kk =>
        rw [e2] at h
        by_cases hz : kvs.length ≤ 1000000
        · have h : Go K W fr σ B H (if kvs.length ≤ 1000000 then .ok () (ρ.set i (.dct (putD kvs kk v))) else .bad) Q := h
          rw [if_pos hz] at h
          exact ⟨kvs, kk, rfl, rfl, hz, h⟩
        · have h : Go K W fr σ B H (if kvs.length ≤ 1000000 then .ok () (ρ.set i (.dct (putD kvs kk v))) else .bad) Q := h
          rw [if_neg hz] at h
          exact h.elim
    | _ => exact h.elim
def mPutK (i : Nat) (mv mk : M D) : M Fl := mv.bind fun v => (isDc i).bind fun _ => mk.bind fun k => (mStore i k v).bind fun _ => mNx
theorem ds_putK (i : Nat) {x : Str} {xp pos' : Pos} {ek ev : Expr} {mk mv : M D} (hu : X.A.units + 1 < cLine) (hv : DE X W ev mv) (hk : DE X W ek mk) (hN : X.N[i]? = some x := by rfl) (hvs : Vis X.env.scope x := by first | exact Or.inl rfl | exact Or.inr (Or.inl rfl) | exact Or.inr (Or.inr rfl))
    (hd : (x == ("__debug__" : Str)) = false := by decide) (hcd : (x == ("__classdict__" : Str)) = false := by decide) (hs : swapsWith ev (some (.Subscript (.Name x xp) ek pos')) pos.line X.env = pure false := by rfl) :
    DS X W (.Assign [.Subscript (.Name x xp) ek pos'] ev pos) (mPutK i mv mk) := by
  obtain ⟨tv, pv, kv⟩ := hv
  obtain ⟨tk, pk, kk⟩ := hk
  refine ⟨_, ps_dput hu (pe_var hN hvs hd hcd) pk pv hs, fun fr B σ H ρ D s h => ?_⟩
  refine kv fr B σ H ρ _ s (h.step fun d1 ρ1 h v B1 H1 t1 s1 r1 => ?_)
  obtain ⟨ds, e1, h⟩ := h.isDc
  obtain ⟨a, xs, q1, q2, q3, _⟩ := s1.updK (ds' := ds) e1
  refine ⟨_, q1, ?_⟩
  refine kk fr B1 σ H1 ρ1 _ s1 (Go.step (h.later t1 fun _ _ q => q) fun d2 ρ2 h y B2 H2 t2 s2 r2 => ?_)
  have h := h.step fun _ ρ' z => z
  obtain ⟨kvs, kk, e2, e3, hz, h⟩ := h.store
  obtain ⟨a', xs', p1, p2, p3, p4⟩ := s2.updK (ds' := putD kvs kk d1) e2
  rw [q1] at p1
  cases p1
  obtain ⟨s3, t3⟩ := p4 (putK xs' kk v) (p3.put (r1.mono t2.sub.ex))
  refine ⟨a, upd H2 a (.dK (putK xs' kk v)), rfl, ?_, ?_⟩
  · rw [keyD_v e3 r2]
    exact .inl ⟨xs', kk, p2, rfl, by rw [p3.length]; exact Nat.lt_of_le_of_lt hz (by decide), rfl⟩
  · exact (Go.pure h) σ B2 _ ((t1.trans t2).trans t3) .refl s3
/-! ### d.get(k) -/
def fGet (a b : D) : Option D := match a with
  | .dct kvs => (keyD b).map fun k => (valD kvs k).getD .non
  | _ => none
def isDD (d : D) : Option D := match d with
  | .dct kvs => some d
  | _ => none
theorem de_get {o e : Expr} {apos cpos : Pos} {mo me : M D} (hu : X.A.units + 1 < cLine) (ho : DE X W o mo) (he : DE X W e me) (m : M1 X o "get" apos e cpos) : DE X W (.Call (.Attribute o "get" apos) [e] [] cpos) (m2 fGet (m1 isDD mo) me) := by
  obtain ⟨t1, p1, k1⟩ := ho
  obtain ⟨t2, p2, k2⟩ := he
  refine ⟨_, pe_dget1 hu p1 p2 m, fun fr B σ H ρ Q s h => ?_⟩
  have h := h.step fun d ρ1 h => h
  refine k1 fr B σ H ρ _ s (h.step fun d1 ρ1 h v B1 H1 t1 s1 r1 => ?_)
  obtain ⟨d1', e1, h⟩ := h.of
  cases d1 with
  | dct kvs =>
    cases e1
    obtain ⟨a, ws, rfl, ⟨o', q1, q1'⟩, q2⟩ := r1.dct_inv
    refine ⟨a, rfl, .inl ⟨ws, ?_⟩, ?_⟩
    · rcases q1' with rfl | ⟨od, rfl⟩
      · exact .inl (s1.sub _ _ q1)
      · exact .inr ⟨od, s1.sub _ _ q1⟩
    refine k2 fr B1 σ H1 ρ1 _ s1 (Go.step (h.later t1 fun _ _ q => q) fun d2 ρ2 h y B2 H2 t2 s2 r2 => ?_)
    obtain ⟨d, e, q⟩ := h.of
    obtain ⟨key, e3, rfl⟩ := Option.map_eq_some_iff.mp e
    have g := dget_of (K := X.K) (k := key) s2.sub (ex_d t2.sub.ex ⟨o', q1, q1'⟩)
    refine ⟨_, by rw [keyD_v e3 r2]; exact g, ?_⟩
    rcases (RepK.mono t2.sub.ex q2).val (k := key) with ⟨z1, z2⟩ | ⟨d', v, z1, z2, r⟩
    · rw [z2]
      rw [z1] at q
      exact q .non B2 H2 (t1.trans t2) s2 .non
    · rw [z2]
      rw [z1] at q
      exact q v B2 H2 (t1.trans t2) s2 r
  | _ => cases e1
/-! ### displays with stars -/
def starD (d : D) : Option (List D) := match d with
  | .lst ds => some ds
  | .tup ds => some ds
  | _ => none
theorem da_star {es : List Expr} {p : Pos} {ma : M D} {ms : M (List D)} (ha : DE X W a ma) (hr : DA X W es ms) (hs : starEach (.Starred a p :: es) X.env = (true, eval a X.env) :: starEach es X.env := by rfl) :
    DA X W (.Starred a p :: es) (ma.bind fun d => (M.of (starD d)).bind fun l => ms.bind fun ds => M.pure (l ++ ds)) := by
  obtain ⟨ta, pa, ka⟩ := ha
  obtain ⟨tr, pr, kr⟩ := hr
  refine ⟨_, StX.pa_star pa pr hs, fun fr B σ H ρ Q s h => ?_⟩
  refine ka fr B σ H ρ _ s (h.step fun d1 ρ1 h x B1 H1 t1 s1 r1 => ?_)
  have h := h.step (Q' := fun l ρ' => l = l ∧ _) fun l ρ' z => ⟨rfl, z⟩
  obtain ⟨l, e, _, h⟩ := Go.of h
  have go : ∀ xs, RepL X.K B1 l xs → tr σ H1 fun ys H2 => Q (xs ++ ys) H2 := fun xs rx => by
    refine kr fr B1 σ H1 ρ1 _ s1 (Go.step (h.later t1 fun _ _ q => q) fun ds ρ2 h ys B2 H2 t2 s2 r2 => ?_)
    exact h (xs ++ ys) B2 H2 (t1.trans t2) s2 ((RepL.mono t2.sub.ex rx).append r2)
  cases d1 with
  | lst ds =>
    cases e
    obtain ⟨p, xs, rfl, q1, q2⟩ := r1.lst_inv
    exact ⟨p, xs, rfl, .inr ((rd_sub s1.sub q1)), go xs q2⟩
  | tup ds =>
    cases e
    obtain ⟨p, xs, rfl, q1, q2⟩ := r1.tup_inv
    exact ⟨p, xs, rfl, .inl (ex_t s1.sub.ex q1), go xs q2⟩
  | _ => cases e
/-! ### op= on a number -/
def fAddN (a b : D) : Option D := match a, b with
  | .int i, .int j => some (.int (i + j))
  | _, _ => none
def mAug (i : Nat) (m : M D) : M Fl := fun ρ => match ρ[i]? with
  | some (.imm d) => (m.bind fun e => (M.of (fAddN d e)).bind fun r => (mPut i (.imm r)).bind fun _ => mNx) ρ
  | _ => .bad
theorem ds_aug (i : Nat) {x : Str} {e : Expr} {pos' : Pos} {m : M D} (hN : X.N.Nodup) (he : DE X W e m) (hi : X.N[i]? = some x := by rfl) (hx : Loc X.env.scope x := by first | exact Or.inl rfl | exact Or.inr rfl) (hf : X.fn x = true ∨ X.env.scope.names.lookup x = some .local := by first | exact .inl rfl | exact .inr rfl)
    (hp : i ∉ W.P := by decide) : DS X W (.AugAssign (.Name x pos') .Add e pos) (mAug i m) := by
  obtain ⟨t, p, k⟩ := he
  refine ⟨_, ps_aug hN hi hx p ip_add hf, fun fr B σ H ρ D s h => ?_⟩
  unfold mAug at h
  split at h
  · rename_i d e1
    obtain ⟨v, h1, r0⟩ := s.elim fun fp s => s.imm e1
    refine ⟨v, h1, ?_⟩
    refine k fr B σ H ρ _ s (Go.step h fun d1 ρ1 h y B1 H1 t1 s1 r1 => ?_)
    have h := h.step (Q' := fun l ρ' => l = l ∧ _) fun l ρ' z => ⟨rfl, z⟩
    obtain ⟨r, e2, _, h⟩ := Go.of h
    have h := h.step fun _ ρ' z => z
    obtain ⟨lt, h⟩ := h.put
    unfold fAddN at e2
    split at e2
    · cases e2
      refine ⟨_, _, r0.int_inv, r1.int_inv, ?_⟩
      obtain ⟨B', sb, s'⟩ := s1.set (d := .int _) .int lt
      exact (Go.pure h) _ B' H1 (t1.trans (.of sb)) (Pin.set hp) s'
    · cases e2
  · exact h.elim
end
end EE
end

section
set_option Elab.async false
set_option linter.all false
set_option maxRecDepth 100000
set_option maxHeartbeats 4000000
/-! E13: raise, try -/
namespace EE
open PySem PySem.Spec PyProof.Rows L2
variable [XAd]
section
variable {X : Cx} {W : Wn} {P : Program} {w : World} {K : PySem.W.Frag} {mg : Str → Option Value} {base : Heap}
/-! ### raise C(e), C's __init__ keeps e as its one field -/
def spExc (C : Addr) (f : Str) : Sp := fun vs H Q _ => ∃ a y, vs = [.ref a, y] ∧ H a = some (exo a C none) ∧ ∀ dx, H dx = none → dx ≠ a → Q .non (upd (upd H dx (exd dx [(f, y)])) a (exo a C (some dx)))
structure ExcF (P : Program) (w : World) (K : PySem.W.Frag) (mg : Str → Option Value) (base : Heap) (k : Nat) (c f : Str) : Prop where
  oex : OexC K (He.ga K c)
  gm : mg c = some (.ref (He.ga K c))
  ini : ∃ fI fd ps, PySem.W.findIn K (.ref (He.ga K c)) "__init__" = some (some (.ref fI)) ∧ PySem.W.typeIn K (.ref fI) = some (.type "function") ∧ Binds K fd ps [] ∧ FnOk P w K mg base (L2.CX P w) k fI fd ps (spExc (He.ga K c) f)
def mRaise1 (c f : Str) (m : M D) : M Fl := m.bind fun d ρ => .exc ⟨c, [(f, d)]⟩ ρ
theorem ds_raise1 {c f : Str} {e : Expr} {p pos pos' : Pos} {m : M D} {j k : Nat} (C : CxOk X W P w K mg base k) (F : ExcF P w K mg base j c f) (hjk : j + 1 ≤ k) (he : DE X W e m) (hg : Gl X c := by rfl)
    (hdb : (c == ("__debug__" : Str)) = false := by decide) (hs : starEach [e] X.env = (false, eval e X.env) :: starEach [] X.env := by rfl) (hpl : (backTo pos (starEach [] X.env)).any (·.1) = false := by rfl) :
    DS X W (.Raise (some (.Call (.Name c p) [e] [] pos)) none pos') (mRaise1 c f m) := by
  obtain ⟨t, pe, ke⟩ := he
  obtain ⟨oex, gm, fI, fd, ps, i1, i2, i3, i4⟩ := F
  obtain ⟨c1, c2, c3, c4, c5, rm, cc, tk⟩ := C
  subst c1 c2 c3 c4 c5
  refine ⟨_, ps_raise cc tk (pmk_oex oex i1 i2 i4 (rm.mono hjk) i3 .nil (fun pins σ H s e s' I q => passes_call tk (E := fun _ _ _ => False) (fun _ _ _ _ z => z.elim) pins σ H s e s' I q) hg gm (pa_cons pe pa_nil hs) hdb hs hpl), fun fr B σ H ρ D s h => ?_⟩
  refine ke fr B σ H ρ _ s (h.step fun d ρ1 h x B1 H1 t1 s1 r1 => ?_)
  refine ⟨by show 1 ≤ 1000; decide, fun a ha => ⟨a, x, rfl, upd_same, fun dx hn ne => ?_⟩⟩
  have hd : H1 dx = none := by rw [upd_ne ne] at hn; exact hn
  refine ⟨rfl, dx, [(f, x)], upd_same, by rw [upd_ne ne, upd_same], hd, ?_⟩
  have eH : upd (del (upd (upd (upd H1 a (exo a (He.ga X.K c) none)) dx (exd dx [(f, x)])) a (exo a (He.ga X.K c) (some dx))) a) dx (.xd [(f, x)]) = upd H1 dx (.xd [(f, x)]) := by
    funext b
    by_cases q : b = dx
    · subst q; rw [upd_same, upd_same]
    · rw [upd_ne q, upd_ne q]
      by_cases z : b = a
      · subst z; rw [del_same, ha]
      · rw [del_ne z, upd_ne z, upd_ne q, upd_ne z]
  rw [eH]
  obtain ⟨s2, t2⟩ := s1.new (o := .xd [(f, x)]) hd
  exact h σ _ _ _ _ (t1.trans t2).sub (t1.trans t2).keep .refl s2 ⟨rfl, .inr ⟨dx, _, rfl, upd_same, .cons (r1.mono t2.sub.ex) .nil⟩⟩

/-! ### except suites -/
def isExn : Slot → Bool
  | .exn _ => true
  | _ => false
def noExn (ρ : List Slot) : Bool := ρ.all fun s => !isExn s
end
omit [XAd] in
theorem SlotR.chg {K : PySem.W.Frag} {B H : Hp} (i1 i2 : XAd) {s : Slot} {w : Option V} {f : Ad} (n : isExn s = false) (h : @SlotR i1 K B H s w f) : @SlotR i2 K B H s w f := by
  cases s with
  | exn c => cases n
  | _ => exact h
omit [XAd] in
theorem St.chg {K : PySem.W.Frag} {fr : Ad} {B H : Hp} {σ : L2.St} {ρ : List Slot} (i1 i2 : XAd) (n : noExn ρ = true) (s : @St i1 K fr B σ H ρ) : @St i2 K fr B σ H ρ := by
  obtain ⟨fp, len, base, dis, there, frt, frd, out, slot⟩ := s
  refine ⟨fp, @StF.mk i2 _ _ _ _ _ _ _ len base dis there frt frd out fun i sl h => ?_⟩
  obtain ⟨w, h1, h2⟩ := slot i sl h
  have q := List.all_eq_true.mp n sl (List.mem_of_getElem? h)
  exact ⟨w, h1, SlotR.chg i1 i2 (by simpa using q) h2⟩
omit [XAd] in
theorem St.asExn {K : PySem.W.Frag} {fr : Ad} {B H : Hp} {σ : L2.St} {ρ : List Slot} [x : XAd] {i : Nat} {a : Addr} {cls : Value} {dx : Option Addr} {c : Exn} (s : St K fr B σ H ρ) (h : ρ[i]? = some .non) (hw : σ[i]? = some (some (.ref a))) (ha : XAd.at_ a cls dx) (he : ExnR K B c cls dx) :
    St K fr B σ H (ρ.set i (.exn c)) := by
  obtain ⟨fp, s⟩ := s
  refine ⟨fp, ⟨by rw [List.length_set]; exact s.len, s.base, s.dis, s.there, s.frt, s.frd, fun j hj => s.out j (by simpa using hj), fun j sl hj => ?_⟩⟩
  by_cases e : j = i
  · subst e
    have lt : j < ρ.length := (List.getElem?_eq_some_iff.mp h).1
    rw [List.getElem?_set_self lt] at hj
    cases hj
    obtain ⟨w, _, h2⟩ := s.slot j .non h
    exact ⟨_, hw, h2, a, cls, dx, rfl, ha, he⟩
  · rw [List.getElem?_set_ne (Ne.symm e)] at hj
    exact s.slot j sl hj
/-- the reading of a list of statements, by what it does -/
def tSs (K : PySem.W.Frag) (W : Wn) (m : M Fl) : TS := fun D σ H => ∃ fr B ρ, St K fr B σ H ρ ∧ Go K W fr σ B H (m ρ) (OkS K W fr σ B H D)
omit [XAd] in
theorem DSs.pss [XAd] {X : Cx} {W : Wn} {sts : List Stmt} {m : M Fl} (h : DSs X W sts m) : PSs X sts (tSs X.K W m) := by
  obtain ⟨t, p, k⟩ := h
  exact ⟨fun pins s σ H D I ⟨fr, B, ρ, q, g⟩ => p.run pins s σ H D I (k fr B σ H ρ D q g)⟩
section
variable {X : Cx} {W : Wn}
def subT (tab : List (Str × Bool)) (c : Str) : Option Bool := tab.lookup c
structure ExmK (K : PySem.W.Frag) (c : Str) (tab : List (Str × Bool)) : Prop where
  all : ∀ x b, tab.lookup x = some b → PySem.W.exmOne K (.ref (He.ga K x)) (.ref (He.ga K c)) = some b
def okFl : Fl → Bool
  | .rt r => !isExn r
  | _ => true
def mTryAs (i : Nat) (tab : List (Str × Bool)) (mb ms : M Fl) : M Fl := fun ρ => match mb ρ with
  | .ok fl ρ1 => .ok fl ρ1
  | .bad => .bad
  | .exc e ρ1 => match tab.lookup e.cls with
    | some false => .exc e ρ1
    | none => .bad
    | some true => if noExn (ρ1.set i .non) = true ∧ i < ρ1.length then match ms (ρ1.set i (.exn e)) with
        | .ok fl ρ2 => if okFl fl = true ∧ noExn (ρ2.set i .non) = true then .ok fl (ρ2.set i .non) else .bad
        | _ => .bad
      else .bad
theorem List_set_set {α : Type} (l : List α) (i : Nat) (a b : α) : (l.set i a).set i b = l.set i b := List.set_set ..
theorem ds_tryAs (i : Nat) {c n : Str} {tab : List (Str × Bool)} {body suite : List Stmt} {b₀ : Stmt} {np pos pos' : Pos} {mb ms : M Fl} (hs : X.stack = X.env :: X.outer) (hf : X.env.frame = some X.env.locals) (hN : X.N.Nodup) (tk : Takes X W.w) (T : ExmK X.K c tab)
    (gm : X.mg c = some (.ref (He.ga X.K c)))
    (hb : ∀ (Wx : WX) (pn : List (Addr × Obj)) (xe : Value → Shared → Prop), Takes (X.tr pn xe) Wx → PassesOwn (model X.prog X.w) X.A X.env xe → DSs (X.tr pn xe) ⟨Wx, W.P⟩ body mb)
    (hsu : ∀ (a : Addr) (oe : Obj) (cls : Value) (d : Option Addr) (pn : List (Addr × Obj)), Zc cls d oe → (∃ vs, oe.data = .fields vs) → @DSs ⟨fun a' cls' d' => a' = a ∧ cls' = cls ∧ d' = d⟩ (X.suite a ((a, oe) :: pn)) ⟨fun _ _ _ _ => False, W.P⟩ (b₀ :: suite) ms)
    (hi : X.N[i]? = some n := by rfl) (hln : X.env.kindOf n = some .local := by rfl) (hg : Gl X c := by rfl) (hdb : (c == ("__debug__" : Str)) = false := by decide) (hp : i ∉ W.P := by decide) :
    DS X W (.Try body [.ExceptHandler (some (.Name c np)) (some n) (b₀ :: suite) pos'] [] [] pos) (mTryAs i tab mb ms) := by
  refine ⟨_, ps_try_as (tb := fun Wx => tSs X.K ⟨Wx, W.P⟩ mb) (ts := fun a cls d => @tSs ⟨fun a' cls' d' => a' = a ∧ cls' = cls ∧ d' = d⟩ X.K ⟨fun _ _ _ _ => False, W.P⟩ ms) (Wout := W.w) (i := i) hs hf hN hi hln ⟨hg, hdb, .inl gm⟩ tk
    (fun Wx pn xe tk' po => (hb Wx pn xe tk' po).pss) (fun a oe cls d pn z v => @DSs.pss ⟨fun a' cls' d' => a' = a ∧ cls' = cls ∧ d' = d⟩ _ _ _ _ (hsu a oe cls d pn z v)), fun fr B σ H ρ D s h => ?_⟩
  refine ⟨fr, B, ρ, s, ?_⟩
  unfold Go mTryAs at h
  unfold Go
  cases e : mb ρ with
  | bad => rw [e] at h; exact h.elim
  | ok fl ρ1 => rw [e] at h; exact h
  | exc ex ρ1 =>
    rw [e] at h
    intro σ' H' B' cls dx sb kf pn st er
    cases e2 : tab.lookup ex.cls with
    | none => simp only [e2] at h; exact h.elim
    | some b =>
      have eb : PySem.W.exmOne X.K cls (.ref (He.ga X.K c)) = some b := by rw [er.1]; exact T.all _ _ e2
      refine ⟨b, eb, fun hb' => ?_, fun hb' => ?_⟩
      · subst hb'
        simp only [e2] at h
        intro a ha
        by_cases c1 : noExn (ρ1.set i .non) = true ∧ i < ρ1.length
        · rw [if_pos c1] at h
          obtain ⟨B2, b2, s2⟩ := st.dropW i (some (.ref a))
          have s3 := St.chg _ ⟨fun a' cls' d' => a' = a ∧ cls' = cls ∧ d' = dx⟩ c1.1 s2
          have lt : i < σ'.length := by rw [st.len]; exact c1.2
          have s4 := @St.asExn _ _ _ _ _ _ ⟨fun a' cls' d' => a' = a ∧ cls' = cls ∧ d' = dx⟩ i a cls dx ex s3 (List.getElem?_set_self c1.2) (List.getElem?_set_self lt) ⟨rfl, rfl, rfl⟩ (er.mono b2.ex)
          rw [List_set_set] at s4
          refine ⟨fr, B2, _, s4, ?_⟩
          unfold Go
          cases e3 : ms (ρ1.set i (.exn ex)) with
          | bad => rw [e3] at h; exact h.elim
          | exc _ _ => rw [e3] at h; exact h.elim
          | ok fl ρ2 =>
            rw [e3] at h
            by_cases c2 : okFl fl = true ∧ noExn (ρ2.set i .non) = true
            · have h : Res.post (if okFl fl = true ∧ noExn (ρ2.set i .non) = true then .ok fl (ρ2.set i .non) else .bad) _ _ := h
              rw [if_pos c2] at h
              intro σ3 B3 H3 t3 p3
              have tt : ∀ {B4 : Hp}, Sub B3 B4 → To fr B H B4 H3 := fun b4 => ⟨sb.trans (b2.trans (t3.sub.trans b4)), fun b z => (t3.keep b z).trans (kf b z)⟩
              have pp : Pin W.P σ (σ3.set i none) := (pn.trans ((Pin.set hp).trans p3)).trans (Pin.set hp)
              have back : ∀ {σ3 : L2.St} {B3 H3 : Hp} {ρ2 : List Slot}, @St ⟨fun a' cls' d' => a' = a ∧ cls' = cls ∧ d' = dx⟩ X.K fr B3 σ3 H3 ρ2 → noExn (ρ2.set i .non) = true → ∃ B4, Sub B3 B4 ∧ St X.K fr B4 (σ3.set i none) H3 (ρ2.set i .non) := fun {σ3 B3 H3 ρ2} s5 n5 => by
                obtain ⟨B4, b4, s6⟩ := @St.dropW ⟨fun a' cls' d' => a' = a ∧ cls' = cls ∧ d' = dx⟩ _ _ _ _ _ _ s5 i none
                exact ⟨B4, b4, St.chg _ _ n5 s6⟩
              cases fl with
              | nx => exact fun s5 => let ⟨B4, b4, s6⟩ := back s5 c2.2; h _ B4 H3 (tt b4) pp s6
              | bk => exact fun s5 => let ⟨B4, b4, s6⟩ := back s5 c2.2; h _ B4 H3 (tt b4) pp s6
              | ct => exact fun s5 => let ⟨B4, b4, s6⟩ := back s5 c2.2; h _ B4 H3 (tt b4) pp s6
              | rt r =>
                intro v s5
                obtain ⟨B4, b4, s6⟩ := @St.dropW ⟨fun a' cls' d' => a' = a ∧ cls' = cls ∧ d' = dx⟩ _ _ _ _ _ _ s5 (i + 1) none
                have n6 : noExn (r :: ρ2.set i .non) = true := by
                  unfold noExn
                  rw [List.all_cons, Bool.and_eq_true]
                  exact ⟨c2.1, c2.2⟩
                exact h _ B4 H3 (tt b4) pp v (St.chg _ _ n6 s6)
            · have h : Res.post (if okFl fl = true ∧ noExn (ρ2.set i .non) = true then .ok fl (ρ2.set i .non) else .bad) _ _ := h
              rw [if_neg c2] at h; exact h.elim
        · rw [if_neg c1] at h; exact h.elim
      · subst hb'
        simp only [e2] at h
        exact h σ' H' B' cls dx sb kf pn st er
end
/-! ### e.f of the caught one -/
def mXf (i : Nat) (f : Str) (tab : List Str) : M D := fun ρ => match ρ[i]? with
  | some (.exn e) => if e.cls ∈ tab then match e.fs.lookup f with
      | some d => .ok d ρ
      | none => .bad
    else .bad
  | _ => .bad
omit [XAd] in
theorem de_xf (i : Nat) {X : Cx} {W : Wn} {a : Addr} {oe : Obj} {cls : Value} {d : Option Addr} {pn : List (Addr × Obj)} {f x : Str} {tab : List Str} {p pos : Pos} (hz : Zc cls d oe) (hf : ∃ vs, oe.data = .fields vs)
    (T : ∀ c ∈ tab, XfC X.K (He.ga X.K c) ∧ PySem.W.findIn X.K (.ref (He.ga X.K c)) f = some none) (hN : X.N[i]? = some x := by rfl) (hv : Vis X.env.scope x := by first | exact Or.inl rfl | exact Or.inr (Or.inl rfl) | exact Or.inr (Or.inr rfl)) (hd : (x == ("__debug__" : Str)) = false := by decide)
    (hcd : (x == ("__classdict__" : Str)) = false := by decide) (hb : attributeBase (.Name x p) f X.env (eval (.Name x p) X.env) = eval (.Name x p) X.env := by rfl) :
    @DE ⟨fun a' cls' d' => a' = a ∧ cls' = cls ∧ d' = d⟩ (X.suite a ((a, oe) :: pn)) W (.Attribute (.Name x p) f pos) (mXf i f tab) := by
  letI ii : XAd := ⟨fun a' cls' d' => a' = a ∧ cls' = cls ∧ d' = d⟩
  have pv : PE (X.suite a ((a, oe) :: pn)) (.Name x p) (tVar i) := pe_var hN hv hd hcd
  refine ⟨fun σ H Q => ∃ c, c ∈ tab ∧ tXf a cls d (He.ga X.K c) f (tVar i) σ H Q, ⟨fun pins s σ H Q I ⟨c, hc, h⟩ => (pe_xf (T c hc).1 (T c hc).2 hz hf pv hb).run pins s σ H Q I h⟩, fun fr B σ H ρ Q s h => ?_⟩
  unfold Go mXf at h
  cases e : ρ[i]? with
  | none => rw [e] at h; exact h.elim
  | some sl =>
    rw [e] at h
    cases sl with
    | exn ex =>
      by_cases c1 : ex.cls ∈ tab
      · simp only [if_pos c1] at h
        cases e2 : ex.fs.lookup f with
        | none => simp only [e2] at h; exact h.elim
        | some dd =>
          simp only [e2] at h
          have sb := St.sub s
          obtain ⟨fp, _, _, _, _, _, _, _, slot⟩ := id s
          obtain ⟨w, h1, h2, a', cls', dx', rfl, ⟨rfl, rfl, rfl⟩, er⟩ := slot i _ e
          obtain ⟨q1, q2⟩ := er
          rcases q2 with ⟨q2, _⟩ | ⟨dd', ws, q3, q4, q5⟩
          · rw [q2] at e2; cases e2
          · obtain ⟨y, y1, y2⟩ := RepF.lookup q5 e2
            exact ⟨ex.cls, c1, .ref a', h1, rfl, q1, dd', ws, y, q3, sb _ _ q4, y1, h y B H .refl s y2⟩
      · simp only [if_neg c1] at h; exact h.elim
    | _ => exact h.elim
end EE
end

section
set_option Elab.async false
set_option linter.all false
set_option maxRecDepth 100000
set_option maxHeartbeats 4000000
/-! E14: __init__ of an exception that says super().__init__('..') and keeps its argument -/
namespace EE
open PySem PySem.Spec PyProof.Rows L2
/-- the wrapper of ValueError.__init__, called -/
theorem call_mw {prog : Program} {w : World} {A : Around} {E : Value → Shared → Prop} {h : Heap} {g : Array GenState} {d : Drawn} {t : Nat} {os : OsState}
    {nm q : Str} {C N : Addr} {bs bm : List Value} {hdct : Bool} {sn : List Str} {sub : List Value} {ab : Bool} {col : Option Bool} {dd : Option Addr} {k0 k1 k2 k3 k5 : Option Value} {u e t0 : Addr} {rest : List Value} {Q : Value → Shared → Prop}
    (hC : h.get? C = some (excClassObj nm q C N bs bm hdct sn sub ab col dd k0 k1 k2 k3 k5 "ValueError.__new__")) (he : h.get? e = some (HandSPX.excO C t0)) (hu : h.get? u = some (PySem.W.kxs_mw "ValueError.__init__" e)) (hz : rest.length ≤ sizeLine)
    (hq : ∀ h' t1, (∀ b o, b ≠ e → h.get? b = some o → h'.get? b = some o) → h'.get? e = some (HandSPX.excO C t1) → Q .none ⟨h', g, d, t, os⟩) :
    wpAny (model prog w) A (call (.ref u) rest) Q E ⟨h, g, d, t, os⟩ := by
  have FB := PySem.F.excBase_ValueError
  refine wpAny_call (codeAny_of_tree ?_)
  show wpAny _ A.in1 (callAny (.ref u) ⟨rest, []⟩) _ _ _
  unfold callAny
  refine wpAny_bind (wpAny_load hu ?_)
  have mw : (Value.type "method-wrapper" == Value.type "method" || Value.type "method-wrapper" == Value.type "builtin_function_or_method" || Value.type "method-wrapper" == Value.type "method-wrapper") = true := by decide
  simp only [PySem.W.kxs_mw, mw, if_true]
  refine PySem.W.KFB.if_so (by decide) ?_
  refine wpAny_bind (PySem.W.check_bound_init FB.toExcCallFacts hC he rfl ?_)
  refine wpAny_bind (wpAny_pure (wpAny_pure ⟨plainId_quiet FB.init.plain _, codeAny_builtin FB.initEntry ?_⟩))
  exact PySem.W.exc_init_tree (cls := .ref C) (t0 := t0) (dv := none) (c2 := .none) (c3 := .none) (b4 := .bool false) he hz fun h' k e' _ => hq h' _ k e'
section
variable {P : Program} {w : World} {K : PySem.W.Frag} {mg : Str → Option Value} {base : Heap}
/-- the context of such a body -/
def cxS (P : Program) (w : World) (K : PySem.W.Frag) (mg : Str → Option Value) (base : Heap) (N : List Str) (env : Env) (A : Around) (outer : List Env) (s : Shared) (H : Hp) (xe : Value → Shared → Prop) : Cx where
  prog := P
  w := w
  K := K
  mg := mg
  base := base
  A := A.deeper env
  N := N
  s_0 := s
  H_0 := H
  env := env
  outer := outer
  stack := env :: outer
  ex := []
  calm := true
  fn := fun _ => false
  pn := []
  xe := xe
/-- what the text and the written part say of it -/
structure SupOk (P : Program) (K : PySem.W.Frag) (mg : Str → Option Value) (C fI cc cda : Addr) (fd : FuncData) (f qual : Str) (scope : Scope) : Prop where
  sc : scope.kind = .function ∧ scope.isCoroutine = false ∧ scope.isGenerator = false
  nm : scope.names.lookup ("self" : Str) = some .local ∧ scope.names.lookup f = some .local ∧ scope.names.lookup ("super" : Str) = some .globalImplicit ∧ scope.names.lookup ("__class__" : Str) = some .free
  fr : ∀ y ∈ scope.names, y.2 ≠ .cell ∧ (y.2 = .free → y.1 = "__class__")
  code : ∃ ccl cdd vs ccs file tf, K.lookup cda = some ⟨ccl, cdd, .fields vs, ccs⟩ ∧ vs[2]? = some (.str file tf) ∧ ((P.main.file : Str) == file) = true
  cell : ∃ cl cld csl, K.lookup cc = some ⟨cl, cld, .cell (some (.ref C)), csl⟩
  top : (P.main.scope.names.lookup ("super" : Str)).isSome = false
  mgs : mg "super" = none
  fno : PySem.W.findIn K (.ref C) f = some none
  ho : PySem.W.nsIn K cStatics "thirdparty.any" = some none
  hm : PySem.W.ks_superIn K C C "__init__" = some (some (.builtin "ValueError.__init__"))
  hB : PySem.W.subIn K (.ref C) (.type "ValueError") = some true
  hs : PySem.W.mroIn K C (.ref C) = some true
  oex : OexC K C
  ne : f ≠ "self" ∧ f ≠ "super" ∧ f ≠ "__class__" ∧ (f == ("__debug__" : Str)) = false ∧ (f == ("__classdict__" : Str)) = false
theorem inv_sup {qual f : Str} {scope : Scope} {fI cda cc : Addr} {A : Around} {outer : List Env} {s : Shared} {H : Hp} {xe : Value → Shared → Prop} {h₀ : Heap} {tk : Nat} {a : Addr} {y : V} {u2 : Value} {oc : Obj} {cv : Option Value}
    (hd : A.handled = none) (e0 : Env0 P w K mg base A outer s H) (sc1 : scope.kind = .function) (frs_ : ∀ z ∈ scope.names, z.2 ≠ .cell ∧ (z.2 = .free → z.1 = "__class__")) (n1 : scope.names.lookup ("self" : Str) = some .local) (n2 : scope.names.lookup f = some .local) (ne : f ≠ "self")
    (hns : h₀.Ns s.heap.objs.size (fun x => ((["self", f] : List Str).zip [Value.ref a, u2]).reverse.lookup x)) (hk : ∀ b o, s.heap.get? b = some o → h₀.get? b = some o) (r2 : RelV y u2) (hcell : K.lookup cc = some oc) (hcv : oc.data = .cell cv) :
    Inv (cxS P w K mg base ["self", f] (PySem.W.ksEnv qual scope s.heap.objs.size fI (.ref cda) cc) A outer s H xe) [] [some (.ref a), some y] H { s with heap := h₀, toks := tk } := by
  have noA : ∀ b : Addr, b ∉ (cxS P w K mg base ["self", f] (PySem.W.ksEnv qual scope s.heap.objs.size fI (.ref cda) cc) A outer s H xe).ex := fun b z => absurd (show b ∈ ([] : List Addr) from z) (by simp)
  have one : ∀ {x : Str} {c : Addr}, ([("__class__", cc)] : List (Str × Addr)).lookup x = some c → x = "__class__" ∧ c = cc := fun {x c} h => by
    have h2 : ((("__class__" : Str), cc) :: ([] : List (Str × Addr))).lookup x = some c := h
    rw [List.lookup_cons] at h2
    cases q : (x == ("__class__" : Str)) with
    | true => rw [q] at h2; cases h2; exact ⟨eq_of_beq q, rfl⟩
    | false => rw [q] at h2; cases h2
  have hbase : base.get? cc = some oc := e0.mod.kin _ _ hcell
  have hcc := e0.bs cc oc hbase
  refine ⟨⟨e0.mod, sc1, rfl, rfl, Nat.le_refl _, fun x z c h1 h2 => (one h1).1.trans (one h2).1.symm, fun z hz => ?_, fun z c h _ => absurd (show false = true from h) Bool.false_ne_true, fun _ => hd, Around.frames_deeper e0.frames, .inr ⟨rfl, rfl⟩, fun b z => absurd z (noA b), e0.bs, e0.bsz, fun b _ _ => noA b, fun b z => absurd z (noA b), e0.funs, e0.frf⟩,
    rfl, e0.bare, Un.kept hk, ⟨_, hns, fun i x v h1 h2 h3 => ?_⟩, fun x c h => ?_, e0.hok.fresh (Nat.le_refl _), fun x c h => ?_, fun p hp => absurd (show p ∈ ([] : List (Addr × Obj)) from hp) (by simp), e0.hok.kept hk, rfl⟩
  · have hz : scope.names.lookup z = some .cell ∨ scope.names.lookup z = some .free := hz
    rcases hz with hz | hz
    · exact absurd rfl (frs_ _ (PySem.mem_of_lookup hz)).1
    · have e := (frs_ _ (PySem.mem_of_lookup hz)).2 rfl
      exact ⟨cc, by show ((("__class__" : Str), cc) :: ([] : List (Str × Addr))).lookup z = some cc; rw [show z = "__class__" from e]; rfl⟩
  · have nb : (("self" : Str) == f) = false := by
      cases q : (("self" : Str) == f) with
      | true => exact absurd (eq_of_beq q).symm ne
      | false => rfl
    match i, h1, h2 with
    | 0, h1, h2 =>
      have e1 : "self" = x := Option.some.inj h1
      have e2 : V.ref a = v := Option.some.inj (Option.some.inj h2)
      subst e1 e2
      refine ⟨_, rfl, .inl ⟨n1, ?_⟩⟩
      show ([(f, u2), (("self" : Str), Value.ref a)] : List (Str × Value)).lookup ("self" : Str) = _
      rw [List.lookup_cons, nb]
      rfl
    | 1, h1, h2 =>
      have e1 : f = x := Option.some.inj h1
      have e2 : y = v := Option.some.inj (Option.some.inj h2)
      subst e1 e2
      refine ⟨u2, r2, .inl ⟨n2, ?_⟩⟩
      show ([(f, u2), (("self" : Str), Value.ref a)] : List (Str × Value)).lookup f = _
      rw [List.lookup_cons, beq_self_eq_true]
  · obtain ⟨rfl, rfl⟩ := one h
    exact ⟨cv, oc, hk _ _ hcc.1, hcv⟩
  · obtain ⟨rfl, rfl⟩ := one h
    exact hcc.2
theorem init_ok {C fI cc cda : Addr} {f x qual msg : Str} {params : Arguments} {scope : Scope} {dV kV doc pm ct oc : Value} {an od : Option Addr} {osl : Array (Option Value)} {j k : Nat} {p0 p1 p2 p3 p4 p5 q1 q2 q3 q4 : Pos} {ar : Arg}
    (lk : K.lookup fI = some ⟨oc, od, .func (PySem.W.ksFn x qual params [.Expr (.Call (.Attribute (.Call (.Name "super" p0) [] [] p1) "__init__" p2) [.Constant (.str msg) j p3] [] p4) p5, .Assign [.Attribute (.Name "self" q1) f q2] (.Name f q3) q4] scope dV kV doc pm an (.ref cda) ct cc), osl⟩)
    (hcd : PySem.W.codeIn K (.ref cda) qual = true) (hp : (params.posonlyargs ++ params.args).head? = some ar) (har : ar.arg = "self") {pl : Sem Bool}
    (hcall : ∀ L : Addr, eval (.Call (.Attribute (.Call (.Name "super" p0) [] [] p1) "__init__" p2) [.Constant (.str msg) j p3] [] p4) (PySem.W.ksEnv qual scope L fI (.ref cda) cc) = (do
      let ov ← attributeBase (.Call (.Name "super" p0) [] [] p1) "__init__" (PySem.W.ksEnv qual scope L fI (.ref cda) cc) (eval (.Call (.Name "super" p0) [] [] p1) (PySem.W.ksEnv qual scope L fI (.ref cda) cc))
      standAt p2.atName
      let (f, first) ← holding [ov] (getMethod ov "__init__" pl)
      callWith p4 f first (backTo p4 (starEach [.Constant (.str msg) j p3] (PySem.W.ksEnv qual scope L fI (.ref cda) cc))) []))
    (hsw : ∀ L : Addr, swapsWith (.Call (.Attribute (.Call (.Name "super" p0) [] [] p1) "__init__" p2) [.Constant (.str msg) j p3] [] p4) none p5.line (PySem.W.ksEnv qual scope L fI (.ref cda) cc) = pure false)
    (hsw2 : ∀ L : Addr, swapsWith (.Name f q3) (some (.Attribute (.Name "self" q1) f q2)) q4.line (PySem.W.ksEnv qual scope L fI (.ref cda) cc) = pure false)
    (hbk : ∀ L : Addr, backTo p4 (starEach [.Constant (.str msg) j p3] (PySem.W.ksEnv qual scope L fI (.ref cda) cc)) = [(false, eval (.Constant (.str msg) j p3) (PySem.W.ksEnv qual scope L fI (.ref cda) cc))])
    (S : SupOk P K mg C fI cc cda (PySem.W.ksFn x qual params [.Expr (.Call (.Attribute (.Call (.Name "super" p0) [] [] p1) "__init__" p2) [.Constant (.str msg) j p3] [] p4) p5, .Assign [.Attribute (.Name "self" q1) f q2] (.Name f q3) q4] scope dV kV doc pm an (.ref cda) ct cc) f qual scope) :
    FnOk P w K mg base (L2.CX P w) (k + 1) fI (PySem.W.ksFn x qual params [.Expr (.Call (.Attribute (.Call (.Name "super" p0) [] [] p1) "__init__" p2) [.Constant (.str msg) j p3] [] p4) p5, .Assign [.Attribute (.Name "self" q1) f q2] (.Name f q3) q4] scope dV kV doc pm an (.ref cda) ct cc) ["self", f] (spExc C f) := by
  refine ⟨fun vs H Q E ⟨a, y, e, _⟩ => by rw [e]; rfl, fun A outer s H args us vs Q E hr e0 hb r hsp => ?_⟩
  obtain ⟨a, y, rfl, ha, hq⟩ := hsp
  obtain ⟨u1, u2, rfl, r1, r2⟩ := vals2 r
  obtain rfl : u1 = Value.ref a := r1
  obtain ⟨⟨sc1, sc2, sc3⟩, ⟨n1, n2, n3, n4⟩, frs_, ⟨ccl, cdd, vsc, ccs, file, tf, hcode, hvs, hfile⟩, ⟨cl, cld, csl, hcell⟩, htop, mgs, fno, ho, hm, hB, hsu, T, ne1, ne2, ne3, ne4, ne5⟩ := S
  have KX : K.In s.heap := e0.mod.kin.keeps fun b o e => (e0.bs b o e).1
  have lim : s.heap.NoLimit := e0.mod.nolimit.keeps fun b o e => (e0.bs b o e).1
  refine ks_codeAny_call_defAt hr.depth (KX _ _ lk) rfl lim (PySem.W.codeRec_of KX hcd) rfl hb (fun y hy => (frs_ y hy).1) (fun y hy => ?_) (fun h₀ hns hk => ?_) sc2 sc3 sc1
  · have hy : y ∈ (["self", f] : List Str).zip [Value.ref a, u2] := hy
    simp at hy
    rcases hy with rfl | rfl
    · exact n1
    · exact n2
  have I0 : Inv (cxS P w K mg base ["self", f] (PySem.W.ksEnv qual scope s.heap.objs.size fI (.ref cda) cc) A outer s H (fun e s' => wpAny (model P w) (A.deeper (PySem.W.ksEnv qual scope s.heap.objs.size fI (.ref cda) cc)) (leaving (PySem.W.ksEnv qual scope s.heap.objs.size fI (.ref cda) cc) e)
      (fun _ s'' => CR (L2.CX P w) outer P w H s Q E (.error e) s'') (fun e' s'' => CR (L2.CX P w) outer P w H s Q E (.error e') s'') s')) [] [some (.ref a), some y] H { s with heap := h₀, toks := s.toks + ((["self", f] : List Str).zip [Value.ref a, u2]).length } :=
    inv_sup (oc := ⟨cl, cld, .cell (some (.ref C)), csl⟩) hr.hd e0 sc1 frs_ n1 n2 ne1 hns hk r2 hcell rfl
  show _root_.PySem.wpAt (model P w) (A.deeper (PySem.W.ksEnv qual scope s.heap.objs.size fI (.ref cda) cc)) (.func _ (PySem.W.ksEnv qual scope s.heap.objs.size fI (.ref cda) cc)) (execs _ (PySem.W.ksEnv qual scope s.heap.objs.size fI (.ref cda) cc)) _ _ _
  have K0 : K.In h₀ := I0.kIn
  obtain ⟨t1, hx⟩ := exo_at I0.hok ha
  obtain ⟨nm, q, N, bs, bm, sn, sub, ab, col, dd, k0, k1, k2, k3, k5, hC, hbm⟩ := T.cls
  have hcl : PySem.W.clsIn K C = some { name := nm, bases := bs, mro := .ref C :: bm, ns := N, qualname := q, hasDict := true, slotNames := sn, subclasses := sub, abstract := ab, collection := col, hasDel := false } := by unfold PySem.W.clsIn; rw [hC] <;> rfl
  obtain ⟨mb, hb1, hb2⟩ := e0.mod.blt
  have nsup : mb "super" = some (.type "super") := (hb2 "super" (by decide)).trans (by first | boot_by_name | rfl | kernel_rfl)
  have hkb : ∀ b o, base.get? b = some o → h₀.get? b = some o := fun b o e => hk b o (e0.bs b o e).1
  have hint : interactive (PySem.W.ksEnv qual scope s.heap.objs.size fI (.ref cda) cc) = false := by
    show (scope.kind == .module && _) = false
    rw [sc1]
    rfl
  refine ks_wpAt_execs_cons (ks_wpAt_Expr_any (ks_wpAt_MethodCall (pl := pl) ?_ (hcall _)) hint (hsw _))
  refine ks_wpAt_super_base n3 n4 (by decide) rfl (K0 _ _ lk) rfl hp rfl (K0 _ _ hcode) rfl hvs hfile htop ?_
  refine PySem.W.ks_loadName_global sc1 n3 (Calls.loadGlobal_builtin (e0.mod.glob.keeps hkb) mgs (hb1.keeps hkb) nsup ⟨rfl, ?_⟩)
  refine wpAny_loadName_free sc1 n4 rfl ⟨_, K0 _ _ hcell, rfl⟩ ?_
  rw [har]
  refine wpAny_loadName_local sc1 n1 hns (v := .ref a) ?_ ?_
  · show ([(f, u2), (("self" : Str), Value.ref a)] : List (Str × Value)).lookup ("self" : Str) = _
    have nb : (("self" : Str) == f) = false := by
      cases q : (("self" : Str) == f) with
      | true => exact absurd (eq_of_beq q).symm ne1
      | false => rfl
    rw [List.lookup_cons, nb]
    rfl
  obtain ⟨oD, hD1, hD2⟩ : ∃ oD, h₀.get? C = some oD ∧ oD.data = .cls { name := nm, bases := bs, mro := .ref C :: bm, ns := N, qualname := q, hasDict := true, slotNames := sn, subclasses := sub, abstract := ab, collection := col, hasDel := false } := ⟨_, K0 _ _ hC, rfl⟩
  refine ks_wpAny_isType_cls hD1 hD2 ⟨rfl, ?_⟩
  refine ks_wpAny_call_super hD1 hD2 hx rfl (fun c z => by cases z) (PySem.W.looks_mroIn K0 hsu) (fun h1 so1 kp1 => ?_)
  have I1 := I0.kept (t' := s.toks + ((["self", f] : List Str).zip [Value.ref a, u2]).length) kp1
  have hxC : a ≠ C := fun z => by
    rw [z, K0 _ _ hC] at hx
    cases hx
  have J1 : PySem.W.InstAt h1 a _ C none := ⟨kp1 _ _ hx, rfl, rfl, trivial⟩
  refine PySem.W.kxs_getMethod PySem.W.kxs_ValueError so1 (PySem.W.looks_opaque I1.kIn ho) (l₀ := .ref C :: bm) (fun A Q E s k q => wpAny_bind ((PySem.W.looks_clsIn I1.kIn hcl) A _ E s k (wpAny_pure q))) rfl I1.kIn ?_ (J1.type.andThen (PySem.W.looks_subIn I1.kIn hB)) hxC (by decide) ?_
  · unfold PySem.W.ks_superIn at hm
    rw [hcl] at hm
    exact hm
  have kp2 : ∀ b o, h1.get? b = some o → (h1.push (PySem.W.kxs_mw "ValueError.__init__" a)).get? b = some o := fun b o e => Heap.get?_push_of_some _ e
  have I2 := I1.kept (t' := s.toks + ((["self", f] : List Str).zip [Value.ref a, u2]).length + 1) kp2
  have hu : (h1.push (PySem.W.kxs_mw "ValueError.__init__" a)).get? h1.objs.size = some (PySem.W.kxs_mw "ValueError.__init__" a) := Heap.get?_push_at rfl rfl
  show wpAny _ _ (callWith p4 (.ref h1.objs.size) [] (backTo p4 (starEach [.Constant (.str msg) j p3] (PySem.W.ksEnv qual scope s.heap.objs.size fI (.ref cda) cc))) []) _ _ _
  rw [hbk]
  refine PySem.W.kxs_callWith (i := "ValueError.__init__") (x := a) rfl (Calls.evalArgs_plain (Calls.spliced_cons (wpAny_Constant_str (Calls.spliced_nil ⟨hu, ?_⟩))))
  refine call_mw (I2.kIn _ _ hC) (kp2 _ _ (kp1 _ _ hx)) hu (by show 1 ≤ sizeLine; decide) fun h2 t2 k2 hx2 => ?_
  have I3 := (I2.tok (s.toks + ((["self", f] : List Str).zip [Value.ref a, u2]).length + 1 + 1)).write (t' := s.toks + ((["self", f] : List Str).zip [Value.ref a, u2]).length + 1 + 1) (x := a) (e := a) (o := exo a C none) (by rw [ha]; exact True.intro) (.inl rfl) k2 ⟨_, hx2⟩ (exo_ok hx2)
  have eu : upd H a (exo a C none) = H := by
    funext b
    by_cases hb : b = a
    · rw [hb, upd_same, ha]
    · rw [upd_ne hb]
  rw [eu] at I3
  have pse := pe_var (X := cxS P w K mg base ["self", f] (PySem.W.ksEnv qual scope s.heap.objs.size fI (.ref cda) cc) A outer s H (fun e s' => wpAny (model P w) (A.deeper (PySem.W.ksEnv qual scope s.heap.objs.size fI (.ref cda) cc)) (leaving (PySem.W.ksEnv qual scope s.heap.objs.size fI (.ref cda) cc) e)
      (fun _ s'' => CR (L2.CX P w) outer P w H s Q E (.error e) s'') (fun e' s'' => CR (L2.CX P w) outer P w H s Q E (.error e') s'') s')) (i := 0) (x := "self") (pos := q1) rfl (.inl n1)
  have pf := pe_var (X := cxS P w K mg base ["self", f] (PySem.W.ksEnv qual scope s.heap.objs.size fI (.ref cda) cc) A outer s H (fun e s' => wpAny (model P w) (A.deeper (PySem.W.ksEnv qual scope s.heap.objs.size fI (.ref cda) cc)) (leaving (PySem.W.ksEnv qual scope s.heap.objs.size fI (.ref cda) cc) e)
      (fun _ s'' => CR (L2.CX P w) outer P w H s Q E (.error e) s'') (fun e' s'' => CR (L2.CX P w) outer P w H s Q E (.error e') s'') s')) (i := 1) (x := f) (pos := q3) rfl (.inl n2) ne4 ne5
  refine wpAt_of_wpAny (wpAny_mono ((pss_one (ps_ost (f := f) (p' := q2) (pos := q4) pse pf (hsw2 _))).run [] _ _ H { nx := fun _ H' => Q .non H', rt := Q } I3 ?_) (fun fl s' hs => ?_) fun e s' z => z)
  · exact ⟨y, rfl, .ref a, rfl, a, C, rfl, T, fno, .inl ⟨ha, hq⟩⟩
  · have fin : ∀ {xe : Value → Shared → Prop} {σ' : L2.St} {H' : Hp} {v : V} {u : Value}, Inv (cxS P w K mg base ["self", f] (PySem.W.ksEnv qual scope s.heap.objs.size fI (.ref cda) cc) A outer s H xe) [] σ' H' s' → RelV v u → Q v H' → CE outer P w H s Q u s' :=
      fun {xe σ' H' v u} J rv q => ⟨v, H', J.os, J.bare, J.base, J.hok, rv, q⟩
    cases fl with
    | ret u =>
      obtain ⟨v, σ', H', J, rv, q⟩ := hs
      exact fin J rv q
    | next =>
      obtain ⟨σ', H', J, q⟩ := hs
      exact fin (v := V.non) (u := Value.none) J rfl q
    | brk =>
      obtain ⟨_, _, _, q⟩ := hs
      exact False.elim q
    | cont =>
      obtain ⟨_, _, _, q⟩ := hs
      exact False.elim q
end
end EE
end

section
set_option Elab.async false
set_option linter.all false
set_option maxRecDepth 100000
set_option maxHeartbeats 4000000
/-! E15: enumerate over a tuple -/
namespace EE
open PySem PySem.Spec PyProof.Rows L2
set_option maxHeartbeats 8000000 in
theorem meets_enum1 {v : Value} {o : Obj} {G : Heap → Prop} (B : Begins v o G) :
    Meets (Builtin.«enumerate.__new__» ⟨[.type "enumerate", v], []⟩) (fun _ R s => G s.heap ∧
      R (.ok (.ret (.ref (s.heap.push o).objs.size))) { s with heap := (s.heap.push o).push { cls := .type "enumerate", data := .fields #[.none, .bool false, .ref s.heap.objs.size, rawInt 0, .none, .none] } }) :=
  .of_wp fun prog w A R s hh => by
    obtain ⟨hp, g, d, tk, os⟩ := s
    obtain ⟨g1, hh⟩ := hh
    have hsub := sub_enumerate
    have walkIt : ∀ {A' : Around} {E : Value → Shared → Prop} {Q : Value → Shared → Prop}, Q (.ref hp.objs.size) ⟨hp.push o, g, d, tk, os⟩ → wpAny (model prog w) A' (pyIter v) Q E ⟨hp, g, d, tk, os⟩ := fun q => B.iter prog w _ _ ⟨hp, g, d, tk, os⟩ _ g1 q
    wp_walk using walkIt
    refine wpAny_stack_any fun st => wpAny_pure ?_
    split
    · rename_i c _ _ _ _ _
      cases (c == Value.type "enumerate") <;> (wp_walk using walkIt; exact ⟨_, rfl, hh⟩)
    · wp_walk using walkIt
      exact ⟨_, rfl, hh⟩
theorem call_enum1 {prog : Program} {w : World} {A : Around} {E : Value → Shared → Prop} {s : Shared} {v : Value} {o : Obj} {G : Heap → Prop} {Q : Value → Shared → Prop} (B : Begins v o G) (g1 : G s.heap)
    (h : ∀ h', IsEnum h' (s.heap.objs.size + 1) s.heap.objs.size 0 .none → h'.get? s.heap.objs.size = some o → h'.objs.size = s.heap.objs.size + 2 → (∀ b u, s.heap.get? b = some u → h'.get? b = some u) → Q (.ref (s.heap.objs.size + 1)) { s with heap := h' }) :
    wpAny (model prog w) A (call (.type "enumerate") [v]) Q E s := by
  refine callType_new F.called_enumerate (by decide) (F.typeCall_enumerate_1 _) (F.newCall_enumerate_1 _) (fun obj => F.args_object_init_2 obj _) F.entry_enumerate_new (meets_enum1 B) ⟨g1, ?_⟩
  have hz : (s.heap.push o).objs.size = s.heap.objs.size + 1 := Heap.size_push ..
  show _ ∧ _
  rw [hz]
  have he := Heap.get?_push_size (s.heap.push o) (o := { cls := .type "enumerate", data := .fields #[.none, .bool false, .ref s.heap.objs.size, rawInt 0, .none, .none] }) rfl
  rw [hz] at he
  exact ⟨⟨_, he, rfl⟩, h _ he (Heap.get?_push_of_some _ (Heap.get?_push_size _ B.free)) (by rw [Heap.size_push, hz]) fun b u x => Heap.get?_push_of_some _ (Heap.get?_push_of_some _ x)⟩
/-- the tuple at a, its items in new pairs with their numbers -/
def Ien (K : PySem.W.Frag) (a : Addr) : It :=
  ⟨fun i H => ∃ (xs : List V) (x : V), SqT K H a xs ∧ xs[i]? = some x,
    fun i H v H' => ∃ T x, v = .ref T ∧ H T = none ∧ H' = upd H T (.tup [.int (i : Nat), x]) ∧ ∀ xs, SqT K H a xs → xs[i]? = some x,
    fun i H => ∃ xs : List V, SqT K H a xs ∧ xs.length = i⟩
theorem turn_ien {P : Program} {w : World} {K : PySem.W.Frag} {elts : List Expr} {kk : Nat} {tpos : Pos} (a e it : Addr) (ne : e ≠ it) (na : e ≠ a) (ni : a ≠ it) :
    Turn P w K (.Tuple elts kk tpos) (Ien K a) [e, it] e (fun i h => (∃ old, IsEnum h e it (i : Int) old) ∧ h.IsTupleIter it a i) where
  mem := by simp
  obj := fun i h st b hb => by
    obtain ⟨⟨old, he⟩, hi⟩ := st
    have hb : b = e ∨ b = it := by simpa using hb
    rcases hb with rfl | rfl
    · exact ⟨_, he, fun v z => nomatch z⟩
    · obtain ⟨o, ho, hcl, hdt⟩ := hi
      exact ⟨o, ho, fun v z => by rw [hdt] at z; cases z⟩
  keep := fun i h h' st k => by
    obtain ⟨⟨old, he⟩, hi⟩ := st
    exact ⟨⟨old, k e (by simp) _ he⟩, hi.at fun o q => k it (by simp) o q⟩
  item := by
    intro X hP hw hK hc i pins s σ H E I hf st hg
    subst hP hw hK
    obtain ⟨⟨old, he⟩, hit⟩ := st
    obtain ⟨xs, x, hq, hx⟩ := hg
    obtain ⟨its, rv, p, hz⟩ := I.tuple hq
    obtain ⟨u, hu, ru⟩ := rv.get hx
    have hel : e < s.heap.objs.size := Heap.lt_size he
    have hil : it < s.heap.objs.size := by obtain ⟨_, q, _⟩ := hit; exact Heap.lt_size q
    have lt : i < its.toArray.size := by
      have := (List.getElem?_eq_some_iff.mp hu).1
      simpa using this
    have D := Draws.tuple (prog := X.prog) (w := X.w) (A := X.A.in1) (I.ok.hd hc) it a ni its.toArray
    refine wpAny_pyNext_enum_itemD D he ⟨hit, p⟩ lt ne (by simp [ne, na]) fun x' h' tk hP ho hst' hT hsz hk => ?_
    have ex : x' = u := by
      have hP : its.toArray[i]? = some x' := hP
      rw [show its.toArray[i]? = some u by simpa using hu] at hP
      exact (Option.some.inj hP).symm
    subst ex
    refine ⟨_, rfl, wpAny_letOwnedTupleGo_enum (s := { s with heap := h', toks := tk + 1 }) ho fun h'' he' sb => ?_⟩
    have hT2 : h''.get? s.heap.objs.size = some { cls := .type "tuple", data := .seq #[.int i tk, x'] } := (sb.2 _ (Nat.ne_of_gt hel)).trans hT
    have new : ObjOk X.prog X.w (upd H s.heap.objs.size (.tup [.int (i : Nat), x])) h'' s.heap.objs.size (.tup [.int (i : Nat), x]) :=
      ⟨by show 2 ≤ sizeLine; decide, [.int i tk, x'], .cons ⟨_, rfl⟩ (.cons ru .nil), ⟨_, hT2, rfl, _, rfl⟩⟩
    have I1 : Inv X pins σ (upd H s.heap.objs.size (.tup [.int (i : Nat), x])) { s with heap := h'', toks := tk + 1 } :=
      I.turnedNew (ch := [e, it]) (fun b ob hb q => (sb.2 b (fun z => hb (by simp [z]))).trans (hk b ob (fun z => hb (by simp [z])) (fun z => hb (by simp [z])) q)) hf (Nat.le_refl _) new
    refine ⟨.ref s.heap.objs.size, _, I1, rfl, ⟨_, x, rfl, I.hok.fresh (Nat.le_refl _), rfl, fun ys hy => by rw [I.tuple_inj hy hq]; exact hx⟩, ⟨⟨x', ?_⟩, hst'.1.at fun o q => (sb.2 it (Ne.symm ne)).trans q⟩, fun b hb => ?_⟩
    · rw [show ((i + 1 : Nat) : Int) = (i : Int) + 1 by omega]; exact he'
    · have hb' : b < s.heap.objs.size := by
        have hb : b = e ∨ b = it := by simpa using hb
        rcases hb with rfl | rfl
        · exact hel
        · exact hil
      rw [upd_ne (Nat.ne_of_lt hb')]
      exact (hf b hb).1
  done := by
    intro X hP hw hK hc i pins s σ H E I hf st hg
    subst hP hw hK
    obtain ⟨⟨old, he⟩, hit⟩ := st
    obtain ⟨xs, hq, hx⟩ := hg
    obtain ⟨its, rv, p, hz⟩ := I.tuple hq
    obtain ⟨f0, f1, f2, f3, f4, f5⟩ := hf it (by simp)
    have hl := rv.length
    have D := Draws.tuple (prog := X.prog) (w := X.w) (A := X.A.in1) (I.ok.hd hc) it a ni its.toArray
    have ei : i = its.toArray.size := by simp; omega
    refine wpAny_pyNext_enum_endD D he ⟨ei ▸ hit, p⟩ fun h' eb => ⟨rfl, I.turned (t' := s.toks) (fun b o hb q => eb b o hb q) f0 f1 f3 f4 f5⟩
  self := fun A i s Q E st h => let ⟨⟨_, he⟩, _⟩ := st; wpAny_pyIter_enum he h
def iEnT (K : PySem.W.Frag) (ta : TA) : TI := fun σ H R => ta σ H fun vs H1 => ∃ a xs, vs = [.ref a] ∧ SqT K H1 a xs ∧ R (Ien K a) H1
theorem pi_enumT {X : Cx} {e : Expr} {ta : TA} {p pos tpos : Pos} {elts : List Expr} {kk : Nat} (hg : Gl X "enumerate") (hm : X.mg "enumerate" = none) (ha : PA X [e] ta) (hs : starEach [e] X.env = [(false, eval e X.env)] := by rfl) :
    PI X (.Tuple elts kk tpos) (.Call (.Name "enumerate" p) [e] [] pos) (iEnT X.K ta) := by
  refine ⟨fun pins s σ H R I h => ?_⟩
  refine Call_ (ld_blt I hg hm boot_enumerate (PyProof.Rows.callWith_type1 (thn (ha.run pos pins s σ H _ I h) fun us s1 ⟨vs, H1, I1, r1, a, xs, ex, hq, q⟩ => ?_) hs rfl))
  subst ex
  cases r1 with
  | cons r rr =>
    cases rr
    cases r
    obtain ⟨its, rv, pp, hz⟩ := I1.tuple hq
    have al : a < s1.heap.objs.size := by obtain ⟨o, ho, _⟩ := pp; exact Heap.lt_size ho
    refine call_enum1 (begins_tuple a its.toArray) pp fun h' he hit hsz hk => wpAny_pyIter_enum he ?_
    refine ⟨s1.heap.objs.size + 1, [s1.heap.objs.size + 1, s1.heap.objs.size], _, _, H1, rfl, I1.kept (t' := s1.toks) hk, turn_ien a _ _ (Nat.succ_ne_self _) (Ne.symm (Nat.ne_of_lt (Nat.lt_succ_of_lt al))) (Nat.ne_of_lt al), ⟨⟨.none, he⟩, ⟨_, hit, rfl, rfl⟩⟩, fun b hb => ?_, q⟩
    have hb : b = s1.heap.objs.size + 1 ∨ b = s1.heap.objs.size := by simpa using hb
    have hle : s1.heap.objs.size ≤ b := by
      rcases hb with rfl | rfl
      · exact Nat.le_succ _
      · exact Nat.le_refl _
    exact I1.fpOk hle (I1.hok.fresh hle)
variable [XAd]
def enL (ds : List D) : List D := (List.range ds.length).map fun (i : Nat) => .tup [.int i, (ds[i]?).getD .non]
def enD : D → Option (List D)
  | .lst ds => some (enL ds)
  | .tup ds => some (enL ds)
  | _ => none
theorem itr_en {K : PySem.W.Frag} {a : Addr} {xs : List V} {ds : List D} {B : Hp} (h : SqT K B a xs) (r : RepL K B ds xs) : ItR K (Ien K a) B (enL ds) := by
  intro B2 H2 s1 s2 i hi
  have h2 : SqT K H2 a xs := ex_t (s1.trans s2).ex h
  have hl := r.length
  have el : (enL ds).length = ds.length := by simp [enL]
  rw [el] at hi ⊢
  refine ⟨fun lt => ⟨⟨xs, xs[i], h2, by simp [hl, lt]⟩, fun x H3 y => ?_⟩, fun e => ⟨xs, h2, by omega⟩⟩
  obtain ⟨T, y1, rfl, hT, rfl, g⟩ := y
  obtain ⟨d, hd⟩ : ∃ d, ds[i]? = some d := ⟨ds[i], by simp [lt]⟩
  obtain ⟨x', h3, h4⟩ := r.get hd
  have h5 := g xs h2
  rw [h3] at h5
  cases h5
  have nb : B2 T = none := s2.none hT
  refine ⟨_, .new hT, .tup [.int i, d], ?_, .tup (.inl (.inl upd_same)) (.cons .int (.cons (h4.mono (s1.ex.trans (Ex.upd nb))) .nil))⟩
  unfold enL
  rw [List.getElem?_map, List.getElem?_range lt, Option.map_some, hd]
  rfl
theorem itr_enL {K : PySem.W.Frag} {a : Addr} {xs : List V} {ds : List D} {B : Hp} (h : SqL K B a xs) (r : RepL K B ds xs) : ItR K (Ite K a) B (enL ds) := by
  intro B2 H2 s1 s2 i hi
  have h2 : SqL K H2 a xs := rd_sub s2 (rd_sub s1 h)
  have hl := r.length
  have el : (enL ds).length = ds.length := by simp [enL]
  rw [el] at hi ⊢
  refine ⟨fun lt => ⟨⟨xs, xs[i], h2, by simp [hl, lt]⟩, fun x H3 y => ?_⟩, fun e => ⟨xs, h2, by omega⟩⟩
  obtain ⟨T, y1, rfl, hT, rfl, g⟩ := y
  obtain ⟨d, hd⟩ : ∃ d, ds[i]? = some d := ⟨ds[i], by simp [lt]⟩
  obtain ⟨x', h3, h4⟩ := r.get hd
  have h5 := g xs h2
  rw [h3] at h5
  cases h5
  have nb : B2 T = none := s2.none hT
  refine ⟨_, .new hT, .tup [.int i, d], ?_, .tup (.inl (.inl upd_same)) (.cons .int (.cons (h4.mono (s1.ex.trans (Ex.upd nb))) .nil))⟩
  unfold enL
  rw [List.getElem?_map, List.getElem?_range lt, Option.map_some, hd]
  rfl
section
variable {X : Cx} {W : Wn}
theorem di_enum {a : Expr} {p pos tpos : Pos} {elts : List Expr} {kk : Nat} {m : M D} (ha : DE X W a m) (hg : Gl X "enumerate") (hm : X.mg "enumerate" = none) (hs : starEach [a] X.env = [(false, eval a X.env)] := by rfl) :
    DI X W (.Tuple elts kk tpos) (.Call (.Name "enumerate" p) [a] [] pos) (m.bind fun d => M.of (enD d)) := by
  obtain ⟨t, pp, k⟩ := ha
  refine ⟨_, PI.or (pi_enum hg hm (pa_cons pp pa_nil hs) hs) (pi_enumT hg hm (pa_cons pp pa_nil hs) hs), fun fr B σ H ρ R s h => ?_⟩
  cases em : m ρ with
  | bad => exact (Go.dead h (by unfold M.bind; rw [em]; rfl)).elim
  | exc c ρ' =>
    refine .inl (k fr B σ H ρ _ s ?_)
    rw [em]
    have h : Go X.K W fr σ B H ((m.bind fun d => M.of (enD d)) ρ) _ := h
    unfold M.bind at h
    rw [em] at h
    exact h
  | ok d ρ' =>
    have h2 := h
    unfold M.bind at h2
    rw [em] at h2
    cases d with
    | lst ds =>
      refine .inl (k fr B σ H ρ _ s ?_)
      rw [em]
      intro v B1 H1 t1 s1 r1
      obtain ⟨a, xs, rfl, q1, q2⟩ := r1.lst_inv
      exact ⟨a, xs, rfl, (rd_sub s1.sub q1), h2 _ B1 H1 t1 s1 (itr_enL q1 q2)⟩
    | tup ds =>
      refine .inr (k fr B σ H ρ _ s ?_)
      rw [em]
      intro v B1 H1 t1 s1 r1
      obtain ⟨a, xs, rfl, q1, q2⟩ := r1.tup_inv
      exact ⟨a, xs, rfl, ex_t s1.sub.ex q1, h2 _ B1 H1 t1 s1 (itr_en q1 q2)⟩
    | _ => exact (Go.dead h2 rfl).elim
end
end EE
end

section
set_option Elab.async false
set_option linter.all false
set_option maxRecDepth 100000
set_option maxHeartbeats 4000000
/-! E16: comprehensions over a dict's walks; dict comprehensions -/
namespace EE
open PySem PySem.Spec PyProof.Rows L2
variable [XAd]
section
variable {X : Cx} {W : Wn}
def dcompM (bnd : D → M Unit) (tst : M Bool) (key elt : M D) (vs : List Nat) : List D → List (Key × D) → M (List (Key × D))
  | [], acc => M.pure acc
  | d :: ds, acc => (noX (bnd d)).bind fun _ => (noX tst).bind fun k => if k then (noX key).bind fun y => (noX elt).bind fun z => match keyD y with
      | some kk => if acc.length ≤ 1000000 then fun ρ => dcompM bnd tst key elt vs ds (putD acc kk z) (wipeR ρ vs) else M.bad
      | none => M.bad
    else fun ρ => dcompM bnd tst key elt vs ds acc (wipeR ρ vs)
theorem run_lc {bnd : D → M Unit} {tst : M Bool} {em : M D} {n : Nat} {vs : List Nat} {fr : Ad} {B1 H1 : Hp} {σ : L2.St} {ρ1 ρF : List Slot} {J : It} {ds accF : List D} {Q : VK} (s1 : St X.K fr B1 σ H1 ρ1) (hJ : ItR X.K J B1 ds) (c1 : plainAt ρ1 vs = true) (hn : ρ1.length = n)
    (e : compM bnd tst em vs ds [] (wipeR ρ1 vs) = .ok accF ρF) (q : ∀ v B' H', To fr B1 H1 B' H' → St X.K fr B' σ H' (backR ρ1 ρF vs) → Rep X.K B' (.lst accF) v → Q v H') {D : Addr} (hD : H1 D = none) :
    ∃ Wi : Nat → Nat → Hp → Prop, (∃ m, Wi 0 m (upd H1 D (.lst []))) ∧ ∀ i m H, Wi i m H → (J.stop i H ∧ Q (.ref D) H) ∨ (J.go i H ∧ ∃ Nx : Hp → Prop, (∀ H', Nx H' → ∃ m', m' < m ∧ Wi (i + 1) m' H') ∧ ∀ x H', J.yld i H x H' → tG_ X.K (W0 n vs) bnd x (L2.wipe σ vs) H' fun σ2 H2 => L2.wipe σ2 vs = L2.wipe σ vs ∧ tT_ X.K (W0 n vs) tst σ2 H2 fun b H3 =>
      if b = true then tE X.K (W0 n vs) em σ2 H3 fun y H4 => ∃ acc, H4 D = some (.lst acc) ∧ acc.length < sizeLine ∧ Nx (upd H4 D (.lst (acc ++ [y]))) else Nx H3) := by
  have nfD : ¬ fr D := fun z => by
    obtain ⟨fp, sf⟩ := s1
    exact sf.frt D z hD
  obtain ⟨s2, t2⟩ := s1.hide (o := .lst []) hD
  obtain ⟨B3, b3, s3⟩ := s2.wipe vs
  refine ⟨fun i k H' => i ≤ ds.length ∧ k = ds.length - i ∧ ∃ B' acc xs ρ', To fr B1 H1 B' H' ∧ St X.K (orF fr D) B' (L2.wipe σ vs) H' ρ' ∧ H' D = some (.lst xs) ∧ RepL X.K B' acc xs ∧ compM bnd tst em vs (ds.drop i) acc ρ' = .ok accF ρF,
    ⟨ds.length, Nat.zero_le _, rfl, B3, [], [], _, t2.trans (.of b3), s3, upd_same, .nil, e⟩, ?_⟩
  rintro i k H4 ⟨hi, rfl, B4, acc, xs, ρ4, t4, s4, hD4, r4, e4⟩
  obtain ⟨q1, q2⟩ := hJ B4 H4 t4.sub s4.sub i hi
  by_cases lt : i < ds.length
  · obtain ⟨go, yl⟩ := q1 lt
    refine .inr ⟨go, fun H' => ∃ B' acc xs ρ', To fr B1 H1 B' H' ∧ St X.K (orF fr D) B' (L2.wipe σ vs) H' ρ' ∧ H' D = some (.lst xs) ∧ RepL X.K B' acc xs ∧ compM bnd tst em vs (ds.drop (i + 1)) acc ρ' = .ok accF ρF, fun H' z => ⟨ds.length - (i + 1), by omega, lt, rfl, z⟩, fun x H5 y => ?_⟩
    obtain ⟨B5, al, d, hd, rd⟩ := yl x H5 y
    obtain ⟨s5, t5⟩ := al.st s4
    have ed : ds.drop i = d :: ds.drop (i + 1) := by
      rw [List.drop_eq_getElem_cons lt]
      congr 1
      rw [List.getElem?_eq_getElem lt] at hd
      exact Option.some.inj hd
    rw [ed] at e4
    have fr1 : ∀ {B H B' H' : Hp}, To (orF fr D) B H B' H' → To fr B H B' H' := fun t => ⟨t.sub, fun b z => t.keep b (.inl z)⟩
    obtain ⟨_, ρ6, g1, e6⟩ := noX_ok e4
    obtain ⟨kb, ρ7, g2, e7⟩ := noX_ok e6
    refine ⟨orF fr D, B5, ρ4, d, s5, rd, ?_⟩
    unfold Go
    rw [g1]
    intro σ6 B6 H6 t6 p6 s6
    have hσ : σ.length = n := by rw [s1.len, hn]
    have hl4 : (L2.wipe σ vs).length = n := by rw [wipe_length, hσ]
    have hl6 : σ6.length = (L2.wipe σ vs).length := p6.len
    have ew : L2.wipe σ6 vs = L2.wipe σ vs := by
      have w1 : L2.wipe σ6 vs = L2.wipe (L2.wipe σ vs) vs := wipe_eq hl6 fun i hi hv => pin_out p6 (by omega) hv
      have w2 : L2.wipe (L2.wipe σ vs) vs = L2.wipe σ vs := wipe_eq (by rw [wipe_length]) fun i hi hv => wipe_out σ hv
      rw [w1, w2]
    refine ⟨ew, orF fr D, B6, ρ6, s6, ?_⟩
    unfold Go
    rw [g2]
    intro B7 H7 t7 s7
    have hD5 : H5 D = some (.lst xs) := (t5.keep D (.inr rfl)).trans hD4
    have hD7 : H7 D = some (.lst xs) := (t7.keep D (.inr rfl)).trans ((t6.keep D (.inr rfl)).trans hD5)
    have t17 := ((t4.trans (fr1 t5)).trans (fr1 t6)).trans (fr1 t7)
    have r7 := r4.mono (t5.sub.ex.trans (t6.sub.ex.trans t7.sub.ex))
    cases kb with
    | false =>
      show ∃ B' acc xs ρ', _
      obtain ⟨B8, b8, s8⟩ := s7.wipe vs
      rw [ew] at s8
      exact ⟨B8, acc, xs, wipeR ρ7 vs, t17.trans (.of b8), s8, hD7, r7.mono b8.ex, e7⟩
    | true =>
      obtain ⟨yd, ρ8, g3, e8⟩ := noX_ok e7
      show tE X.K _ em σ6 H7 _
      refine ⟨orF fr D, B7, ρ7, s7, ?_⟩
      unfold Go
      rw [g3]
      intro yv B8 H8 t8 s8 ry
      have hD8 : H8 D = some (.lst xs) := (t8.keep D (.inr rfl)).trans hD7
      by_cases z : okSz acc
      · rw [if_pos z] at e8
        have r8 := r7.mono t8.sub.ex
        refine ⟨xs, hD8, by rw [r8.length]; exact Nat.lt_of_le_of_lt z (by decide), ?_⟩
        obtain ⟨s9, t9⟩ := s8.frUpd (o := .lst (xs ++ [yv])) nfD
        obtain ⟨B10, b10, s10⟩ := s9.wipe vs
        rw [ew] at s10
        exact ⟨B10, acc ++ [yd], xs ++ [yv], wipeR ρ8 vs, ((t17.trans (fr1 t8)).trans t9).trans (.of b10), s10, upd_same, (r8.append (.cons ry .nil)).mono b10.ex, e8⟩
      · rw [if_neg z] at e8
        cases e8
  · have ei : i = ds.length := by omega
    subst ei
    rw [List.drop_length] at e4
    cases e4
    obtain ⟨s5, t5⟩ := s4.show_ nfD hD4
    obtain ⟨B6, b6, s6⟩ := St.unwipe s1 c1 s5 (t4.trans t5)
    have t6 := (t4.trans t5).trans (.of b6)
    refine .inl ⟨q2 rfl, q _ B6 H4 t6 s6 (.lst (b6 _ _ upd_same) (r4.mono (t5.sub.trans b6).ex))⟩
theorem run_dc {bnd : D → M Unit} {tst : M Bool} {km em : M D} {n : Nat} {vs : List Nat} {fr : Ad} {B1 H1 : Hp} {σ : L2.St} {ρ1 ρF : List Slot} {J : It} {ds : List D} {accF : List (Key × D)} {Q : VK} (s1 : St X.K fr B1 σ H1 ρ1) (hJ : ItR X.K J B1 ds) (c1 : plainAt ρ1 vs = true) (hn : ρ1.length = n)
    (e : dcompM bnd tst km em vs ds [] (wipeR ρ1 vs) = .ok accF ρF) (q : ∀ v B' H', To fr B1 H1 B' H' → St X.K fr B' σ H' (backR ρ1 ρF vs) → Rep X.K B' (.dct accF) v → Q v H') {D : Addr} (hD : H1 D = none) :
    ∃ Wi : Nat → Nat → Hp → Prop, (∃ m, Wi 0 m (upd H1 D (.dK []))) ∧ ∀ i m H, Wi i m H → (J.stop i H ∧ Q (.ref D) H) ∨ (J.go i H ∧ ∃ Nx : Hp → Prop, (∀ H', Nx H' → ∃ m', m' < m ∧ Wi (i + 1) m' H') ∧ ∀ x H', J.yld i H x H' → tG_ X.K (W0 n vs) bnd x (L2.wipe σ vs) H' fun σ2 H2 => L2.wipe σ2 vs = L2.wipe σ vs ∧ tT_ X.K (W0 n vs) tst σ2 H2 fun b H3 =>
      if b = true then tE X.K (W0 n vs) km σ2 H3 fun y H4 => tE X.K (W0 n vs) em σ2 H4 fun z H5 => ∃ kvs k, y = kV k ∧ H5 D = some (.dK kvs) ∧ kvs.length < sizeLine ∧ Nx (upd H5 D (.dK (putK kvs k z))) else Nx H3) := by
  have nfD : ¬ fr D := fun z => by
    obtain ⟨fp, sf⟩ := s1
    exact sf.frt D z hD
  obtain ⟨s2, t2⟩ := s1.hide (o := .dK []) hD
  obtain ⟨B3, b3, s3⟩ := s2.wipe vs
  refine ⟨fun i k H' => i ≤ ds.length ∧ k = ds.length - i ∧ ∃ B' acc xs ρ', To fr B1 H1 B' H' ∧ St X.K (orF fr D) B' (L2.wipe σ vs) H' ρ' ∧ H' D = some (.dK xs) ∧ RepK X.K B' acc xs ∧ dcompM bnd tst km em vs (ds.drop i) acc ρ' = .ok accF ρF,
    ⟨ds.length, Nat.zero_le _, rfl, B3, [], [], _, t2.trans (.of b3), s3, upd_same, .nil, e⟩, ?_⟩
  rintro i k H4 ⟨hi, rfl, B4, acc, xs, ρ4, t4, s4, hD4, r4, e4⟩
  obtain ⟨q1, q2⟩ := hJ B4 H4 t4.sub s4.sub i hi
  by_cases lt : i < ds.length
  · obtain ⟨go, yl⟩ := q1 lt
    refine .inr ⟨go, fun H' => ∃ B' acc xs ρ', To fr B1 H1 B' H' ∧ St X.K (orF fr D) B' (L2.wipe σ vs) H' ρ' ∧ H' D = some (.dK xs) ∧ RepK X.K B' acc xs ∧ dcompM bnd tst km em vs (ds.drop (i + 1)) acc ρ' = .ok accF ρF, fun H' z => ⟨ds.length - (i + 1), by omega, lt, rfl, z⟩, fun x H5 y => ?_⟩
    obtain ⟨B5, al, d, hd, rd⟩ := yl x H5 y
    obtain ⟨s5, t5⟩ := al.st s4
    have ed : ds.drop i = d :: ds.drop (i + 1) := by
      rw [List.drop_eq_getElem_cons lt]
      congr 1
      rw [List.getElem?_eq_getElem lt] at hd
      exact Option.some.inj hd
    rw [ed] at e4
    have fr1 : ∀ {B H B' H' : Hp}, To (orF fr D) B H B' H' → To fr B H B' H' := fun t => ⟨t.sub, fun b z => t.keep b (.inl z)⟩
    obtain ⟨_, ρ6, g1, e6⟩ := noX_ok e4
    obtain ⟨kb, ρ7, g2, e7⟩ := noX_ok e6
    refine ⟨orF fr D, B5, ρ4, d, s5, rd, ?_⟩
    unfold Go
    rw [g1]
    intro σ6 B6 H6 t6 p6 s6
    have hσ : σ.length = n := by rw [s1.len, hn]
    have hl4 : (L2.wipe σ vs).length = n := by rw [wipe_length, hσ]
    have hl6 : σ6.length = (L2.wipe σ vs).length := p6.len
    have ew : L2.wipe σ6 vs = L2.wipe σ vs := by
      have w1 : L2.wipe σ6 vs = L2.wipe (L2.wipe σ vs) vs := wipe_eq hl6 fun i hi hv => pin_out p6 (by omega) hv
      have w2 : L2.wipe (L2.wipe σ vs) vs = L2.wipe σ vs := wipe_eq (by rw [wipe_length]) fun i hi hv => wipe_out σ hv
      rw [w1, w2]
    refine ⟨ew, orF fr D, B6, ρ6, s6, ?_⟩
    unfold Go
    rw [g2]
    intro B7 H7 t7 s7
    have hD5 : H5 D = some (.dK xs) := (t5.keep D (.inr rfl)).trans hD4
    have hD7 : H7 D = some (.dK xs) := (t7.keep D (.inr rfl)).trans ((t6.keep D (.inr rfl)).trans hD5)
    have t17 := ((t4.trans (fr1 t5)).trans (fr1 t6)).trans (fr1 t7)
    have r4m := RepK.mono (t5.sub.ex.trans (t6.sub.ex.trans t7.sub.ex)) r4
    cases kb with
    | false =>
      show ∃ B' acc xs ρ', _
      obtain ⟨B8, b8, s8⟩ := s7.wipe vs
      rw [ew] at s8
      exact ⟨B8, acc, xs, wipeR ρ7 vs, t17.trans (.of b8), s8, hD7, RepK.mono b8.ex r4m, e7⟩
    | true =>
      obtain ⟨kd, ρk, g0, e8⟩ := noX_ok e7
      obtain ⟨yd, ρ8, g3, e8⟩ := noX_ok e8
      show tE X.K _ km σ6 H7 _
      refine ⟨orF fr D, B7, ρ7, s7, ?_⟩
      unfold Go
      rw [g0]
      intro kv Bk Hk tk sk rk
      show tE X.K _ em σ6 Hk _
      refine ⟨orF fr D, Bk, ρk, sk, ?_⟩
      unfold Go
      rw [g3]
      intro yv B8 H8 t8' s8 ry
      have t8 := tk.trans t8'
      have hD8 : H8 D = some (.dK xs) := (t8.keep D (.inr rfl)).trans hD7
      cases ek : keyD kd with
      | none => rw [ek] at e8; cases e8
      | some kk =>
        rw [ek] at e8
        have e8 : (if acc.length ≤ 1000000 then fun ρ => dcompM bnd tst km em vs (ds.drop (i + 1)) (putD acc kk yd) (wipeR ρ vs) else M.bad) ρ8 = .ok accF ρF := e8
        by_cases z : acc.length ≤ 1000000
        · rw [if_pos z] at e8
          have r8 := RepK.mono t8.sub.ex r4m
          refine ⟨xs, kk, keyD_v ek rk, hD8, by rw [r8.length]; exact Nat.lt_of_le_of_lt z (by decide), ?_⟩
          obtain ⟨s9, t9⟩ := s8.frUpd (o := .dK (putK xs kk yv)) nfD
          obtain ⟨B10, b10, s10⟩ := s9.wipe vs
          rw [ew] at s10
          exact ⟨B10, putD acc kk yd, putK xs kk yv, wipeR ρ8 vs, ((t17.trans (fr1 t8)).trans t9).trans (.of b10), s10, upd_same, RepK.mono b10.ex (r8.put ry), e8⟩
        · rw [if_neg z] at e8
          cases e8
  · have ei : i = ds.length := by omega
    subst ei
    rw [List.drop_length] at e4
    cases e4
    obtain ⟨s5, t5⟩ := s4.show_ nfD hD4
    obtain ⟨B6, b6, s6⟩ := St.unwipe s1 c1 s5 (t4.trans t5)
    have t6 := (t4.trans t5).trans (.of b6)
    refine .inl ⟨q2 rfl, q _ B6 H4 t6 s6 (.dct ⟨_, b6 _ _ upd_same, .inl rfl⟩ (RepK.mono (t5.sub.trans b6).ex r4))⟩

def mCompD (n : Nat) (w : Wk) (f : List Slot → Option D) (bnd : D → M Unit) (tst : M Bool) (em : M D) (vs : List Nat) : M D := fun ρ => match (f ρ).bind (wkD w) with
  | some ds => if plainAt ρ vs = true ∧ ρ.length = n then match compM bnd tst em vs ds [] (wipeR ρ vs) with
      | .ok acc ρ' => .ok (.lst acc) (backR ρ ρ' vs)
      | _ => .bad
    else .bad
  | none => .bad
theorem de_compD {elt tg iter : Expr} {ifs : List Expr} {scope : Scope} {own : List (Str × Nat)} {pos : Pos} {w : Wk} {f : List Slot → Option D} {bnd : D → M Unit} {tst : M Bool} {em : M D} {n : Nat} (hc : X.calm = true) (hN : X.N.Nodup) (hi : DWk X tg iter w f) (ok : blkC X.N X.env.scope scope own = true)
    (hg : ∀ (s : Shared) (H : Hp) (C : Addr) (cl : List (Str × Addr)) (fp : List Addr), DG (X.blk s H scope (compEnvC scope cl C X.env) fp) (W0 n (own.map (·.2))) tg bnd) (ht : ∀ (s : Shared) (H : Hp) (C : Addr) (cl : List (Str × Addr)) (fp : List Addr), DTs (X.blk s H scope (compEnvC scope cl C X.env) fp) (W0 n (own.map (·.2))) ifs tst)
    (he : ∀ (s : Shared) (H : Hp) (C : Addr) (cl : List (Str × Addr)) (fp : List Addr), DE (X.blk s H scope (compEnvC scope cl C X.env) fp) (W0 n (own.map (·.2))) elt em) (hs : ∀ x, foldedSetIterable iter X.env x = pure x := by intro _; rfl) :
    DE X W (.ListComp elt [⟨tg, iter, ifs, 0⟩] scope pos) (mCompD n w f bnd tst em (own.map (·.2))) := by
  obtain ⟨wi, pi, ki⟩ := hi
  obtain ⟨vs, hvs⟩ : ∃ vs, vs = own.map (·.2) := ⟨_, rfl⟩
  have p0 := pe_lc (pos := pos) (te := tE X.K (W0 n (own.map fun p : Str × Nat => p.2)) em) (tt := tT_ X.K (W0 n (own.map fun p : Str × Nat => p.2)) tst) (g := tG_ X.K (W0 n (own.map fun p : Str × Nat => p.2)) bnd) hc hN pi (blkOk_by ok) (fun s H C cl fp => (hg s H C cl fp).pg) ht (fun s H C cl fp => (he s H C cl fp).pe) hs 
  refine ⟨_, PE.or (pe_lock p0) p0, fun fr B σ H ρ Q s h => ?_⟩
  rw [← hvs] at h ⊢
  unfold Go mCompD at h
  cases e : (f ρ).bind (wkD w) with
  | none => rw [e] at h; exact h.elim
  | some ds =>
    rw [e] at h
    by_cases c : plainAt ρ vs = true ∧ ρ.length = n
    · simp only [if_pos c] at h
      cases e0 : compM bnd tst em vs ds [] (wipeR ρ vs) with
      | bad => rw [e0] at h; exact h.elim
      | exc _ _ => rw [e0] at h; exact h.elim
      | ok accF ρF =>
        rw [e0] at h
        obtain ⟨d, e1, e2⟩ := Option.bind_eq_some_iff.mp e
        obtain ⟨kvs, rfl⟩ := wkD_inv e2
        obtain ⟨a, ws, ⟨o, ho, hd⟩, r, k⟩ := ki fr B σ H ρ _ s e1 kvs rfl
        rcases hd with rfl | ⟨od, rfl⟩
        · refine .inl ⟨a, _, s.sub _ _ ho, trivial, fun od => ?_⟩
          have sm : Sm (.dK ws) (.frz od (.dK ws)) := .inr ⟨ws, .inl rfl, .inr ⟨od, rfl⟩⟩
          have s1 := s.swap ho sm
          have e1 : Ex B (upd B a (.frz od (.dK ws))) := fun b u hb => by
            by_cases q : b = a
            · subst q; rw [ho] at hb; cases hb; exact ⟨_, upd_same, sm⟩
            · exact ⟨u, by rw [upd_ne q]; exact hb, .refl u⟩
          have nf : ∀ b, fr b → b ≠ a := fun b z q => by
            obtain ⟨fp, sf⟩ := s
            rw [sf.base, hid_no (.inl (q ▸ z))] at ho
            cases ho
          refine k _ _ _ od e1 s1.sub upd_same fun Dd hDd => ?_
          refine run_lc (Q := fun v H' => H' a = some (.frz od (.dK ws)) ∧ Q v (upd H' a (.dK ws))) s1 (itr_d upd_same (r.mono e1) e2) c.1 c.2 e0 (fun v B2 H2 t s2 rv => ?_) hDd
          have b2 : B2 a = some (.frz od (.dK ws)) := t.sub _ _ upd_same
          refine ⟨s2.sub _ _ b2, h v (upd B2 a (.dK ws)) _ ⟨fun b u hb => ?_, fun b z => ?_⟩ (s2.swap b2 (.inr ⟨ws, .inr ⟨od, rfl⟩, .inl rfl⟩)) (rv.mono fun b u hb => ?_)⟩
          · by_cases q : b = a
            · subst q; rw [upd_same]; exact ho.symm.trans hb ▸ rfl
            · rw [upd_ne q]; exact t.sub b u (by rw [upd_ne q]; exact hb)
          · rw [upd_ne (nf b z), t.keep b z, upd_ne (nf b z)]
          · by_cases q : b = a
            · subst q
              rw [b2] at hb; cases hb
              exact ⟨_, upd_same, .inr ⟨ws, .inr ⟨od, rfl⟩, .inl rfl⟩⟩
            · exact ⟨u, by rw [upd_ne q]; exact hb, .refl u⟩
        · refine .inr (k B H _ od (Ex.refl B) s.sub (s.sub _ _ ho) fun Dd hDd => ?_)
          exact run_lc s (itr_d ho r e2) c.1 c.2 e0 (fun v B2 H2 t s2 rv => h v B2 H2 t s2 rv) hDd
    · simp only [if_neg c] at h; exact h.elim

def mDCompD (n : Nat) (w : Wk) (f : List Slot → Option D) (bnd : D → M Unit) (tst : M Bool) (km em : M D) (vs : List Nat) : M D := fun ρ => match (f ρ).bind (wkD w) with
  | some ds => if plainAt ρ vs = true ∧ ρ.length = n then match dcompM bnd tst km em vs ds [] (wipeR ρ vs) with
      | .ok acc ρ' => .ok (.dct acc) (backR ρ ρ' vs)
      | _ => .bad
    else .bad
  | none => .bad
theorem de_dcompD {kx elt tg iter : Expr} {ifs : List Expr} {scope : Scope} {own : List (Str × Nat)} {pos : Pos} {w : Wk} {f : List Slot → Option D} {bnd : D → M Unit} {tst : M Bool} {km em : M D} {n : Nat} (hc : X.calm = true) (hN : X.N.Nodup) (hi : DWk X tg iter w f) (ok : blkC X.N X.env.scope scope own = true)
    (hg : ∀ (s : Shared) (H : Hp) (C : Addr) (cl : List (Str × Addr)) (fp : List Addr), DG (X.blk s H scope (compEnvC scope cl C X.env) fp) (W0 n (own.map (·.2))) tg bnd) (ht : ∀ (s : Shared) (H : Hp) (C : Addr) (cl : List (Str × Addr)) (fp : List Addr), DTs (X.blk s H scope (compEnvC scope cl C X.env) fp) (W0 n (own.map (·.2))) ifs tst) (hk : ∀ (s : Shared) (H : Hp) (C : Addr) (cl : List (Str × Addr)) (fp : List Addr), DE (X.blk s H scope (compEnvC scope cl C X.env) fp) (W0 n (own.map (·.2))) kx km)
    (he : ∀ (s : Shared) (H : Hp) (C : Addr) (cl : List (Str × Addr)) (fp : List Addr), DE (X.blk s H scope (compEnvC scope cl C X.env) fp) (W0 n (own.map (·.2))) elt em) (hs : ∀ x, foldedSetIterable iter X.env x = pure x := by intro _; rfl) :
    DE X W (.DictComp kx elt [⟨tg, iter, ifs, 0⟩] scope pos) (mDCompD n w f bnd tst km em (own.map (·.2))) := by
  obtain ⟨wi, pi, ki⟩ := hi
  obtain ⟨vs, hvs⟩ : ∃ vs, vs = own.map (·.2) := ⟨_, rfl⟩
  have p0 := pe_dc (pos := pos) (tk := tE X.K (W0 n (own.map fun p : Str × Nat => p.2)) km) (tv := tE X.K (W0 n (own.map fun p : Str × Nat => p.2)) em) (tt := tT_ X.K (W0 n (own.map fun p : Str × Nat => p.2)) tst) (g := tG_ X.K (W0 n (own.map fun p : Str × Nat => p.2)) bnd) hc hN pi (blkOk_by ok) (fun s H C cl fp => (hg s H C cl fp).pg) ht (fun s H C cl fp => (hk s H C cl fp).pe) (fun s H C cl fp => (he s H C cl fp).pe) hs 
  refine ⟨_, PE.or (pe_lock p0) p0, fun fr B σ H ρ Q s h => ?_⟩
  rw [← hvs] at h ⊢
  unfold Go mDCompD at h
  cases e : (f ρ).bind (wkD w) with
  | none => rw [e] at h; exact h.elim
  | some ds =>
    rw [e] at h
    by_cases c : plainAt ρ vs = true ∧ ρ.length = n
    · simp only [if_pos c] at h
      cases e0 : dcompM bnd tst km em vs ds [] (wipeR ρ vs) with
      | bad => rw [e0] at h; exact h.elim
      | exc _ _ => rw [e0] at h; exact h.elim
      | ok accF ρF =>
        rw [e0] at h
        obtain ⟨d, e1, e2⟩ := Option.bind_eq_some_iff.mp e
        obtain ⟨kvs, rfl⟩ := wkD_inv e2
        obtain ⟨a, ws, ⟨o, ho, hd⟩, r, k⟩ := ki fr B σ H ρ _ s e1 kvs rfl
        rcases hd with rfl | ⟨od, rfl⟩
        · refine .inl ⟨a, _, s.sub _ _ ho, trivial, fun od => ?_⟩
          have sm : Sm (.dK ws) (.frz od (.dK ws)) := .inr ⟨ws, .inl rfl, .inr ⟨od, rfl⟩⟩
          have s1 := s.swap ho sm
          have e1 : Ex B (upd B a (.frz od (.dK ws))) := fun b u hb => by
            by_cases q : b = a
            · subst q; rw [ho] at hb; cases hb; exact ⟨_, upd_same, sm⟩
            · exact ⟨u, by rw [upd_ne q]; exact hb, .refl u⟩
          have nf : ∀ b, fr b → b ≠ a := fun b z q => by
            obtain ⟨fp, sf⟩ := s
            rw [sf.base, hid_no (.inl (q ▸ z))] at ho
            cases ho
          refine k _ _ _ od e1 s1.sub upd_same fun Dd hDd => ?_
          refine run_dc (Q := fun v H' => H' a = some (.frz od (.dK ws)) ∧ Q v (upd H' a (.dK ws))) s1 (itr_d upd_same (r.mono e1) e2) c.1 c.2 e0 (fun v B2 H2 t s2 rv => ?_) hDd
          have b2 : B2 a = some (.frz od (.dK ws)) := t.sub _ _ upd_same
          refine ⟨s2.sub _ _ b2, h v (upd B2 a (.dK ws)) _ ⟨fun b u hb => ?_, fun b z => ?_⟩ (s2.swap b2 (.inr ⟨ws, .inr ⟨od, rfl⟩, .inl rfl⟩)) (rv.mono fun b u hb => ?_)⟩
          · by_cases q : b = a
            · subst q; rw [upd_same]; exact ho.symm.trans hb ▸ rfl
            · rw [upd_ne q]; exact t.sub b u (by rw [upd_ne q]; exact hb)
          · rw [upd_ne (nf b z), t.keep b z, upd_ne (nf b z)]
          · by_cases q : b = a
            · subst q
              rw [b2] at hb; cases hb
              exact ⟨_, upd_same, .inr ⟨ws, .inr ⟨od, rfl⟩, .inl rfl⟩⟩
            · exact ⟨u, by rw [upd_ne q]; exact hb, .refl u⟩
        · refine .inr (k B H _ od (Ex.refl B) s.sub (s.sub _ _ ho) fun Dd hDd => ?_)
          exact run_dc s (itr_d ho r e2) c.1 c.2 e0 (fun v B2 H2 t s2 rv => h v B2 H2 t s2 rv) hDd
    · simp only [if_neg c] at h; exact h.elim
def mDComp (n : Nat) (m : M (List D)) (bnd : D → M Unit) (tst : M Bool) (km em : M D) (vs : List Nat) : M D := m.bind fun ds => fun ρ => if plainAt ρ vs = true ∧ ρ.length = n then match dcompM bnd tst km em vs ds [] (wipeR ρ vs) with
      | .ok acc ρ' => .ok (.dct acc) (backR ρ ρ' vs)
      | _ => .bad
    else .bad
theorem de_dcomp {kx elt tg iter : Expr} {ifs : List Expr} {scope : Scope} {own : List (Str × Nat)} {pos : Pos} {m : M (List D)} {bnd : D → M Unit} {tst : M Bool} {km em : M D} {n : Nat} (hc : X.calm = true) (hN : X.N.Nodup) (hi : DI X W tg iter m) (ok : blkC X.N X.env.scope scope own = true)
    (hg : ∀ (s : Shared) (H : Hp) (C : Addr) (cl : List (Str × Addr)) (fp : List Addr), DG (X.blk s H scope (compEnvC scope cl C X.env) fp) (W0 n (own.map (·.2))) tg bnd) (ht : ∀ (s : Shared) (H : Hp) (C : Addr) (cl : List (Str × Addr)) (fp : List Addr), DTs (X.blk s H scope (compEnvC scope cl C X.env) fp) (W0 n (own.map (·.2))) ifs tst)
    (hk : ∀ (s : Shared) (H : Hp) (C : Addr) (cl : List (Str × Addr)) (fp : List Addr), DE (X.blk s H scope (compEnvC scope cl C X.env) fp) (W0 n (own.map (·.2))) kx km)
    (he : ∀ (s : Shared) (H : Hp) (C : Addr) (cl : List (Str × Addr)) (fp : List Addr), DE (X.blk s H scope (compEnvC scope cl C X.env) fp) (W0 n (own.map (·.2))) elt em) (hs : ∀ x, foldedSetIterable iter X.env x = pure x := by intro _; rfl) :
    DE X W (.DictComp kx elt [⟨tg, iter, ifs, 0⟩] scope pos) (mDComp n m bnd tst km em (own.map (·.2))) := by
  obtain ⟨wi, pi, ki⟩ := hi
  obtain ⟨vs, hvs⟩ : ∃ vs, vs = own.map (·.2) := ⟨_, rfl⟩
  refine ⟨_, pe_dc (tk := tE X.K (W0 n (own.map fun p : Str × Nat => p.2)) km) (tv := tE X.K (W0 n (own.map fun p : Str × Nat => p.2)) em) (tt := tT_ X.K (W0 n (own.map fun p : Str × Nat => p.2)) tst) (g := tG_ X.K (W0 n (own.map fun p : Str × Nat => p.2)) bnd) hc hN pi (blkOk_by ok) (fun s H C cl fp => (hg s H C cl fp).pg) ht (fun s H C cl fp => (hk s H C cl fp).pe) (fun s H C cl fp => (he s H C cl fp).pe) hs, fun fr B σ H ρ Q s h => ?_⟩
  rw [← hvs] at h ⊢
  refine ki fr B σ H ρ _ s (h.step fun ds ρ1 h J B1 H1 t1 s1 hJ Dd hDd => ?_)
  unfold Go at h
  by_cases c : plainAt ρ1 vs = true ∧ ρ1.length = n
  · rw [if_pos c] at h
    cases e : dcompM bnd tst km em vs ds [] (wipeR ρ1 vs) with
    | bad => rw [e] at h; exact h.elim
    | exc c ρ' => rw [e] at h; exact h.elim
    | ok accF ρF =>
      rw [e] at h
      exact run_dc s1 hJ c.1 c.2 e (fun v B2 H2 t s2 rv => h v B2 H2 (t1.trans t) s2 rv) hDd
  · rw [if_neg c] at h; exact h.elim
end
end EE
end

section
set_option Elab.async false
set_option linter.all false
set_option maxRecDepth 100000
set_option maxHeartbeats 4000000
/-! E17: while, constants of the module, reversed, join, minus -/
namespace EE
open PySem PySem.Spec PyProof.Rows L2
variable [XAd]
section
variable {X : Cx} {W : Wn} {a b : Expr} {pos : Pos}
/-! ### while, N turns at most -/
def whileM (c : M Bool) (b : M Fl) : Nat → M Fl
  | 0 => fun _ => .bad
  | n + 1 => c.bind fun k => if k then b.bind fun fl => match fl with
      | .nx => whileM c b n
      | .ct => whileM c b n
      | .bk => mNx
      | .rt r => M.pure (.rt r)
    else mNx
theorem ds_while (N : Nat) {c : Expr} {sts : List Stmt} {mc : M Bool} {mb : M Fl} (hp : PassesOwn (model X.prog X.w) X.A X.env X.xe) (hc : DT X W c mc) (hb : DSs X W sts mb) : DS X W (.While c sts [] pos) (whileM mc mb N) := by
  obtain ⟨tc, pc, kc⟩ := hc
  obtain ⟨tb, pb, kb⟩ := hb
  refine ⟨_, ps_while hp pc pb, fun fr B σ H ρ D s h => ?_⟩
  refine ⟨fun m σ' H' => ∃ B' ρ', To fr B H B' H' ∧ Pin W.P σ σ' ∧ St X.K fr B' σ' H' ρ' ∧ Go X.K W fr σ B H (whileM mc mb m ρ') (OkS X.K W fr σ B H D), ⟨N, B, ρ, .refl, .refl, s, h⟩, ?_⟩
  rintro m σ1 H1 ⟨B1, ρ1, t1, p1, s1, h1⟩
  cases m with
  | zero => exact h1.elim
  | succ m =>
    refine kc fr B1 σ1 H1 ρ1 _ s1 (Go.later' t1 p1 (Go.step h1 fun k ρ2 h2 => h2) fun k ρ2 h2 B2 H2 t2 s2 => ?_)
    have t12 := t1.trans t2
    cases k with
    | true =>
      have h2 : Go X.K W fr σ B H ((mb.bind fun fl => match fl with
        | .nx => whileM mc mb m
        | .ct => whileM mc mb m
        | .bk => mNx
        | .rt r => M.pure (.rt r)) ρ2) (OkS X.K W fr σ B H D) := h2
      rw [if_pos rfl]
      refine ⟨fun σ' H' => ∃ B' ρ', To fr B H B' H' ∧ Pin W.P σ σ' ∧ St X.K fr B' σ' H' ρ' ∧ Go X.K W fr σ B H (whileM mc mb m ρ') (OkS X.K W fr σ B H D), fun σ' H' z => ⟨m, Nat.lt_succ_self _, z⟩, ?_⟩
      refine kb fr B2 σ1 H2 ρ2 _ s2 (Go.later' t12 p1 (Go.step h2 fun fl ρ3 h3 => h3) fun fl ρ3 h3 => ?_)
      cases fl with
      | nx => exact fun σ4 B4 H4 t4 p4 s4 => ⟨B4, ρ3, t12.trans t4, p1.trans p4, s4, h3⟩
      | ct => exact fun σ4 B4 H4 t4 p4 s4 => ⟨B4, ρ3, t12.trans t4, p1.trans p4, s4, h3⟩
      | bk => exact fun σ4 B4 H4 t4 p4 s4 => (Go.pure h3) σ4 B4 H4 (t12.trans t4) (p1.trans p4) s4
      | rt r => exact fun σ4 B4 H4 t4 p4 => (Go.pure h3) σ4 B4 H4 (t12.trans t4) (p1.trans p4)
    | false =>
      rw [if_neg Bool.false_ne_true]
      exact (Go.pure h2) σ1 B2 H2 t12 p1 s2
/-! ### a constant of the module -/
theorem de_glob {x : Str} {v : V} {u : Value} {d : D} (hm : X.mg x = some u) (r : RelV v u) (rd : ∀ B, Rep X.K B d v) (hg : Gl X x := by rfl) (hd : (x == ("__debug__" : Str)) = false := by decide) : DE X W (.Name x pos) (M.pure d) :=
  de_c (pe_glob hg hm r hd) rd
/-! ### a dict of the module with text keys -/
structure TabK (K : PySem.W.Frag) (w : World) (x : Str) (tab : List (Str × D)) : Prop where
  kd : ∃ es n, KDict K w (He.ga K x) es n
  no : ∀ z, tab.lookup z = none → PySem.W.nsIn K (He.ga K x) z = some none
  at_ : ∀ z d, tab.lookup z = some d → ∃ u v, PySem.W.nsIn K (He.ga K x) z = some (some u) ∧ RelV v u ∧ ∀ B, Rep K B d v
def inTb (tab : List (Str × D)) (neg : Bool) (d : D) : Option D := match d with
  | .str z => some (.bl (xor neg (tab.lookup z).isSome))
  | _ => none
def ixTb (tab : List (Str × D)) (d : D) : Option D := match d with
  | .str z => tab.lookup z
  | _ => none
theorem de_inTb {x : Str} {p2 : Pos} {tab : List (Str × D)} {m : M D} (T : TabK X.K X.w x tab) (hm : X.mg x = some (.ref (He.ga X.K x))) (ha : DE X W a m) (hg : Gl X x := by rfl) (hd : (x == ("__debug__" : Str)) = false := by decide) : DE X W (.Compare a [.In] [.Name x p2] pos) (m1 (inTb tab false) m) := by
  obtain ⟨t, p, k⟩ := ha
  obtain ⟨es, n, kd⟩ := T.kd
  refine ⟨_, pe_cmpR (op_in_kd kd) p (pe_glob hg hm (v := .ref (He.ga X.K x)) rfl hd) rfl, fun fr B σ H ρ Q s h => ?_⟩
  refine k fr B σ H ρ _ s (h.step fun d ρ1 h v B1 H1 t1 s1 r1 => ?_)
  obtain ⟨d', e, q⟩ := h.of
  cases d with
  | str z =>
    cases e
    cases e2 : tab.lookup z with
    | none => exact ⟨z, none, r1.str_inv, rfl, T.no z e2, q _ B1 H1 t1 s1 (by rw [e2]; exact .bl)⟩
    | some dd =>
      obtain ⟨u, v', q1, _⟩ := T.at_ z dd e2
      exact ⟨z, some u, r1.str_inv, rfl, q1, q _ B1 H1 t1 s1 (by rw [e2]; exact .bl)⟩
  | _ => cases e
theorem de_notInTb {x : Str} {p2 : Pos} {tab : List (Str × D)} {m : M D} (T : TabK X.K X.w x tab) (hm : X.mg x = some (.ref (He.ga X.K x))) (ha : DE X W a m) (hg : Gl X x := by rfl) (hd : (x == ("__debug__" : Str)) = false := by decide) : DE X W (.Compare a [.NotIn] [.Name x p2] pos) (m1 (inTb tab true) m) := by
  obtain ⟨t, p, k⟩ := ha
  obtain ⟨es, n, kd⟩ := T.kd
  refine ⟨_, pe_cmpR (op_notIn_kd kd) p (pe_glob hg hm (v := .ref (He.ga X.K x)) rfl hd) rfl, fun fr B σ H ρ Q s h => ?_⟩
  refine k fr B σ H ρ _ s (h.step fun d ρ1 h v B1 H1 t1 s1 r1 => ?_)
  obtain ⟨d', e, q⟩ := h.of
  cases d with
  | str z =>
    cases e
    cases e2 : tab.lookup z with
    | none => exact ⟨z, none, r1.str_inv, rfl, T.no z e2, q _ B1 H1 t1 s1 (by rw [e2]; exact .bl)⟩
    | some dd =>
      obtain ⟨u, v', q1, _⟩ := T.at_ z dd e2
      exact ⟨z, some u, r1.str_inv, rfl, q1, q _ B1 H1 t1 s1 (by rw [e2]; exact .bl)⟩
  | _ => cases e
theorem de_ixTb {x : Str} {p2 : Pos} {tab : List (Str × D)} {m : M D} (T : TabK X.K X.w x tab) (hm : X.mg x = some (.ref (He.ga X.K x))) (ha : DE X W a m) (hg : Gl X x := by rfl) (hd : (x == ("__debug__" : Str)) = false := by decide) (hs : PlainIx a := by exact fun _ _ => rfl) :
    DE X W (.Subscript (.Name x p2) a pos) (m1 (ixTb tab) m) := by
  obtain ⟨t, p, k⟩ := ha
  obtain ⟨es, n, kd⟩ := T.kd
  refine ⟨_, pe_ix (ix_kdict (X := X)) (pe_glob hg hm (v := .ref (He.ga X.K x)) rfl hd) p hs, fun fr B σ H ρ Q s h => ?_⟩
  refine k fr B σ H ρ _ s (h.step fun d ρ1 h v B1 H1 t1 s1 r1 => ?_)
  obtain ⟨d', e, q⟩ := h.of
  cases d with
  | str z =>
    obtain ⟨u, v', q1, q2, q3⟩ := T.at_ z d' e
    exact ⟨_, z, v', rfl, r1.str_inv, ⟨es, n, u, kd.at_, kd.lit, q1, q2⟩, q _ B1 H1 t1 s1 (q3 B1)⟩
  | _ => cases e
/-! ### minus -/
def fNeg (d : D) : Option D := match d with
  | .int i => some (.int (-i))
  | _ => none
theorem o_neg : Op1 X (rU fun i => .int (-i)) fNeg := by
  intro B H a d x Q sb ra e k
  cases a with
  | int i =>
    cases e
    exact ⟨i, ra.int_inv, k _ B H .same .int⟩
  | _ => cases e
/-! ### reversed -/
def revD (d : D) : Option (List D) := match d with
  | .lst ds => some ds.reverse
  | .tup ds => some ds.reverse
  | _ => none
theorem itr_rev {K : PySem.W.Frag} {a : Addr} {xs : List V} {ds : List D} {B : Hp} (h : SqL K B a xs) (r : RepL K B ds xs) : ItR K (Itv K a xs.length) B ds.reverse := by
  intro B2 H2 s1 s2 i hi
  have h2 : SqL K H2 a xs := rd_sub s2 (rd_sub s1 h)
  have hl := r.length
  rw [List.length_reverse] at hi ⊢
  refine ⟨fun lt => ⟨⟨by omega, xs, xs[xs.length - 1 - i]'(by omega), h2, by simp⟩, fun x H3 y => ?_⟩, fun e => by show xs.length ≤ i; omega⟩
  obtain ⟨e, y⟩ := y
  subst e
  obtain ⟨d, hd⟩ : ∃ d, ds[ds.length - 1 - i]? = some d := ⟨ds[ds.length - 1 - i]'(by omega), by simp⟩
  obtain ⟨x', h3, h4⟩ := r.get hd
  have h5 := y xs h2
  rw [hl, h3] at h5
  cases h5
  exact ⟨B2, .same, d, by rw [List.getElem?_reverse (by omega)]; exact hd, h4.mono s1.ex⟩
theorem itr_revT {K : PySem.W.Frag} {a : Addr} {xs : List V} {ds : List D} {B : Hp} (h : SqT K B a xs) (r : RepL K B ds xs) : ItR K (RT.ItvT K a xs.length) B ds.reverse := by
  intro B2 H2 s1 s2 i hi
  have h2 : SqT K H2 a xs := ex_t (s1.trans s2).ex h
  have hl := r.length
  rw [List.length_reverse] at hi ⊢
  refine ⟨fun lt => ⟨⟨by omega, xs, xs[xs.length - 1 - i]'(by omega), h2, by simp⟩, fun x H3 y => ?_⟩, fun e => by show xs.length ≤ i; omega⟩
  obtain ⟨e, y⟩ := y
  subst e
  obtain ⟨d, hd⟩ : ∃ d, ds[ds.length - 1 - i]? = some d := ⟨ds[ds.length - 1 - i]'(by omega), by simp⟩
  obtain ⟨x', h3, h4⟩ := r.get hd
  have h5 := y xs h2
  rw [hl, h3] at h5
  cases h5
  exact ⟨B2, .same, d, by rw [List.getElem?_reverse (by omega)]; exact hd, h4.mono s1.ex⟩
theorem di_rev {tg : Expr} {p : Pos} {m : M D} (ha : DE X W a m) (hg : Gl X "reversed") (hm : X.mg "reversed" = none) (hs : starEach [a] X.env = (false, eval a X.env) :: starEach [] X.env := by rfl) : DI X W tg (.Call (.Name "reversed" p) [a] [] pos) (m.bind fun d => M.of (revD d)) := by
  obtain ⟨t, pp, k⟩ := ha
  refine ⟨_, RT.pi_revA hg hm pp hs, fun fr B σ H ρ R s h => ?_⟩
  refine k fr B σ H ρ _ s (h.step fun d ρ1 h v B1 H1 t1 s1 r1 => ?_)
  obtain ⟨ds, e, q⟩ := h.of
  cases d with
  | lst ds0 =>
    cases e
    obtain ⟨a, xs, rfl, q1, q2⟩ := r1.lst_inv
    exact ⟨a, xs, rfl, .inl ⟨(rd_sub s1.sub q1), q _ B1 H1 t1 s1 (itr_rev q1 q2)⟩⟩
  | tup ds0 =>
    cases e
    obtain ⟨a, xs, rfl, q1, q2⟩ := r1.tup_inv
    exact ⟨a, xs, rfl, .inr ⟨ex_t s1.sub.ex q1, q _ B1 H1 t1 s1 (itr_revT q1 q2)⟩⟩
  | _ => cases e
/-! ### join -/
def joinS (x : Str) (ds : List D) : Option D := (strsD ds).bind fun ys => if (ys.map (·.length)).sum + ys.length * x.length ≤ 16777216 then some (.str (Txt.join x ys)) else none
def fJoin (a b : D) : Option D := match a, b with
  | .str x, .lst ds => joinS x ds
  | .str x, .tup ds => joinS x ds
  | _, _ => none
def isStD (d : D) : Option D := match d with
  | .str x => some (.str x)
  | _ => none
theorem de_join {o e : Expr} {apos : Pos} {mo me : M D} (ho : DE X W o mo) (he : DE X W e me) (hs : starEach [e] X.env = [(false, eval e X.env)] := by rfl) (hbase : attributeBase o "join" X.env (eval o X.env) = eval o X.env := by rfl) (hline : (apos.endLine == pos.line) = true := by rfl) :
    DE X W (.Call (.Attribute o "join" apos) [e] [] pos) (m2 fJoin (m1 isStD mo) me) := by
  obtain ⟨t1, p1, k1⟩ := ho
  obtain ⟨t2, p2, k2⟩ := he
  refine ⟨_, pe_join p1 p2 hs hbase hline, fun fr B σ H ρ Q s h => ?_⟩
  have h := h.step fun d ρ1 h => h
  refine k1 fr B σ H ρ _ s (h.step fun d1 ρ1 h v B1 H1 t1 s1 r1 => ?_)
  obtain ⟨d1', e1, h⟩ := h.of
  cases d1 with
  | str x =>
    cases e1
    refine ⟨⟨x, r1.str_inv⟩, ?_⟩
    refine k2 fr B1 σ H1 ρ1 _ s1 (Go.step (h.later t1 fun _ _ q => q) fun d2 ρ2 h y B2 H2 t2 s2 r2 => ?_)
    obtain ⟨d, e, q⟩ := h.of
    have main : ∀ ds p, joinS x ds = some d → y = .ref p → (∀ xs, RepL X.K B2 ds xs → SqL X.K H2 p xs ∨ SqT X.K H2 p xs) → (∃ xs, RepL X.K B2 ds xs) → ∃ a p, ∃ ys : List Str, v = .str a ∧ [y] = [.ref p] ∧ (SqL X.K H2 p (ys.map V.str) ∨ SqT X.K H2 p (ys.map V.str)) ∧ (ys.map (·.length)).sum + ys.length * a.length ≤ 16777216 ∧ Q (.str (Txt.join a ys)) H2 := by
      rintro ds p e rfl hsq ⟨xs, hxs⟩
      obtain ⟨ys, e1, e2⟩ := Option.bind_eq_some_iff.mp e
      split at e2
      · rename_i hz
        cases e2
        have := strsD_inv e1
        subst this
        have ex := rep_strs hxs
        subst ex
        exact ⟨x, p, ys, r1.str_inv, rfl, hsq _ hxs, hz, q _ B2 H2 (t1.trans t2) s2 .str⟩
      · cases e2
    cases d2 with
    | lst ds =>
      obtain ⟨p, xs, rfl, q1, q2⟩ := r2.lst_inv
      refine main ds p e rfl (fun xs' h' => ?_) ⟨xs, q2⟩
      rw [show xs' = xs from ?_]
      · exact .inl ((rd_sub s2.sub q1))
      · obtain ⟨ys, e1, _⟩ := Option.bind_eq_some_iff.mp (show joinS x ds = some d from e)
        have := strsD_inv e1
        subst this
        rw [rep_strs h', rep_strs q2]
    | tup ds =>
      obtain ⟨p, xs, rfl, q1, q2⟩ := r2.tup_inv
      refine main ds p e rfl (fun xs' h' => ?_) ⟨xs, q2⟩
      rw [show xs' = xs from ?_]
      · exact .inr (ex_t s2.sub.ex q1)
      · obtain ⟨ys, e1, _⟩ := Option.bind_eq_some_iff.mp (show joinS x ds = some d from e)
        have := strsD_inv e1
        subst this
        rw [rep_strs h', rep_strs q2]
    | _ => cases e
  | _ => cases e1
end
end EE
end

section
set_option Elab.async false
set_option linter.all false
set_option maxRecDepth 100000
set_option maxHeartbeats 4000000
/-! E19: objects of one's own: fields set, dicts in fields stored into, frozen -/
namespace EE
open PySem PySem.Spec PyProof.Rows L2
variable [XAd]
section
variable {K : PySem.W.Frag} {B B' H H' : Hp} {σ σ' : L2.St} {ρ ρ' : List Slot} {fp : Nat → Ad} {fr : Ad}
theorem FsR.look : ∀ {fs : List (Str × Fv)} {ws : List (Str × V)} {f : Ad} {x : Str}, FsR K B H fs ws f → fs.lookup x = none → ws.lookup x = none
  | [], _, _, _, h, _ => by rw [h.1]; rfl
  | (k, c) :: fs, ws, f, x, h, e => by
    obtain ⟨y, ys, f1, f2, rfl, h2, h3, h4, h5⟩ := h
    rw [List.lookup_cons] at e ⊢
    cases q : (x == k) with
    | true => rw [q] at e; cases e
    | false => rw [q] at e; exact FsR.look h3 e
theorem putF_new {x : Str} {y : V} : ∀ {ws : List (Str × V)}, ws.lookup x = none → putF x y ws = ws ++ [(x, y)]
  | [], _ => rfl
  | (k, c) :: ws, e => by
    rw [List.lookup_cons] at e
    cases q : (x == k) with
    | true => rw [q] at e; cases e
    | false =>
      rw [q] at e
      unfold putF
      rw [if_neg (fun z => by rw [z, beq_self_eq_true] at q; cases q), putF_new e]
      rfl
theorem FsR.len : ∀ {fs : List (Str × Fv)} {ws : List (Str × V)} {f : Ad}, FsR K B H fs ws f → ws.length = fs.length
  | [], _, _, h => by rw [h.1]; rfl
  | (k, c) :: fs, ws, f, h => by
    obtain ⟨y, ys, f1, f2, rfl, h2, h3, h4, h5⟩ := h
    rw [List.length_cons, List.length_cons, FsR.len h3]
theorem FsR.snoc {x : Str} {c : Fv} {y : V} {g : Ad} (hc : FvR K B H c y g) : ∀ {fs : List (Str × Fv)} {ws : List (Str × V)} {f : Ad}, FsR K B H fs ws f → (∀ b, f b → ¬ g b) → FsR K B H (fs ++ [(x, c)]) (ws ++ [(x, y)]) (fun b => f b ∨ g b)
  | [], ws, f, h, d => by
    obtain ⟨rfl, h⟩ := h
    exact ⟨y, [], g, fun _ => False, rfl, hc, ⟨rfl, fun _ z => z⟩, fun b => ⟨fun z => z.elim (fun z => absurd z (h b)) .inl, fun z => z.elim .inr False.elim⟩, fun _ _ z => z⟩
  | (k, e) :: fs, ws, f, h, d => by
    obtain ⟨y1, ys, f1, f2, rfl, h2, h3, h4, h5⟩ := h
    refine ⟨y1, _, f1, fun b => f2 b ∨ g b, rfl, h2, FsR.snoc hc h3 fun b z => d b ((h4 b).mpr (.inr z)), fun b => ?_, fun b z q => ?_⟩
    · show (f b ∨ g b) ↔ (f1 b ∨ (f2 b ∨ g b))
      rw [h4 b]
      exact or_assoc
    · rcases q with q | q
      · exact h5 b z q
      · exact d b ((h4 b).mpr (.inl z)) q
/-- a field of one's own object gets data -/
theorem St.fldI (s : St K fr B σ H ρ) {i : Nat} {c f : Str} {fs : List (Str × Fv)} {d : D} {y : V} (h : ρ[i]? = some (.obj c fs)) (hn : fs.lookup f = none) (r : Rep K B d y) : ∃ a dx ws, σ[i]? = some (some (.ref a)) ∧ H a = some (.ins (He.ga K c) dx ws) ∧ ws.length = fs.length ∧
    St K fr B σ (upd H a (.ins (He.ga K c) dx (putF f y ws))) (ρ.set i (.obj c (fs ++ [(f, .imm d)]))) ∧ To fr B H B (upd H a (.ins (He.ga K c) dx (putF f y ws))) := by
  obtain ⟨fp, s⟩ := s
  have lt : i < ρ.length := (List.getElem?_eq_some_iff.mp h).1
  obtain ⟨w, h1, a, dx, ws, f2, rfl, q1, q2, q3, q4⟩ := s.slot i _ h
  have hw := q4.look hn
  have o1 := s.upd (H' := upd H a (.ins (He.ga K c) dx (putF f y ws))) (s' := .obj c (fs ++ [(f, .imm d)])) lt h1 (fun b n => upd_ne fun e => n ((q1 b).mpr (.inl e))) (fun b z => by
      by_cases e : b = a
      · rw [e, upd_same]; simp
      · rw [upd_ne e]; exact s.there i b z) ⟨a, dx, _, f2, rfl, q1, q2, upd_same, by
        rw [putF_new hw]
        have k := FsR.snoc (x := f) (c := .imm d) (y := y) (g := fun _ => False) (H := H) ⟨fun _ z => z, r⟩ q4 (fun _ _ z => z)
        have k := k.mono (H' := upd H a (.ins (He.ga K c) dx (ws ++ [(f, y)]))) (Ex.refl B) fun b z => upd_ne fun e => q2 (by
          rcases z with z | z
          · exact e ▸ z
          · exact z.elim)
        have ef : (fun b => f2 b ∨ False) = f2 := by
          funext b; apply propext
          exact ⟨fun z => z.elim id False.elim, .inl⟩
        rw [ef] at k
        exact k⟩
  exact ⟨a, dx, ws, h1, q3, q4.len, ⟨fp, o1.1⟩, o1.2⟩
/-- data of a field -/
def frzV : Fv → D
  | .imm d => d
  | .lst ds => .lst ds
  | .dct kvs => .dct kvs
def frzO : Slot → Option D
  | .obj c fs => some (.ins c (fs.map fun p => (p.1, frzV p.2)))
  | s => frzD s
theorem FsR.rep {B2 : Hp} (ex : Ex B B2) : ∀ {fs : List (Str × Fv)} {ws : List (Str × V)} {f : Ad}, FsR K B H fs ws f → (∀ b, f b → B2 b = H b) → RepF K B2 (fs.map fun p => (p.1, frzV p.2)) ws
  | [], _, _, h, _ => by rw [h.1]; exact .nil
  | (k, c) :: fs, ws, f, h, e => by
    obtain ⟨y, ys, f1, f2, rfl, h2, h3, h4, h5⟩ := h
    refine .cons ?_ (FsR.rep ex h3 fun b z => e b ((h4 b).mpr (.inr z)))
    have e1 : ∀ b, f1 b → B2 b = H b := fun b z => e b ((h4 b).mpr (.inl z))
    cases c with
    | imm d => exact h2.2.mono ex
    | lst ds =>
      obtain ⟨a, xs, rfl, q1, q2, q3⟩ := h2
      exact .lst (by rw [e1 a ((q1 a).mpr rfl)]; exact q2) (q3.mono ex)
    | dct ds =>
      obtain ⟨a, xs, rfl, q1, q2, q3⟩ := h2
      exact .dct ⟨_, by rw [e1 a ((q1 a).mpr rfl)]; exact q2, .inl rfl⟩ (q3.mono ex)
/-- the front object of one's own becomes data -/
theorem St.topO {v : V} {s : Slot} {d : D} (x : St K fr B (some v :: σ) H (s :: ρ)) (h : frzO s = some d) : ∃ B', Sub B B' ∧ St K fr B' σ H ρ ∧ Rep K B' d v := by
  cases s with
  | obj c fs =>
    cases h
    obtain ⟨fp, sf⟩ := id x
    obtain ⟨w, h1, a, dx, ws, f2, e, q1, q2, q3, q4⟩ := sf.slot 0 _ rfl
    simp at h1
    subst h1
    cases e
    have hl : σ.length = ρ.length := by have := sf.len; simpa using this
    have q := sf.pick (σ' := σ) (ρ' := ρ) (fun j => some (j + 1)) hl (fun a b j h1 h2 => by
      have h1 := Option.some.inj h1
      have h2 := Option.some.inj h2
      omega) fun j sl hj => by
        obtain ⟨w, h1, _⟩ := sf.slot (j + 1) sl (by simpa using hj)
        exact ⟨w, by simpa using h1, .inr (.inr ⟨j + 1, rfl, by simpa using hj, h1⟩)⟩
    have at_ : ∀ b, fp 0 b → hid H (frF fr (pickF fp (fun j => some (j + 1)) ρ.length)) b = H b := fun b z => hid_at fun y => by
      rcases y with y | ⟨k, _, l, e1, y⟩
      · exact sf.frd 0 b z y
      · have := sf.dis 0 l b z y
        cases e1
        omega
    refine ⟨_, q.2, ⟨_, q.1⟩, .ins (by rw [at_ a ((q1 a).mpr (.inl rfl))]; exact q3) ?_⟩
    exact q4.rep q.2.ex fun b z => at_ b ((q1 b).mpr (.inr z))
  | non => exact x.top h
  | imm d => exact x.top h
  | lst ds => exact x.top h
  | dct ds => exact x.top h
  | pot gs a b c => exact x.top h
  | exn c => exact x.top h
/-- what a value of one's own is as a field -/
def fvS : Slot → Option Fv
  | .imm d => some (.imm d)
  | .lst ds => some (.lst ds)
  | .dct kvs => some (.dct kvs)
  | _ => none
theorem fv_of {s : Slot} {c : Fv} {v : V} {f : Ad} (h : SlotR K B H s (some v) f) (e : fvS s = some c) : FvR K B H c v f := by
  cases s with
  | imm d => cases e; obtain ⟨h1, v', h2, h3⟩ := h; cases h2; exact ⟨h1, h3⟩
  | lst ds => cases e; obtain ⟨a, xs, h1, h2, h3, h4⟩ := h; cases h1; exact ⟨a, xs, rfl, h2, h3, h4⟩
  | dct ds => cases e; obtain ⟨a, xs, h1, h2, h3, h4⟩ := h; cases h1; exact ⟨a, xs, rfl, h2, h3, h4⟩
  | _ => cases e
/-- footprints: the front one goes to slot i -/
def intoF (fp : Nat → Ad) (i : Nat) : Nat → Ad := fun j => if j = i then fun b => fp (i + 1) b ∨ fp 0 b else fp (j + 1)
/-- a field gets what stands in front -/
theorem St.fldO {v : V} {sl : Slot} {cv : Fv} (s : St K fr B (some v :: σ) H (sl :: ρ)) {i : Nat} {c f : Str} {fs : List (Str × Fv)} (h : ρ[i]? = some (.obj c fs)) (hn : fs.lookup f = none) (hv : fvS sl = some cv) : ∃ a dx ws, σ[i]? = some (some (.ref a)) ∧ H a = some (.ins (He.ga K c) dx ws) ∧ ws.length = fs.length ∧
    St K fr B σ (upd H a (.ins (He.ga K c) dx (putF f v ws))) (ρ.set i (.obj c (fs ++ [(f, cv)]))) ∧ To fr B H B (upd H a (.ins (He.ga K c) dx (putF f v ws))) := by
  obtain ⟨fp, s⟩ := s
  have lt : i < ρ.length := (List.getElem?_eq_some_iff.mp h).1
  obtain ⟨w0, e0, s0⟩ := s.slot 0 sl rfl
  simp at e0
  subst e0
  have fv0 := fv_of s0 hv
  obtain ⟨w, h1, a, dx, ws, f2, rfl, q1, q2, q3, q4⟩ := s.slot (i + 1) _ (by simpa using h)
  have h1 : σ[i]? = some (some (.ref a)) := by simpa using h1
  have hw := q4.look hn
  have na : ∀ j b, j ≠ i + 1 → fp j b → b ≠ a := fun j b n z e => n (s.dis j (i + 1) a (e ▸ z) ((q1 a).mpr (.inl rfl)))
  have nfa : ∀ b, fr b → b ≠ a := fun b z e => s.frd (i + 1) a ((q1 a).mpr (.inl rfl)) (e ▸ z)
  have hl : σ.length = ρ.length := by have := s.len; simpa using this
  have eF : ∀ b, frF fr (intoF fp i) b ↔ frF fr fp b := fun b => by
    constructor
    · rintro (z | ⟨j, z⟩)
      · exact .inl z
      · unfold intoF at z
        split at z
        · rcases z with z | z
          · exact .inr ⟨_, z⟩
          · exact .inr ⟨_, z⟩
        · exact .inr ⟨_, z⟩
    · rintro (z | ⟨j, z⟩)
      · exact .inl z
      · cases j with
        | zero => exact .inr ⟨i, by unfold intoF; rw [if_pos rfl]; exact .inr z⟩
        | succ j =>
          by_cases e : j = i
          · subst e; exact .inr ⟨j, by unfold intoF; rw [if_pos rfl]; exact .inl z⟩
          · exact .inr ⟨j, by unfold intoF; rw [if_neg e]; exact z⟩
  have ia : frF fr (intoF fp i) a := (eF a).mpr (.inr ⟨i + 1, (q1 a).mpr (.inl rfl)⟩)
  have eb : B = hid (upd H a (.ins (He.ga K c) dx (putF f v ws))) (frF fr (intoF fp i)) := by
    rw [s.base]
    funext b
    by_cases q : frF fr fp b
    · rw [hid_no q, hid_no ((eF b).mpr q)]
    · rw [hid_at q, hid_at fun z => q ((eF b).mp z), upd_ne fun z => q (by rw [z]; exact (eF a).mp ia)]
  have th : ∀ b, H b ≠ none → upd H a (.ins (He.ga K c) dx (putF f v ws)) b ≠ none := fun b z => by
    by_cases e : b = a
    · rw [e, upd_same]; simp
    · rw [upd_ne e]; exact z
  refine ⟨a, dx, ws, h1, q3, q4.len, ⟨intoF fp i, ⟨by simpa using hl, eb, ?_, ?_, ?_, ?_, ?_, ?_⟩⟩, ⟨.refl B, fun b z => upd_ne (nfa b z)⟩⟩
  · intro j k b z1 z2
    unfold intoF at z1 z2
    by_cases e1 : j = i <;> by_cases e2 : k = i
    · rw [e1, e2]
    · rw [if_pos e1] at z1
      rw [if_neg e2] at z2
      rcases z1 with z1 | z1
      · have := s.dis _ _ _ z1 z2; omega
      · have := s.dis _ _ _ z1 z2; omega
    · rw [if_neg e1] at z1
      rw [if_pos e2] at z2
      rcases z2 with z2 | z2
      · have := s.dis _ _ _ z1 z2; omega
      · have := s.dis _ _ _ z1 z2; omega
    · rw [if_neg e1] at z1
      rw [if_neg e2] at z2
      have := s.dis _ _ _ z1 z2
      omega
  · intro j b z
    unfold intoF at z
    split at z
    · rcases z with z | z <;> exact th b (s.there _ b z)
    · exact th b (s.there _ b z)
  · intro b z
    exact th b (s.frt b z)
  · intro j b z q
    unfold intoF at z
    split at z
    · rcases z with z | z <;> exact s.frd _ b z q
    · exact s.frd _ b z q
  · intro j hj b z
    rw [List.length_set] at hj
    unfold intoF at z
    rw [if_neg (by omega)] at z
    exact s.out (j + 1) (by simp; omega) b z
  · intro j sl' hj
    by_cases e : j = i
    · subst e
      rw [List.getElem?_set_self lt] at hj
      cases hj
      refine ⟨_, h1, a, dx, _, fun b => f2 b ∨ fp 0 b, rfl, fun b => ?_, fun z => ?_, upd_same, ?_⟩
      · unfold intoF
        rw [if_pos rfl, q1 b]
        exact or_assoc
      · rcases z with z | z
        · exact q2 z
        · exact na 0 a (by omega) z rfl
      · rw [putF_new hw]
        refine (FsR.snoc fv0 q4 fun b z y => ?_).mono (Ex.refl B) fun b z => upd_ne fun e => ?_
        · have := s.dis _ _ _ ((q1 b).mpr (.inr z)) y
          omega
        · rcases z with z | z
          · exact q2 (e ▸ z)
          · exact na 0 b (by omega) z e
    · rw [List.getElem?_set_ne (Ne.symm e)] at hj
      obtain ⟨w', g1, g2⟩ := s.slot (j + 1) sl' (by simpa using hj)
      refine ⟨w', by simpa using g1, ?_⟩
      have ef : intoF fp i j = fp (j + 1) := by unfold intoF; rw [if_neg e]
      rw [ef]
      exact g2.mono (Ex.refl B) fun b z => upd_ne (na (j + 1) b (by omega) z)
/-- a dict in a field -/
def dctF (fs : List (Str × Fv)) (f : Str) : Option (List (Key × D)) := match fs.lookup f with
  | some (.dct kvs) => some kvs
  | _ => none
def setF (f : Str) (x : Fv) : List (Str × Fv) → List (Str × Fv)
  | [] => []
  | (k, c) :: fs => if f = k then (k, x) :: fs else (k, c) :: setF f x fs
theorem FsR.dct {x : Str} {kvs : List (Key × D)} : ∀ {fs : List (Str × Fv)} {ws : List (Str × V)} {f : Ad}, FsR K B H fs ws f → fs.lookup x = some (.dct kvs) → ∃ p xs, ws.lookup x = some (.ref p) ∧ f p ∧ H p = some (.dK xs) ∧ RepK K B kvs xs ∧
    ∀ kvs' xs', RepK K B kvs' xs' → FsR K B (upd H p (.dK xs')) (setF x (.dct kvs') fs) ws f
  | [], _, _, h, e => by cases e
  | (k, c) :: fs, ws, f, h, e => by
    obtain ⟨y, ys, f1, f2, rfl, h2, h3, h4, h5⟩ := h
    rw [List.lookup_cons] at e ⊢
    cases q : (x == k) with
    | true =>
      rw [q] at e
      cases e
      obtain ⟨p, xs, rfl, g1, g2, g3⟩ := h2
      refine ⟨p, xs, rfl, (h4 p).mpr (.inl ((g1 p).mpr rfl)), g2, g3, fun kvs' xs' r => ?_⟩
      unfold setF
      rw [if_pos (eq_of_beq q)]
      exact ⟨.ref p, ys, f1, f2, rfl, ⟨p, xs', rfl, g1, upd_same, r⟩, h3.mono (Ex.refl B) fun b z => upd_ne fun e => h5 p ((g1 p).mpr rfl) (e ▸ z), h4, h5⟩
    | false =>
      rw [q] at e
      obtain ⟨p, xs, g1, g2, g3, g4, g5⟩ := FsR.dct h3 e
      refine ⟨p, xs, g1, (h4 p).mpr (.inr g2), g3, g4, fun kvs' xs' r => ?_⟩
      unfold setF
      rw [if_neg fun z => by rw [z, beq_self_eq_true] at q; cases q]
      exact ⟨y, ys, f1, f2, rfl, h2.mono (Ex.refl B) fun b z => upd_ne fun e => h5 b z (e ▸ g2), g5 kvs' xs' r, h4, h5⟩
theorem St.putFK (s : St K fr B σ H ρ) {i : Nat} {c f : Str} {fs : List (Str × Fv)} {kvs : List (Key × D)} (h : ρ[i]? = some (.obj c fs)) (hf : fs.lookup f = some (.dct kvs)) : ∃ a dx ws p xs, σ[i]? = some (some (.ref a)) ∧ H a = some (.ins (He.ga K c) dx ws) ∧ ws.lookup f = some (.ref p) ∧ H p = some (.dK xs) ∧ RepK K B kvs xs ∧
    ∀ kvs' xs', RepK K B kvs' xs' → St K fr B σ (upd H p (.dK xs')) (ρ.set i (.obj c (setF f (.dct kvs') fs))) ∧ To fr B H B (upd H p (.dK xs')) := by
  obtain ⟨fp, s⟩ := s
  have lt : i < ρ.length := (List.getElem?_eq_some_iff.mp h).1
  obtain ⟨w, h1, a, dx, ws, f2, rfl, q1, q2, q3, q4⟩ := s.slot i _ h
  obtain ⟨p, xs, g1, g2, g3, g4, g5⟩ := q4.dct hf
  have pa : a ≠ p := fun e => q2 (e ▸ g2)
  refine ⟨a, dx, ws, p, xs, h1, q3, g1, g3, g4, fun kvs' xs' r => ?_⟩
  have o1 := s.upd (H' := upd H p (.dK xs')) (s' := .obj c (setF f (.dct kvs') fs)) lt h1 (fun b n => upd_ne fun e => n ((q1 b).mpr (.inr (e ▸ g2)))) (fun b z => by
      by_cases e : b = p
      · rw [e, upd_same]; simp
      · rw [upd_ne e]; exact s.there i b z) ⟨a, dx, ws, f2, rfl, q1, q2, by rw [upd_ne pa]; exact q3, g5 kvs' xs' r⟩
  exact ⟨⟨fp, o1.1⟩, o1.2⟩
end
end EE
end

section
set_option Elab.async false
set_option linter.all false
set_option maxRecDepth 100000
set_option maxHeartbeats 4000000
/-! E20: self.f = e, self.f[k] = v, self.m(..), C(..) -/
namespace EE
open PySem PySem.Spec PyProof.Rows L2
variable [XAd]
section
variable {X : Cx} {W : Wn} {pos : Pos}
def mFldI (i : Nat) (c : Str) (at_ : List Str) (f : Str) (m : M Slot) : M Fl := m.bind fun s ρ => match ρ[i]?, fvS s with
  | some (.obj c' fs), some cv => if c' = c ∧ f ∈ at_ ∧ fs.lookup f = none ∧ fs.length < 1000 then .ok .nx (ρ.set i (.obj c (fs ++ [(f, cv)]))) else .bad
  | _, _ => .bad
theorem ds_fld (i : Nat) {c f x : Str} {at_ : List Str} {e : Expr} {xp p' : Pos} {m : M Slot} (A : AtK X.K c at_) (he : DO X W e m) (hN : X.N[i]? = some x := by rfl) (hv : Vis X.env.scope x := by first | exact Or.inl rfl | exact Or.inr (Or.inl rfl) | exact Or.inr (Or.inr rfl)) (hd : (x == ("__debug__" : Str)) = false := by decide)
    (hcd : (x == ("__classdict__" : Str)) = false := by decide) (hs : swapsWith e (some (.Attribute (.Name x xp) f p')) pos.line X.env = pure false := by rfl) : DS X W (.Assign [.Attribute (.Name x xp) f p'] e pos) (mFldI i c at_ f m) := by
  obtain ⟨t, p, k⟩ := he
  refine ⟨_, ps_fld (pe_var hN hv hd hcd) p hs, fun fr B σ H ρ D s h => ?_⟩
  refine k fr B σ H ρ _ s (h.step fun sl ρ1 h v B1 H1 t1 s1 => ?_)
  unfold Go at h
  cases e1 : ρ1[i]? with
  | none => simp only [e1] at h; exact h.elim
  | some so =>
    cases so with
    | obj c' fs =>
      cases e2 : fvS sl with
      | none => simp only [e1, e2] at h; exact h.elim
      | some cv =>
        simp only [e1, e2] at h
        by_cases z : c' = c ∧ f ∈ at_ ∧ fs.lookup f = none ∧ fs.length < 1000
        · rw [if_pos z] at h
          obtain ⟨rfl, mf, hn, hz⟩ := z
          obtain ⟨a, dx, ws, q1, q2, q3, s2, t2⟩ := s1.fldO e1 hn e2
          exact ⟨.ref a, q1, a, _, dx, ws, rfl, q2, A.cl, A.no f mf, by rw [q3]; exact hz, h σ B1 _ (t1.trans t2) .refl s2⟩
        · rw [if_neg z] at h; exact h.elim
    | _ => simp only [e1] at h; exact h.elim
/-! ### self.f[k] = v -/
def mStoreF (i : Nat) (c : Str) (f : Str) (k v : D) : M Unit := fun ρ => match ρ[i]?, keyD k with
  | some (.obj c' fs), some kk => match dctF fs f with
      | some kvs => if c' = c ∧ kvs.length ≤ 1000000 then .ok () (ρ.set i (.obj c (setF f (.dct (putD kvs kk v)) fs))) else .bad
      | none => .bad
  | _, _ => .bad
def mPutF (i : Nat) (c : Str) (at_ : List Str) (f : Str) (mv : M D) (fk : List Slot → Option D) : M Fl := mv.bind fun v => fun ρ => match fk ρ with
  | some k => if f ∈ at_ then ((mStoreF i c f k v).bind fun _ => mNx) ρ else .bad
  | none => .bad
theorem dctF_inv {fs : List (Str × Fv)} {f : Str} {kvs : List (Key × D)} (h : dctF fs f = some kvs) : fs.lookup f = some (.dct kvs) := by
  unfold dctF at h
  split at h
  · rename_i e; cases h; exact e
  · cases h
theorem Go.storeF {K : PySem.W.Frag} {fr : Ad} {σ : L2.St} {B H : Hp} {i : Nat} {c f : Str} {k v : D} {ρ : List Slot} {Q : Unit → List Slot → Prop} (h : Go K W fr σ B H (mStoreF i c f k v ρ) Q) :
    ∃ fs kvs kk, ρ[i]? = some (.obj c fs) ∧ keyD k = some kk ∧ fs.lookup f = some (.dct kvs) ∧ kvs.length ≤ 1000000 ∧ Q () (ρ.set i (.obj c (setF f (.dct (putD kvs kk v)) fs))) := by
  unfold mStoreF at h
  cases e : ρ[i]? with
  | none => simp only [e] at h; exact h.elim
  | some so =>
    cases so with
    | obj c' fs =>
      cases e2 : keyD k with
      | none => simp only [e, e2] at h; exact h.elim
      | some kk =>
        cases e3 : dctF fs f with
        | none => simp only [e, e2, e3] at h; exact h.elim
        | some kvs =>
          simp only [e, e2, e3] at h
          by_cases z : c' = c ∧ kvs.length ≤ 1000000
          · rw [if_pos z] at h
            obtain ⟨rfl, hz⟩ := z
            exact ⟨fs, kvs, kk, rfl, rfl, dctF_inv e3, hz, h⟩
          · rw [if_neg z] at h; exact h.elim
    | _ => simp only [e] at h; exact h.elim
theorem ds_putF (i : Nat) {c f x : Str} {at_ : List Str} {ek ev : Expr} {xp ap p' : Pos} {mv : M D} {fk : List Slot → Option D} (hu : X.A.units + 1 < cLine) (A : AtK X.K c at_) (hv : DE X W ev mv) (hk : DV X ek fk) (hN : X.N[i]? = some x := by rfl) (hvs : Vis X.env.scope x := by first | exact Or.inl rfl | exact Or.inr (Or.inl rfl) | exact Or.inr (Or.inr rfl))
    (hd : (x == ("__debug__" : Str)) = false := by decide) (hcd : (x == ("__classdict__" : Str)) = false := by decide) (hb : attributeBase (.Name x xp) f X.env (eval (.Name x xp) X.env) = eval (.Name x xp) X.env := by rfl)
    (hs : swapsWith ev (some (.Subscript (.Attribute (.Name x xp) f ap) ek p')) pos.line X.env = pure false := by rfl) : DS X W (.Assign [.Subscript (.Attribute (.Name x xp) f ap) ek p'] ev pos) (mPutF i c at_ f mv fk) := by
  obtain ⟨tv, pv, kv⟩ := hv
  obtain ⟨tk, pk, kk⟩ := hk
  refine ⟨_, ps_dput hu (pe_fld (pe_var hN hvs hd hcd) hb) pk pv hs, fun fr B σ H ρ D s h => ?_⟩
  refine kv fr B σ H ρ _ s (h.step fun d1 ρ1 h v B1 H1 t1 s1 r1 => ?_)
  cases e0 : fk ρ1 with
  | none => simp only [e0] at h; exact h.elim
  | some kd =>
    by_cases mf : f ∈ at_
    · simp only [e0, if_pos mf] at h
      have h := Go.step h fun _ ρ' z => z
      obtain ⟨fs, kvs, key, g1, g2, g3, g4, h⟩ := h.storeF
      obtain ⟨a, dx, ws, p, xs, q1, q2, q3, q4, q5, q6⟩ := s1.putFK g1 g3
      obtain ⟨y, ry, ky⟩ := kk fr B1 σ H1 ρ1 kd s1 e0
      obtain ⟨s3, t3⟩ := q6 (putD kvs key d1) (putK xs key v) (q5.put r1)
      refine ⟨_, q1, a, _, dx, ws, .ref p, rfl, q2, A.cl, A.no f mf, q3, ky B1 H1 _ (Ex.refl B1) s1.sub ⟨p, upd H1 p (.dK (putK xs key v)), rfl, ?_, ?_⟩⟩
      · rw [keyD_v g2 ry]
        exact .inl ⟨xs, key, q4, rfl, by rw [q5.length]; exact Nat.lt_of_le_of_lt g4 (by decide), rfl⟩
      · exact (Go.pure h) σ B1 _ (t1.trans t3) .refl s3
    · simp only [e0, if_neg mf] at h; exact h.elim
end
end EE
end

section
set_option Elab.async false
set_option linter.all false
set_option maxRecDepth 100000
set_option maxHeartbeats 4000000
/-! E21: methods and makings, what is raised wished for at the caller's slots -/
namespace EE
open PySem PySem.Spec PyProof.Rows L2
section
variable {X : Cx} {k : Nat} {C f : Addr} {fd : FuncData} {ps : List Str} {sp : Sp} {E : L2.St → XK} {x m : Str} {p pos apos : Pos} {e o : Expr} {es : List Expr} {ta : TE} {t : TA}
def tMethS (C : Addr) (m : Str) (sp : Sp) (E : L2.St → XK) (ta : TE) (t : TA) : TE := fun σ H Q => ta σ H fun x H1 => ∃ a dx fs, x = .ref a ∧ H1 a = some (.ins C dx fs) ∧ fs.lookup m = none ∧ t σ H1 fun vs H2 => sp (x :: vs) H2 Q (E σ)
theorem pe_methS {pl : Sem Bool} (he : PE X o ta) (c : Cls X.K C) (hm : Meth X.K C m f) (F : FnOk X.prog X.w X.K X.mg X.base (L2.CX X.prog X.w) k f fd ps sp) (hr : Room k X.A) (hb : Binds X.K fd ps []) (hx : ∀ σ, PassesAt (L2.CX X.prog X.w) X σ (E σ)) (ha : PA X (e :: es) t)
    (hst : starEach (e :: es) X.env = (false, eval e X.env) :: starEach es X.env := by rfl) (hpl : (backTo pos (starEach es X.env)).any (·.1) = false := by rfl)
    (ht : eval (.Call (.Attribute o m apos) (e :: es) [] pos) X.env = (do
      let ov ← eval o X.env
      standAt apos.atName
      let (f, first) ← holding [ov] (getMethod ov m pl)
      callWith pos f first (backTo pos (starEach (e :: es) X.env)) (backToKw pos (keywordEach [] X.env))) := by rfl) : PE X (.Call (.Attribute o m apos) (e :: es) [] pos) (tMethS C m sp E ta t) := by
  refine ⟨fun pins s σ H Q I h => ?_⟩
  refine PySem.W.methodCall_KW (pl := pl) (thn (he.run pins s σ H _ I h) fun u s1 ⟨x, H1, I1, rx, a, dx, fs, ex, ea, l, q⟩ => ?_) ht
  subst ex
  obtain rfl : u = Value.ref a := rx
  refine getmeth_ok I1 ea c hm l ?_
  refine PySem.W.callWith_K (first := [.ref a]) (h₀ := X.base) I.ok.mod.kin hm.kp (thn (ha.run pos pins s1 σ H1 _ I1 q) fun us s2 ⟨vs, H2, I2, r, q2⟩ => ⟨I2.kIn, ?_⟩) hst hpl
  refine run_fnSD (us := .ref a :: us) (vs := .ref a :: vs) (dvs := []) (ds := []) F hr hb .nil (hx σ) I2 (.cons rfl r) ?_
  rw [List.append_nil]
  exact q2
def tMakeS (C : Addr) (sp : Sp) (E : L2.St → XK) (t : TA) : TE := fun σ H Q => t σ H fun vs H1 => ∀ x dx, H1 x = none → H1 dx = none → dx ≠ x → sp (.ref x :: vs) (upd (upd H1 dx (.own x)) x (.ins C dx [])) (fun v H2 => v = .non ∧ Q (.ref x) H2) (E σ)
theorem pe_makeS (M : Mk X.K C f) (F : FnOk X.prog X.w X.K X.mg X.base (L2.CX X.prog X.w) k f fd ps sp) (hr : Room (k + 1) X.A) (hg : Gl X x) (hm : X.mg x = some (.ref C)) (hb : Binds X.K fd ps []) (hx : ∀ σ, PassesAt (L2.CX X.prog X.w) X σ (E σ)) (ha : PA X (e :: es) t)
    (hdb : (x == ("__debug__" : Str)) = false := by decide) (he : starEach (e :: es) X.env = (false, eval e X.env) :: starEach es X.env := by rfl) (hpl : (backTo pos (starEach es X.env)).any (·.1) = false := by rfl) : PE X (.Call (.Name x p) (e :: es) [] pos) (tMakeS C sp E t) := by
  refine ⟨fun pins s σ H Q I h => ?_⟩
  refine wpAny_Call_Name_kw (ld_glob I hg hm ?_ hdb)
  refine PySem.W.callWith_K (h₀ := X.base) I.ok.mod.kin M.kp (thn (ha.run pos pins s σ H _ I h) fun us s1 ⟨vs, H1, I1, r, q⟩ => ⟨I1.kIn, ?_⟩) he hpl
  have q0 := q (s1.heap.objs.size + 1) s1.heap.objs.size (I1.hok.fresh (Nat.le_succ _)) (I1.hok.fresh (Nat.le_refl _)) (Nat.ne_of_lt (Nat.lt_succ_self _))
  have I2 := Inv.made (C := C) I1
  have r2 : Vals (V.ref (s1.heap.objs.size + 1) :: vs) (Value.ref (s1.heap.objs.size + 1) :: us) := .cons rfl r
  have hl : (Value.ref (s1.heap.objs.size + 1) :: us ++ []).length = ps.length := by
    rw [List.append_nil, ← F.len _ _ _ _ q0]
    exact r2.length.symm
  have hbb := hb _ (Value.ref (s1.heap.objs.size + 1) :: us) I2.kIn hl
  rw [List.append_nil] at hbb
  refine wpAny_call (make_map (f := f) I1.kIn M.makes M.init (beq_iff_eq.mp M.fn) (codeAny_mono (F.run _ X.stack _ _ ⟨Value.ref (s1.heap.objs.size + 1) :: us, []⟩ (Value.ref (s1.heap.objs.size + 1) :: us) _ _ (E σ) (hr.make C us []) (I2.env0.make C us []) hbb r2 q0) fun r s' hq' => ?_))
  cases r with
  | error e => exact hx σ pins _ _ e s' I2 hq'
  | ok fl =>
    cases fl with
    | ret u =>
      obtain ⟨v, H', I3, rv, ev, q3⟩ := I2.after hq'
      subst ev
      exact ⟨rv, ⟨V.ref (s1.heap.objs.size + 1), H', I3, rfl, q3⟩⟩
    | next => exact False.elim hq'
    | brk => exact False.elim hq'
    | cont => exact False.elim hq'
end
variable [XAd]
section
variable {X : Cx} {W : Wn} {P : Program} {w : World} {K : PySem.W.Frag} {mg : Str → Option Value} {base : Heap}
/-- a method of a class -/
structure MethF (P : Program) (w : World) (K : PySem.W.Frag) (mg : Str → Option Value) (base : Heap) (c m : Str) (n k : Nat) (F : Fn) : Prop where
  cl : Cls K (He.ga K c)
  fn : ∃ f fd ps, Meth K (He.ga K c) m f ∧ Binds K fd ps [] ∧ FnOk P w K mg base (L2.CX P w) k f fd ps (spM K n F)
  kp : Keeps n F
/-- a class called -/
structure MakeF (P : Program) (w : World) (K : PySem.W.Frag) (mg : Str → Option Value) (base : Heap) (c : Str) (n k : Nat) (F : Fn) : Prop where
  gm : mg c = some (.ref (He.ga K c))
  fn : ∃ f fd ps, Mk K (He.ga K c) f ∧ Binds K fd ps [] ∧ FnOk P w K mg base (L2.CX P w) k f fd ps (spM K n F)
  kp : Keeps n F
def callR (n : Nat) (F : Fn) (as : List Ag) : M Slot := fun ρ => if okA ρ as = true ∧ as.length = n then match F (as.map (slotA ρ)) with
    | .ok r as' => .ok r (putB ρ as as')
    | .exc c as' => .exc c (putB ρ as as')
    | .bad => .bad
  else .bad
/-- self.m(e, ..), self one's own -/
def mSelf (i : Nat) (c m : Str) (n : Nat) (F : Fn) (ms : M (List Ag)) : M Slot := fun ρ => match ρ[i]? with
  | some (.obj c' fs) => if c' = c ∧ fs.lookup m = none then (ms.bind fun as => callR n F (.o i :: as)) ρ else .bad
  | _ => .bad
theorem do_self (i : Nat) {x c m : Str} {xp apos pos : Pos} {e : Expr} {es : List Expr} {n j k : Nat} {F : Fn} {ms : M (List Ag)} {pl : Sem Bool} (Cx0 : CxOk X W P w K mg base k) (g : MethF P w K mg base c m n j F) (hjk : j ≤ k) (ha : DAg X W (e :: es) ms)
    (hN : X.N[i]? = some x := by rfl) (hv : Vis X.env.scope x := by first | exact Or.inl rfl | exact Or.inr (Or.inl rfl) | exact Or.inr (Or.inr rfl)) (hd : (x == ("__debug__" : Str)) = false := by decide) (hcd : (x == ("__classdict__" : Str)) = false := by decide)
    (hst : starEach (e :: es) X.env = (false, eval e X.env) :: starEach es X.env := by rfl) (hpl : (backTo pos (starEach es X.env)).any (·.1) = false := by rfl)
    (ht : eval (.Call (.Attribute (.Name x xp) m apos) (e :: es) [] pos) X.env = (do
      let ov ← eval (.Name x xp) X.env
      standAt apos.atName
      let (f, first) ← holding [ov] (getMethod ov m pl)
      callWith pos f first (backTo pos (starEach (e :: es) X.env)) (backToKw pos (keywordEach [] X.env))) := by rfl) : DO X W (.Call (.Attribute (.Name x xp) m apos) (e :: es) [] pos) (mSelf i c m n F ms) := by
  obtain ⟨cl, ⟨f, fd, ps, h1, h2, h3⟩, kp⟩ := g
  obtain ⟨c1, c2, c3, c4, c5, rm, cc, tk⟩ := Cx0
  obtain ⟨t, pa, ka⟩ := ha
  subst c1 c2 c3 c4 c5
  refine ⟨_, pe_methS (pl := pl) (pe_var hN hv hd hcd) cl h1 h3 (rm.mono hjk) h2 (passAt tk) pa hst hpl ht, fun fr B σ H ρ Q s h => ?_⟩
  unfold mSelf at h
  cases e1 : ρ[i]? with
  | none => simp only [e1] at h; exact h.elim
  | some so =>
    cases so with
    | obj c' fs =>
      simp only [e1] at h
      by_cases z : c' = c ∧ fs.lookup m = none
      · rw [if_pos z] at h
        obtain ⟨rfl, hn⟩ := z
        obtain ⟨fp, sf⟩ := id s
        obtain ⟨w0, g1, a, dx, ws, f2, rfl, q1, q2, q3, q4⟩ := sf.slot i _ e1
        refine ⟨_, g1, a, dx, ws, rfl, q3, q4.look hn, ?_⟩
        refine ka fr B σ H ρ _ s (Go.step h fun as ρ1 h vs B1 H1 t1 s1 r1 => ?_)
        refine run_call (as := .o i :: as) kp s1 ⟨_, _, rfl, g1, r1⟩ (Go.later t1 h fun sl ρ' q v B' H' t' s' => q v B' H' (t1.trans t') s')
      · rw [if_neg z] at h; exact h.elim
    | _ => simp only [e1] at h; exact h.elim
/-! ### C(e, ..) -/
def shA : Ag → Ag
  | .v d => .v d
  | .o i => .o (i + 1)
def mMake (c : Str) (n : Nat) (F : Fn) (ms : M (List Ag)) : M Slot := ms.bind fun as ρ => match callR n F (.o 0 :: as.map shA) (.obj c [] :: ρ) with
  | .ok (.imm .non) (s0 :: ρ') => .ok s0 ρ'
  | .exc e (_ :: ρ') => .exc e ρ'
  | _ => .bad
theorem AgR.shift {B : Hp} {σ : L2.St} {y : Option V} : ∀ {as : List Ag} {vs : List V}, AgR K B σ as vs → AgR K B (y :: σ) (as.map shA) vs
  | [], _, h => h
  | .v d :: as, _, h => let ⟨y, ys, h1, h2, h3⟩ := h; ⟨y, ys, h1, h2, AgR.shift h3⟩
  | .o i :: as, _, h => let ⟨y, ys, h1, h2, h3⟩ := h; ⟨y, ys, h1, by simpa using h2, AgR.shift h3⟩
theorem do_make {x : Str} {p pos : Pos} {e : Expr} {es : List Expr} {n j k : Nat} {F : Fn} {ms : M (List Ag)} (Cx0 : CxOk X W P w K mg base k) (g : MakeF P w K mg base x n j F) (hjk : j + 1 ≤ k) (ha : DAg X W (e :: es) ms) (hg : Gl X x := by rfl)
    (hdb : (x == ("__debug__" : Str)) = false := by decide) (he : starEach (e :: es) X.env = (false, eval e X.env) :: starEach es X.env := by rfl) (hpl : (backTo pos (starEach es X.env)).any (·.1) = false := by rfl) : DO X W (.Call (.Name x p) (e :: es) [] pos) (mMake x n F ms) := by
  obtain ⟨gm, ⟨f, fd, ps, h1, h2, h3⟩, kp⟩ := g
  obtain ⟨c1, c2, c3, c4, c5, rm, cc, tk⟩ := Cx0
  obtain ⟨t, pa, ka⟩ := ha
  subst c1 c2 c3 c4 c5
  refine ⟨_, pe_makeS h1 h3 (rm.mono hjk) hg gm h2 (passAt tk) pa hdb he hpl, fun fr B σ H ρ Q s h => ?_⟩
  refine ka fr B σ H ρ _ s (h.step fun as ρ1 h vs B1 H1 t1 s1 r1 a dx ha hdx ne => ?_)
  obtain ⟨s2, t2⟩ := s1.new (o := .own a) hdx
  have ha2 : (upd H1 dx (.own a)) a = none := by rw [upd_ne (Ne.symm ne)]; exact ha
  obtain ⟨s3, t3⟩ := s2.own (o := .ins (He.ga X.K x) dx []) (sl := .obj x []) ha2 ⟨a, dx, [], fun _ => False, rfl, fun b => ⟨.inl, fun z => z.elim id False.elim⟩, fun z => z, upd_same, rfl, fun _ z => z⟩
  have t123 := (t1.trans t2).trans t3
  have r3 : AgR X.K (upd B1 dx (.own a)) (some (.ref a) :: σ) (.o 0 :: as.map shA) (.ref a :: vs) := ⟨_, _, rfl, rfl, (r1.mono t2.sub.ex).shift⟩
  have key : spM X.K n F (.ref a :: vs) (upd (upd H1 dx (.own a)) a (.ins (He.ga X.K x) dx [])) (fun v H2 => v = .non ∧ Q (.ref a) H2) (WE (Wn.mk (fun cls d σ' H' => W.w cls d σ'.tail H') (List.range (σ.length + 1))).w (some (.ref a) :: σ)) := by
    refine run_call (W := ⟨fun cls d σ' H' => W.w cls d σ'.tail H', List.range (σ.length + 1)⟩) kp s3 r3 ?_
    show Go _ _ _ _ _ _ (callR n F (.o 0 :: as.map shA) (.obj x [] :: ρ1)) _
    unfold Go at h ⊢
    cases ec : callR n F (.o 0 :: as.map shA) (.obj x [] :: ρ1) with
    | bad => rw [ec] at h; exact h.elim
    | exc ex ρ2 =>
      rw [ec] at h
      intro σ' H' B' cls d sb kf pn st er
      have eσ : σ' = some (.ref a) :: σ := by
        apply List.ext_getElem?
        intro i
        by_cases lt : i < σ.length + 1
        · exact pn.at_ i (List.mem_range.mpr lt)
        · have := pn.len
          rw [List.getElem?_eq_none (by rw [this]; simp; omega), List.getElem?_eq_none (by simp; omega)]
      subst eσ
      cases ρ2 with
      | nil => exact h.elim
      | cons s0 ρ2 =>
        obtain ⟨B2, b2, s5⟩ := st.pop
        exact h σ H' B2 cls d (t123.sub.trans (sb.trans b2)) (fun b z => (kf b z).trans (t123.keep b z)) .refl s5 (er.mono b2.ex)
    | ok r ρ2 =>
      rw [ec] at h
      cases r with
      | imm dd =>
        cases dd with
        | non =>
          cases ρ2 with
          | nil => exact h.elim
          | cons s0 ρ2 =>
            intro v B' H' t' s'
            obtain ⟨fp, sf⟩ := id s'
            obtain ⟨v', g1, g2⟩ := sf.imm (i := 0) (d := .non) rfl
            simp at g1
            subst g1
            obtain ⟨B2, b2, s5⟩ := s'.pop
            exact ⟨g2.non_inv, h _ B2 H' ((t123.trans t').trans (.of b2)) s5⟩
        | _ => exact h.elim
      | _ => exact h.elim
  exact key
end
end EE
end

section
set_option Elab.async false
set_option linter.all false
set_option maxRecDepth 100000
set_option maxHeartbeats 4000000
/-! E22: what a law draws from its script: the pot -/
namespace EE
open PySem PySem.Spec PyProof.Rows L2
/-! ### a reading that gives v, the heap as it is -/
def Vl (te : TE) (σ : L2.St) (H : Hp) (v : V) : Prop := ∀ Q : VK, Q v H → te σ H Q
section
variable {K : PySem.W.Frag} {σ : L2.St} {H : Hp} {ta tb : TE}
theorem vl_var {i : Nat} {v : V} (h : σ[i]? = some (some v)) : Vl (tVar i) σ H v := fun Q q => ⟨v, h, q⟩
theorem vl_c {v : V} : Vl (tC v) σ H v := fun Q q => q
theorem vl_I0 {g : Int → Int → V} {i j : Int} (h1 : Vl ta σ H (.int i)) (h2 : Vl tb σ H (.int j)) : Vl (tOp (rI0 g) ta tb) σ H (g i j) := fun Q q => h1 _ (h2 _ ⟨i, j, rfl, rfl, q⟩)
theorem vl_I {C : Int → Int → Prop} {g : Int → Int → V} {i j : Int} (h1 : Vl ta σ H (.int i)) (h2 : Vl tb σ H (.int j)) (c : C i j) : Vl (tOp (rI C g) ta tb) σ H (g i j) := fun Q q => h1 _ (h2 _ ⟨i, j, rfl, rfl, c, q⟩)
theorem vl_ix {p : Addr} {xs : List V} {i : Int} {v : V} (h1 : Vl ta σ H (.ref p)) (h2 : Vl tb σ H (.int i)) (h : H p = some (.lst xs)) (e : atI xs i = some v) : Vl (tOp (rIxL K) ta tb) σ H v := fun Q q => h1 _ (h2 _ ⟨p, xs, i, v, rfl, rfl, .inl (.inl h), e, q⟩)
def rInt : List V → Hp → VK → Prop := fun xs H Q => (∃ i, xs = [.int i] ∧ Q (.int i) H) ∨ ∃ k, xs = [.bl k] ∧ Q (.int (if k then 1 else 0)) H
def rLenL (K : PySem.W.Frag) : List V → Hp → VK → Prop := fun xs H Q => ∃ x n, xs = [x] ∧ LenV K x H n ∧ Q (.int n) H
theorem vl_int {i : Int} (h1 : Vl ta σ H (.int i)) : Vl (tCB rInt (tCons ta tNil)) σ H (.int i) := fun Q q => h1 _ (.inl ⟨i, rfl, q⟩)
theorem vl_len {p : Addr} {xs : List V} (h1 : Vl ta σ H (.ref p)) (h : H p = some (.lst xs)) : Vl (tCB (rLenL K) (tCons ta tNil)) σ H (.int xs.length) := fun Q q => h1 _ ⟨.ref p, xs.length, rfl, .inl ⟨xs, .inl (.inl h), rfl⟩, q⟩
end
/-! ### the drawing as a function -/
def mixN (s c : Int) : Int :=
  let n1 := ((s + c * 7919 + 1) * 48271) % 2147483647
  let n2 := (n1 * (n1 / 1009 + 69621)) % 2147483647
  let n3 := (n2 * (n2 / 2003 + 40692 + c)) % 2147483399
  n3 / 16
def takeFn : Fn := fun as => match as with
  | [.pot gs s c m, .imm (.int many)] => if 0 < many ∧ many < 1073741824 then match gs with
      | g :: gs => .ok (.imm (.int (g % many))) [.pot (if g / many = 0 then gs else g / many :: gs) s c m, .non]
      | [] => .ok (.imm (.int (mixN s (c + 1) % many))) [.pot [] s (c + 1) m, .non]
    else .bad
  | _ => .bad
theorem keeps_take : Keeps 2 takeFn := by
  refine ⟨fun as h => ?_, fun as r as' h => ?_, fun as c as' h => ?_⟩
  · unfold takeFn
    split
    · exact absurd rfl h
    · rfl
  · unfold takeFn at h
    split at h
    · split at h
      · split at h <;> cases h
        all_goals
          refine ⟨rfl, fun k a s h1 h2 p => ?_⟩
          match k, h1, h2 with
          | 0, h1, h2 => cases h1; cases p
          | 1, h1, h2 => exact (Option.some.inj h2).symm
      · cases h
    · cases h
  · unfold takeFn at h
    split at h
    · split at h
      · split at h <;> cases h
      · cases h
    · cases h
/-! ### its reading -/
abbrev aI (ta tb : TE) : TE := tOp (rI0 fun i j => .int (i + j)) ta tb
abbrev mI (ta tb : TE) : TE := tOp (rI CMul fun i j => .int (i * j)) ta tb
abbrev dI (ta tb : TE) : TE := tOp (rI CDiv fun i j => .int (i / j)) ta tb
abbrev pI (ta tb : TE) : TE := tOp (rI (fun _ j => 0 < j) fun i j => .int (i % j)) ta tb
abbrev cI (i : Int) : TE := tC (.int i)
abbrev iI (t : TE) : TE := tCB rInt (tCons t tNil)
abbrev xI (K : PySem.W.Frag) (a : TE) (i : Int) : TE := tOp (rIxL K) a (cI i)
abbrev rEqI : R2 := rEq
def tTake (K : PySem.W.Frag) : TS :=
  tSeq (tAsg (xI K (tVar 0) 0) (gName 2)) <|
  tSeq (tIfS (tTest (tOp (rI0 fun i j => .bl (decide (j < i))) (tCB (rLenL K) (tCons (tVar 2) tNil)) (cI 0)))
    (tSeq (tAsg (iI (xI K (tVar 2) 0)) (gName 3)) <|
     tSeq (tAsg (dI (tVar 3) (tVar 1)) (gSub (tVar 2) (cI 0) rSetL)) <|
     tSeq (tIfS (tTest (tOp rEqI (xI K (tVar 2) 0) (cI 0))) (tDrop (tBM K "list" rPopAt (tVar 2) (tCons (cI 0) tNil))) tNext) <|
     tRet (pI (iI (tVar 3)) (tVar 1)))
    tNext) <|
  tSeq (tAsg (aI (xI K (tVar 0) 2) (cI 1)) (gSub (tVar 0) (cI 2) rSetL)) <|
  tSeq (tAsg (pI (iI (mI (aI (aI (xI K (tVar 0) 1) (mI (xI K (tVar 0) 2) (cI 7919))) (cI 1)) (cI 48271))) (cI 2147483647)) (gName 3)) <|
  tSeq (tAsg (pI (iI (mI (tVar 3) (aI (dI (tVar 3) (cI 1009)) (cI 69621)))) (cI 2147483647)) (gName 3)) <|
  tSeq (tAsg (pI (iI (mI (tVar 3) (aI (aI (dI (tVar 3) (cI 2003)) (cI 40692)) (xI K (tVar 0) 2)))) (cI 2147483399)) (gName 3)) <|
  tRet (pI (iI (dI (tVar 3) (cI 16))) (tVar 1))
section
variable {σ : L2.St} {H : Hp} {ta tb : TE} {i j : Int}
theorem vl_a (h1 : Vl ta σ H (.int i)) (h2 : Vl tb σ H (.int j)) : Vl (aI ta tb) σ H (.int (i + j)) := vl_I0 h1 h2
theorem vl_m (h1 : Vl ta σ H (.int i)) (h2 : Vl tb σ H (.int j)) (c : CMul i j) : Vl (mI ta tb) σ H (.int (i * j)) := vl_I h1 h2 c
theorem vl_d (h1 : Vl ta σ H (.int i)) (h2 : Vl tb σ H (.int j)) (c : CDiv i j) : Vl (dI ta tb) σ H (.int (i / j)) := vl_I h1 h2 c
theorem vl_p (h1 : Vl ta σ H (.int i)) (h2 : Vl tb σ H (.int j)) (c : 0 < j) : Vl (pI ta tb) σ H (.int (i % j)) := vl_I h1 h2 c
theorem at_0 {g : Int} {gs : List Int} : atI ((g :: gs).map V.int) 0 = some (V.int g) := by simp [atI, ixN]
theorem mul_k (i j : Int) (h : -(2 ^ 64) < j ∧ j < 2 ^ 64) : CMul i j := .inr h
end
variable [XAd]
omit [XAd] in
theorem take_inv {as : List Slot} (h : takeFn as ≠ .bad) : ∃ gs s c m many, as = [.pot gs s c m, .imm (.int many)] ∧ 0 < many ∧ many < 1073741824 := by
  unfold takeFn at h
  split at h
  · split at h
    · rename_i gs s c m many hm
      exact ⟨gs, s, c, m, many, rfl, hm⟩
    · exact absurd rfl h
  · exact absurd rfl h
omit [XAd] in
theorem mod_small {x k : Int} (h0 : 0 < k) (h1 : k < 2 ^ 64) : CMul (x % k) y := .inl ⟨by have := Int.emod_nonneg x (by omega : k ≠ 0); omega, by have := Int.emod_lt_of_pos x h0; omega⟩
theorem take_pure {K : PySem.W.Frag} {vs : List V} {H : Hp} {Q : VK} {E : XK} (h : spM K 2 takeFn vs H Q E) : tTake K { nx := fun _ H' => Q .non H', rt := Q } (L2.start ["pot", "many", "great", "number"] vs) H := by
  obtain ⟨fr, B, as, hl, st, h⟩ := h
  obtain ⟨gs, s, c, m, many, rfl, hm⟩ := take_inv (as := as) fun e => by rw [e] at h; exact h
  obtain ⟨fp, sf⟩ := id st
  obtain ⟨w0, e0, a, g, rfl, ag, f0, ha, hg⟩ := sf.slot 0 _ rfl
  obtain ⟨w1, e1, f1, v1, rfl, r1⟩ := sf.slot 1 _ rfl
  match vs, hl, e0, e1 with
  | [x0, x1], _, e0, e1 =>
    have q0 : x0 = .ref a := Option.some.inj (Option.some.inj e0)
    have q1 : x1 = v1 := Option.some.inj (Option.some.inj e1)
    subst q0
    subst q1
    have := r1.int_inv
    subst this
    have fin : ∀ (gs' : List Int) (c' r : Int) (H' : Hp), (∀ b, b ≠ a → b ≠ g → H' b = H b) → H' a = some (.lst [.ref g, .int s, .int c', .int m]) → H' g = some (.lst (gs'.map V.int)) →
        (∀ v B' H', To fr B H B' H' → St K fr B' (some v :: [V.ref a, V.int many].map some) H' (.imm (.int r) :: [.pot gs' s c' m, .non]) → Q v H') → Q (.int r) H' := fun gs' c' r H' k1 k2 k3 q => by
      obtain ⟨s2, t2⟩ := sf.upd (i := 0) (H' := H') (s' := .pot gs' s c' m) (Nat.succ_pos _) rfl (fun b n => k1 b (fun z => n ((f0 b).mpr (.inl z))) fun z => n ((f0 b).mpr (.inr z))) (fun b z => by
        rcases (f0 b).mp z with rfl | rfl
        · rw [k2]; simp
        · rw [k3]; simp) ⟨a, g, rfl, ag, f0, k2, k3⟩
      have s3 := St.push ⟨fp, s2⟩ (d := .int r) .int
      obtain ⟨B4, b4, s4⟩ := s3.drop (i := 2)
      exact q _ B4 H' (t2.trans (.of b4)) s4
    refine vl_ix (xs := [.ref g, .int s, .int c, .int m]) (v := .ref g) (vl_var rfl) vl_c ha rfl _ ?_
    refine vl_I0 (vl_len (p := g) (xs := gs.map V.int) (vl_var rfl) hg) vl_c _ ⟨_, rfl, ?_⟩
    match gs with
    | [] =>
      have ef : takeFn [.pot [] s c m, .imm (.int many)] = .ok (.imm (.int (mixN s (c + 1) % many))) [.pot [] s (c + 1) m, .non] := by
        exact if_pos hm
      rw [ef] at h
      dsimp only
      rw [if_neg (by simp)]
      refine vl_I0 (vl_ix (xs := [.ref g, .int s, .int c, .int m]) (v := .int c) (vl_var rfl) vl_c ha rfl) vl_c _ ?_
      refine ⟨_, rfl, a, [.ref g, .int s, .int c, .int m], 2, 2, rfl, rfl, ha, rfl, ?_⟩
      have hb : (upd H a (.lst ([V.ref g, .int s, .int c, .int m].set 2 (.int (c + 1))))) a = some (.lst [.ref g, .int s, .int (c + 1), .int m]) := upd_same
      refine vl_p (vl_int (vl_m (vl_a (vl_a (vl_ix (v := .int s) (vl_var rfl) vl_c hb rfl) (vl_m (vl_ix (v := .int (c + 1)) (vl_var rfl) vl_c hb rfl) vl_c (mul_k _ _ (by decide)))) vl_c) vl_c (mul_k _ _ (by decide)))) vl_c (by decide) _ ?_
      refine vl_p (vl_int (vl_m (vl_var rfl) (vl_a (vl_d (vl_var rfl) vl_c ⟨by decide, by decide⟩) vl_c) (mod_small (by decide) (by decide)))) vl_c (by decide) _ ?_
      refine vl_p (vl_int (vl_m (vl_var rfl) (vl_a (vl_a (vl_d (vl_var rfl) vl_c ⟨by decide, by decide⟩) vl_c) (vl_ix (v := .int (c + 1)) (vl_var rfl) vl_c hb rfl)) (mod_small (by decide) (by decide)))) vl_c (by decide) _ ?_
      refine vl_p (vl_int (vl_d (vl_var rfl) vl_c ⟨by decide, by decide⟩)) (vl_var rfl) hm.1 _ ?_
      exact fin [] (c + 1) _ _ (fun b n1 n2 => upd_ne n1) hb (by rw [upd_ne (Ne.symm ag)]; exact hg) h
    | g0 :: gs =>
      have ef : takeFn [.pot (g0 :: gs) s c m, .imm (.int many)] = .ok (.imm (.int (g0 % many))) [.pot (if g0 / many = 0 then gs else g0 / many :: gs) s c m, .non] := by
        exact if_pos hm
      rw [ef] at h
      dsimp only
      rw [if_pos (by simp)]
      refine vl_int (vl_ix (xs := (g0 :: gs).map V.int) (v := .int g0) (vl_var rfl) vl_c hg at_0) _ ?_
      refine vl_d (vl_var rfl) (vl_var rfl) hm _ ?_
      refine ⟨_, rfl, g, (g0 :: gs).map V.int, 0, 0, rfl, rfl, hg, by simp [ixN], ?_⟩
      have hb : (upd H g (.lst (((g0 :: gs).map V.int).set 0 (.int (g0 / many))))) g = some (.lst ((g0 / many :: gs).map V.int)) := upd_same
      have hba : (upd H g (.lst (((g0 :: gs).map V.int).set 0 (.int (g0 / many))))) a = some (.lst [.ref g, .int s, .int c, .int m]) := by rw [upd_ne ag]; exact ha
      refine vl_ix (v := .int (g0 / many)) (vl_var rfl) vl_c hb at_0 _ ?_
      refine vl_c _ ⟨by rfl, _, rfl, ?_⟩
      dsimp only
      by_cases z : g0 / many = 0
      · rw [if_pos (decide_eq_true (by rw [z]))]
        refine ⟨_, rfl, .inl ⟨rfl, _, .inl (.inl hb)⟩, ?_⟩
        show rPopAt (V.ref g) [V.int 0] _ _
        refine ⟨g, _, 0, 0, _, rfl, rfl, hb, by decide, by decide, by simp [seqIndex?], rfl, ?_⟩
        refine vl_p (vl_int (vl_var rfl)) (vl_var rfl) hm.1 _ ?_
        rw [if_pos z] at h
        exact fin gs c _ _ (fun b n1 n2 => by rw [upd_ne n2, upd_ne n2]) (by rw [upd_ne ag]; exact hba) (by rw [upd_same]; rfl) h
      · rw [if_neg (by
          intro y
          have := of_decide_eq_true y
          injection this with this
          exact z this)]
        refine vl_p (vl_int (vl_var rfl)) (vl_var rfl) hm.1 _ ?_
        rw [if_neg z] at h
        exact fin (g0 / many :: gs) c _ _ (fun b n1 n2 => upd_ne n2) hba hb h
end EE
end

section
set_option Elab.async false
set_option linter.all false
set_option maxRecDepth 100000
set_option maxHeartbeats 4000000
/-! E23: the pot made; * // ** on numbers; written dicts -/
namespace EE
open PySem PySem.Spec PyProof.Rows L2
variable [XAd]
section
variable {K : PySem.W.Frag} {B B' H H' : Hp} {σ σ' : L2.St} {ρ ρ' : List Slot} {fp : Nat → Ad} {fr : Ad}
theorem St.ownPot {g p : Addr} {gs : List Int} {ds : List D} {s0 c m : Int} (s : St K fr B (some (.ref g) :: σ) H (.lst ds :: ρ)) (hg : ∀ xs, RepL K B ds xs → xs = gs.map V.int) (h : H p = none) :
    St K fr B (some (.ref p) :: σ) (upd H p (.lst [.ref g, .int s0, .int c, .int m])) (.pot gs s0 c m :: ρ) ∧ To fr B H B (upd H p (.lst [.ref g, .int s0, .int c, .int m])) := by
  obtain ⟨fp, s⟩ := s
  obtain ⟨w, e0, a, xs, e1, q1, q2, q3⟩ := s.slot 0 _ rfl
  have e0 : some (V.ref g) = w := Option.some.inj e0
  subst e0
  cases e1
  have ex := hg _ q3
  subst ex
  have np : ∀ i b, fp i b → b ≠ p := fun i b z q => s.there i b z (by rw [q]; exact h)
  have nf : ∀ b, fr b → b ≠ p := fun b z q => s.frt b z (by rw [q]; exact h)
  have gp : g ≠ p := np 0 g ((q1 g).mpr rfl)
  have eF : ∀ b, frF fr (consF (fun b => b = p ∨ b = g) fun i => fp (i + 1)) b ↔ (frF fr fp b ∨ b = p) := fun b => by
    constructor
    · rintro (z | ⟨i, z⟩)
      · exact .inl (.inl z)
      · cases i with
        | zero =>
          rcases z with z | z
          · exact .inr z
          · exact .inl (.inr ⟨0, (q1 b).mpr z⟩)
        | succ i => exact .inl (.inr ⟨i + 1, z⟩)
    · rintro ((z | ⟨i, z⟩) | z)
      · exact .inl z
      · cases i with
        | zero => exact .inr ⟨0, .inr ((q1 b).mp z)⟩
        | succ i => exact .inr ⟨i + 1, z⟩
      · exact .inr ⟨0, .inl z⟩
  have eb : B = hid (upd H p (.lst [.ref g, .int s0, .int c, .int m])) (frF fr (consF (fun b => b = p ∨ b = g) fun i => fp (i + 1))) := by
    rw [s.base]
    funext b
    by_cases q : frF fr fp b
    · rw [hid_no q, hid_no ((eF b).mpr (.inl q))]
    · rw [hid_at q]
      by_cases e : b = p
      · subst e; rw [hid_no ((eF b).mpr (.inr rfl)), h]
      · rw [hid_at fun z => ((eF b).mp z).elim q e, upd_ne e]
  refine ⟨⟨consF (fun b => b = p ∨ b = g) fun i => fp (i + 1), ⟨by simpa using s.len, eb, ?_, ?_, ?_, ?_, ?_, ?_⟩⟩, ⟨.refl B, fun b z => upd_ne (nf b z)⟩⟩
  · intro i j b z1 z2
    cases i with
    | zero =>
      cases j with
      | zero => rfl
      | succ j =>
        rcases z1 with z1 | z1
        · exact absurd z1 (np (j + 1) b z2)
        · have := s.dis 0 (j + 1) b ((q1 b).mpr z1) z2; omega
    | succ i =>
      cases j with
      | zero =>
        rcases z2 with z2 | z2
        · exact absurd z2 (np (i + 1) b z1)
        · have := s.dis 0 (i + 1) b ((q1 b).mpr z2) z1; omega
      | succ j => exact s.dis _ _ _ z1 z2
  · intro i b z
    cases i with
    | zero =>
      rcases z with rfl | rfl
      · rw [upd_same]; simp
      · rw [upd_ne gp]; exact s.there 0 b ((q1 b).mpr rfl)
    | succ i => rw [upd_ne (np _ b z)]; exact s.there _ b z
  · intro b z
    rw [upd_ne (nf b z)]; exact s.frt b z
  · intro i b z q
    cases i with
    | zero =>
      rcases z with z | z
      · exact nf b q z
      · exact s.frd 0 b ((q1 b).mpr z) q
    | succ i => exact s.frd _ b z q
  · intro i hi b z
    cases i with
    | zero => simp at hi
    | succ i => exact s.out (i + 1) (by simpa using hi) b z
  · intro i sl' hi
    cases i with
    | zero =>
      have : Slot.pot gs s0 c m = sl' := Option.some.inj hi
      subst this
      exact ⟨_, rfl, p, g, rfl, Ne.symm gp, fun b => Iff.rfl, upd_same, by rw [upd_ne gp]; exact q2⟩
    | succ i =>
      obtain ⟨w, h1, h2⟩ := s.slot (i + 1) sl' (by simpa using hi)
      exact ⟨w, by simpa using h1, h2.mono (Ex.refl B) fun b z => upd_ne (np (i + 1) b z)⟩
end
def intsD : List D → Option (List Int)
  | [] => some []
  | .int i :: ds => (intsD ds).map (i :: ·)
  | _ :: _ => none
theorem intsD_inv : ∀ {ds : List D} {xs : List Int}, intsD ds = some xs → ds = xs.map D.int
  | [], _, e => by cases e; rfl
  | .int i :: ds, _, e => by
    unfold intsD at e
    obtain ⟨ys, e1, rfl⟩ := Option.map_eq_some_iff.mp e
    rw [intsD_inv e1]; rfl
  | .non :: _, _, e => by cases e
  | .bl _ :: _, _, e => by cases e
  | .str _ :: _, _, e => by cases e
  | .tup _ :: _, _, e => by cases e
  | .lst _ :: _, _, e => by cases e
  | .dct _ :: _, _, e => by cases e
  | .ins _ _ :: _, _, e => by cases e
theorem rep_ints {K : PySem.W.Frag} {B : Hp} : ∀ {bs : List Int} {xs : List V}, RepL K B (bs.map D.int) xs → xs = bs.map V.int
  | [], _, h => h.nil_inv
  | b :: bs, _, h => by
    obtain ⟨y, ys, rfl, r, t⟩ := h.cons_inv
    rw [r.int_inv, rep_ints t]
    rfl
section
variable {X : Cx} {W : Wn} {pos : Pos}
def mPotNew (i j k : Nat) : M Slot := fun ρ => match ρ[i]?, ρ[j]?, ρ[k]? with
  | some (.lst ds), some (.imm (.int s)), some (.imm (.int m)) => match intsD ds with
      | some gs => .ok (.pot gs s 0 m) (ρ.set i .non)
      | none => .bad
  | _, _, _ => .bad
theorem do_potNew (i j k : Nat) {x y z : Str} {p1 p2 p3 p4 : Pos} {k0 : Nat} (nij : i ≠ j := by decide) (nik : i ≠ k := by decide) (hx : X.N[i]? = some x := by rfl) (hy : X.N[j]? = some y := by rfl) (hz : X.N[k]? = some z := by rfl)
    (vx : Vis X.env.scope x := by first | exact Or.inl rfl | exact Or.inr (Or.inl rfl) | exact Or.inr (Or.inr rfl)) (vy : Vis X.env.scope y := by first | exact Or.inl rfl | exact Or.inr (Or.inl rfl) | exact Or.inr (Or.inr rfl)) (vz : Vis X.env.scope z := by first | exact Or.inl rfl | exact Or.inr (Or.inl rfl) | exact Or.inr (Or.inr rfl))
    (dx : (x == ("__debug__" : Str)) = false := by decide) (cx : (x == ("__classdict__" : Str)) = false := by decide) (dy : (y == ("__debug__" : Str)) = false := by decide) (cy : (y == ("__classdict__" : Str)) = false := by decide) (dz : (z == ("__debug__" : Str)) = false := by decide) (cz : (z == ("__classdict__" : Str)) = false := by decide)
    (s4 : starEach [.Name z p4] X.env = (false, eval (.Name z p4) X.env) :: starEach [] X.env := by rfl) (s3 : starEach [.Constant (.int 0) k0 p3, .Name z p4] X.env = (false, eval (.Constant (.int 0) k0 p3) X.env) :: starEach [.Name z p4] X.env := by rfl)
    (s2 : starEach [.Name y p2, .Constant (.int 0) k0 p3, .Name z p4] X.env = (false, eval (.Name y p2) X.env) :: starEach [.Constant (.int 0) k0 p3, .Name z p4] X.env := by rfl) (s1 : starEach [.Name x p1, .Name y p2, .Constant (.int 0) k0 p3, .Name z p4] X.env = (false, eval (.Name x p1) X.env) :: starEach [.Name y p2, .Constant (.int 0) k0 p3, .Name z p4] X.env := by rfl) :
    DO X W (.List [.Name x p1, .Name y p2, .Constant (.int 0) k0 p3, .Name z p4] pos) (mPotNew i j k) := by
  refine ⟨_, pe_lst (pa_cons (pe_var hx vx dx cx) (pa_cons (pe_var hy vy dy cy) (pa_cons pe_int (pa_cons (pe_var hz vz dz cz) pa_nil s4) s3) s2) s1), fun fr B σ H ρ Q s h => ?_⟩
  unfold Go mPotNew at h
  cases e1 : ρ[i]? with
  | none => simp only [e1] at h; exact h.elim
  | some s1 =>
    cases e2 : ρ[j]? with
    | none => rw [e1, e2] at h; cases s1 <;> exact h.elim
    | some s2 =>
      cases e3 : ρ[k]? with
      | none => rw [e1, e2, e3] at h; cases s1 <;> first | exact h.elim | (cases s2 <;> first | exact h.elim | (rename_i d; cases d <;> exact h.elim))
      | some s3 =>
        rw [e1, e2, e3] at h
        cases s1 with
        | lst ds =>
          cases s2 with
          | imm d2 =>
            cases d2 with
            | int s0 =>
              cases s3 with
              | imm d3 =>
                cases d3 with
                | int m =>
                  simp only at h
                  cases e4 : intsD ds with
                  | none => rw [e4] at h; exact h.elim
                  | some gs =>
                    rw [e4] at h
                    have ed := intsD_inv e4
                    subst ed
                    obtain ⟨fp, sf⟩ := id s
                    obtain ⟨w1, f1, g, xs, rfl, g1, g2, g3⟩ := sf.slot i _ e1
                    obtain ⟨v2, f2, r2⟩ := sf.imm e2
                    obtain ⟨v3, f3, r3⟩ := sf.imm e3
                    have := r2.int_inv; subst this
                    have := r3.int_inv; subst this
                    obtain ⟨w, h1, B2, b2, st2⟩ := s.take e1
                    rw [f1] at h1
                    cases h1
                    refine ⟨_, f1, _, f2, _, f3, (by show 4 ≤ sizeLine; decide), fun p hp => ?_⟩
                    obtain ⟨st3, t3⟩ := st2.ownPot (p := p) (s0 := s0) (c := 0) (m := m) (fun xs r => rep_ints r) hp
                    exact h _ _ _ ((To.of b2).trans t3) st3
                | _ => exact h.elim
              | _ => exact h.elim
            | _ => exact h.elim
          | _ => exact h.elim
        | _ => exact h.elim
/-! ### * // ** -/
def cMul (i j : Int) : Bool := decide ((-(2 ^ 64) < i ∧ i < 2 ^ 64) ∨ (-(2 ^ 64) < j ∧ j < 2 ^ 64))
def fMul := fIc cMul fun i j => .int (i * j)
theorem o_mul : Op2 X (rI CMul fun i j => .int (i * j)) fMul := o_Ic (fun i j h => by unfold cMul at h; have h2 := of_decide_eq_true h; exact h2) fun _ _ _ => .int
def cDiv (i j : Int) : Bool := decide (0 < j ∧ j < 1073741824)
def fDiv := fIc cDiv fun i j => .int (i / j)
theorem o_div : Op2 X (rI CDiv fun i j => .int (i / j)) fDiv := o_Ic (fun i j h => by unfold cDiv at h; have h2 := of_decide_eq_true h; exact h2) fun _ _ _ => .int
def cPow (i j : Int) : Bool := decide (0 ≤ j ∧ j ≤ 1000 ∧ i.natAbs < 1000000)
def fPow := fIc cPow fun i j => .int (i ^ j.toNat)
theorem o_pow : Op2 X (rI CPow fun i j => .int (i ^ j.toNat)) fPow := o_Ic (fun i j h => by
  have h := of_decide_eq_true h
  exact ⟨h.1, by omega, by omega⟩) fun _ _ _ => .int
/-! ### a written dict with texts as keys -/
def DPs (X : Cx) (W : Wn) (pos : Pos) (keys : List (Option Expr)) (values : List Expr) (m : M (List (Key × D))) : Prop :=
  ∃ trs, PPs X pos keys values trs ∧ ∀ fr B σ H ρ (Q : List (V × V) → Hp → Prop), St X.K fr B σ H ρ → Go X.K W fr σ B H (m ρ) (fun kvs ρ' => ∀ ws B' H', To fr B H B' H' → St X.K fr B' σ H' ρ' → RepK X.K B' kvs ws → Q (ws.map fun kv => (kV kv.1, kv.2)) H') → tPairs trs σ H Q
theorem dps_nil : DPs X W pos [] [] (M.pure []) := ⟨_, pps_nil, fun fr B σ H ρ Q s h => Go.pure h [] B H .refl s .nil⟩
theorem dps_cons {z : Str} {j : Nat} {p2 : Pos} {ks : List (Option Expr)} {v : Expr} {vs : List Expr} {mv : M D} {m : M (List (Key × D))} (hv : DE X W v mv) (hr : DPs X W pos ks vs m) :
    DPs X W pos (some (.Constant (.str z) j p2) :: ks) (v :: vs) (mv.bind fun d => m.bind fun kvs => M.pure ((.inr z, d) :: kvs)) := by
  obtain ⟨tv, pv, kv⟩ := hv
  obtain ⟨tr, pr, kr⟩ := hr
  refine ⟨_, pps_cons pe_str pv pr, fun fr B σ H ρ Q s h => ?_⟩
  refine kv fr B σ H ρ _ s (h.step fun d1 ρ1 h x B1 H1 t1 s1 r1 => ?_)
  refine kr fr B1 σ H1 ρ1 _ s1 (Go.step (h.later t1 fun _ _ q => q) fun kvs ρ2 h ws B2 H2 t2 s2 r2 => ?_)
  exact h ((.inr z, x) :: ws) B2 H2 (t1.trans t2) s2 (.cons (r1.mono t2.sub.ex) r2)
def mergeD (kvs more : List (Key × D)) : List (Key × D) := more.foldl (fun acc kv => putD acc kv.1 kv.2) kvs
theorem rep_merge {K : PySem.W.Frag} {B : Hp} : ∀ {more : List (Key × D)} {ws : List (Key × V)} {kvs : List (Key × D)} {us : List (Key × V)}, RepK K B more ws → RepK K B kvs us → RepK K B (mergeD kvs more) (mergeK us ws)
  | [], _, _, _, h, g => by rw [h.nil_inv]; exact g
  | (k, d) :: more, _, _, _, h, g => by
    obtain ⟨y, ys, rfl, r, t⟩ := h.cons_inv
    show RepK K B (mergeD (putD _ k d) more) (mergeK (putK _ k y) ys)
    exact rep_merge t (g.put r)
def mDisp (m : M (List (Key × D))) : M D := m.bind fun kvs => M.of (if kvs.length ≤ 15 then some (.dct (mergeD [] kvs)) else none)
theorem de_disp {keys : List (Option Expr)} {values : List Expr} {m : M (List (Key × D))} (h : DPs X W pos keys values m) (hall : keys.all (·.isSome) = true := by rfl) (hl : keys.length = values.length := by rfl) (h0 : keys ≠ [] := by exact List.cons_ne_nil _ _) (h15 : keys.length ≤ 15 := by decide) :
    DE X W (.Dict keys values pos) (mDisp m) := by
  obtain ⟨trs, pp, k⟩ := h
  refine ⟨_, pe_disp pp hall hl h0 h15, fun fr B σ H ρ Q s h p hp => ?_⟩
  have nf : ¬ fr p := fun z => by
    obtain ⟨fp, sf⟩ := s
    exact sf.frt p z hp
  obtain ⟨s1, t1⟩ := s.hide (o := .dK []) hp
  refine k (orF fr p) B σ (upd H p (.dK [])) ρ _ s1 ?_
  have h2 := h.step (Q' := fun kvs ρ' => Go X.K W fr σ B H ((M.of (if kvs.length ≤ 15 then some (D.dct (mergeD [] kvs)) else none)) ρ') _) fun kvs ρ' z => z
  refine Res.post_mono h2 (fun kvs ρ' g ws B2 H2 t2 s2 r2 => ?_) fun c ρ' q σ' H' B' cls dx e kf pn st er => ?_
  · obtain ⟨d, e, q⟩ := Go.of g
    split at e
    · rename_i hz
      cases e
      have hp2 : H2 p = some (.dK []) := (t2.keep p (.inr rfl)).trans upd_same
      refine ⟨hp2, ws, rfl, by rw [r2.length]; exact hz, ?_⟩
      obtain ⟨s3, t3⟩ := s2.frUpd (o := .dK (mergeK [] ws)) nf
      obtain ⟨s4, t4⟩ := s3.show_ nf upd_same
      have f1 : ∀ {B H B' H' : Hp}, To (orF fr p) B H B' H' → To fr B H B' H' := fun t => ⟨t.sub, fun b z => t.keep b (.inl z)⟩
      exact q _ _ _ ((t1.trans (f1 t2)).trans (t3.trans t4)) s4 (.dct ⟨_, upd_same, .inl rfl⟩ ((rep_merge r2 .nil).mono t4.sub.ex))
    · cases e
  · have hp2 : H' p = some (.dK []) := (kf p (.inr rfl)).trans upd_same
    obtain ⟨s4, t4⟩ := st.show_ nf hp2
    exact q σ' H' _ cls dx (t1.sub.trans (e.trans t4.sub)) (fun b z => (kf b (.inl z)).trans (t1.keep b z)) pn s4 (er.mono t4.sub.ex)
end
end EE
end

section
set_option Elab.async false
set_option linter.all false
set_option maxRecDepth 100000
set_option maxHeartbeats 4000000
/-! E24: what the printed derivations name -/
namespace EE
open PySem PySem.Spec PyProof.Rows L2
variable [XAd]
section
variable {X : Cx} {W : Wn} {P : Program} {w : World} {K : PySem.W.Frag} {mg : Str → Option Value} {base : Heap} {a b c : Expr} {pos : Pos}
theorem CxOk.hu1 {k : Nat} (C : CxOk X W P w K mg base k) : X.A.units + 1 < cLine := by have := C.room.units; omega
theorem CxOk.hu64 {k : Nat} (C : CxOk X W P w K mg base k) : X.A.units + 64 < cLine := C.room.units
theorem CxOk.tr {k : Nat} (C : CxOk X W P w K mg base k) {Wx : WX} {Pn : List Nat} {pn : List (Addr × Obj)} {xe : Value → Shared → Prop} (tk : Takes (X.tr pn xe) Wx) : CxOk (X.tr pn xe) ⟨Wx, Pn⟩ P w K mg base k :=
  ⟨C.prog, C.w_, C.K_, C.mg_, C.base_, C.room, C.calm, tk⟩
theorem de_chain {op op' : CmpOp} {r r' : R2} {f g : D → D → Option D} {ma mb mc : M D} (hr : OpR X (compareOp op) r) (hr' : OpR X (compareOp op') r') (ho : Op2 X r f) (ho' : Op2 X r' g) (ha : DE X W a ma) (hb : DE X W b mb) (hc : DE X W c mc) (hm : lastMarks [op, op'] [b, c] = false := by with_unfolding_all rfl) :
    DE X W (.Compare a [op, op'] [b, c] pos) (mCh f g ma mb mc) := by
  obtain ⟨ta, pa, ka⟩ := ha
  obtain ⟨tb, pb, kb⟩ := hb
  obtain ⟨tc, pc, kc⟩ := hc
  refine ⟨_, pe_chain hr hr' pa pb pc hm, fun fr B σ H ρ Q s h => ?_⟩
  refine ka fr B σ H ρ _ s (h.step fun d1 ρ1 h x B1 H1 t1 s1 r1 => ?_)
  refine kb fr B1 σ H1 ρ1 _ s1 (Go.step (h.later t1 fun _ _ q => q) fun d2 ρ2 h y B2 H2 t2 s2 r2 => ?_)
  obtain ⟨k, e, h⟩ := Go.of (h.step fun _ _ h => h)
  obtain ⟨d3, e1, e2⟩ := Option.bind_eq_some_iff.mp e
  cases isBl_inv e2
  refine ho B2 H2 d1 d2 _ x y _ s2.sub (r1.mono t2.sub.ex) r2 e1 fun v B3 H3 al r3 => ⟨k, r3.bl_inv, ?_⟩
  obtain ⟨s3, t3⟩ := al.st s2
  cases k with
  | true =>
    rw [if_pos rfl]
    refine kc fr B3 σ H3 ρ2 _ s3 (Go.step (Go.later (t2.trans t3) (show Go X.K W fr σ B1 H1 ((mc.bind fun c => M.of (g d2 c)) ρ2) _ from h) fun _ _ q => q) fun d4 ρ4 h z B4 H4 t4 s4 r4 => ?_)
    obtain ⟨d, e5, q⟩ := h.of
    refine ho' B4 H4 d2 d4 d y z Q s4.sub (r2.mono (t3.trans t4).sub.ex) r4 e5 fun v' B5 H5 al2 r5 => ?_
    obtain ⟨s5, t5⟩ := al2.st s4
    exact q v' B5 H5 ((((t1.trans t2).trans t3).trans t4).trans t5) s5 r5
  | false =>
    rw [if_neg Bool.false_ne_true]
    exact (Go.pure h) _ B3 H3 ((t1.trans t2).trans t3) s3 .bl
def mFzO (m : M Slot) : M D := m.bind fun s => M.of (frzO s)
theorem de_fzO {e : Expr} {m : M Slot} (h : DO X W e m) : DE X W e (mFzO m) := by
  obtain ⟨t, p, k⟩ := h
  refine ⟨_, p, fun fr B σ H ρ Q s h => ?_⟩
  refine k fr B σ H ρ _ s (h.step fun sl ρ1 h v B1 H1 t1 s1 => ?_)
  obtain ⟨d, e, q⟩ := h.of
  obtain ⟨B2, sb, s2, r2⟩ := s1.topO e
  exact q v B2 H1 (t1.trans (.of sb)) s2 r2
end
end EE
end

section
set_option Elab.async false
set_option linter.all false
set_option maxRecDepth 100000
set_option maxHeartbeats 4000000
/-! E25: standing values in more forms, constants of the module -/
namespace EE
open PySem PySem.Spec PyProof.Rows L2
theorem bt_len : bootBuiltins "len" = some (.builtin "len") := by first | boot_by_name | rfl | kernel_rfl
theorem bt_all : bootBuiltins "all" = some (.builtin "all") := by first | boot_by_name | rfl | kernel_rfl
theorem bt_any : bootBuiltins "any" = some (.builtin "any") := by first | boot_by_name | rfl | kernel_rfl
theorem bt_sorted : bootBuiltins "sorted" = some (.builtin "sorted") := by first | boot_by_name | rfl | kernel_rfl
theorem bt_abs : bootBuiltins "abs" = some (.builtin "abs") := by first | boot_by_name | rfl | kernel_rfl
theorem bt_tuple : bootBuiltins "tuple" = some (.type "tuple") := by first | boot_by_name | rfl | kernel_rfl
theorem bt_list : bootBuiltins "list" = some (.type "list") := by first | boot_by_name | rfl | kernel_rfl
theorem bt_dict : bootBuiltins "dict" = some (.type "dict") := by first | boot_by_name | rfl | kernel_rfl
theorem bt_int : bootBuiltins "int" = some (.type "int") := by first | boot_by_name | rfl | kernel_rfl
variable [XAd]
section
variable {X : Cx} {W : Wn} {K : PySem.W.Frag} {B H : Hp} {a b : Expr} {pos : Pos}
theorem de_gstr {x z : Str} (h : ∃ t, X.mg x = some (.str z t)) (hg : Gl X x := by rfl) (hd : (x == ("__debug__" : Str)) = false := by decide) : DE X W (.Name x pos) (M.pure (.str z)) := by
  obtain ⟨t, h⟩ := h
  exact de_glob (v := .str z) h ⟨t, rfl⟩ (fun B => .str) hg hd
theorem de_gref {x : Str} {d : D} (h : X.mg x = some (.ref (He.ga X.K x))) (r : ∀ B, Rep X.K B d (.ref (He.ga X.K x))) (hg : Gl X x := by rfl) (hd : (x == ("__debug__" : Str)) = false := by decide) : DE X W (.Name x pos) (M.pure d) :=
  de_glob h (v := .ref (He.ga X.K x)) rfl r hg hd
theorem dv_const {d : D} {e : Expr} {v : V} (h : PE X e (tC v)) (r : ∀ B, Rep X.K B d v) : DV X e (fun _ => some d) :=
  ⟨_, h, fun fr B σ H ρ d' s e => by cases e; exact ⟨v, r B, fun B2 H2 Q ex sb q => q⟩⟩
theorem dv_int {i : Int} {j : Nat} : DV X (.Constant (.int i) j pos) (fun _ => some (.int i)) := dv_const pe_int fun _ => .int
theorem dv_str {i : Str} {j : Nat} : DV X (.Constant (.str i) j pos) (fun _ => some (.str i)) := dv_const pe_str fun _ => .str
/-- subscripts without a new object -/
def fIy (a b : D) : Option D := (fIxT a b).or ((fIxL a b).or (fIxD a b))
def rIy (K : PySem.W.Frag) : R2 := fun x y H Q => rIxT K x y H Q ∨ (rIxL K x y H Q ∨ rIxDct x y H Q)
theorem ix_y (hu : X.A.units + 1 < cLine) : IxR X (rIy X.K) := IxR.or ix_tup (IxR.or ix_list (ix_dct hu))
theorem o_iy {f : D → D → Option D} {r : R2} (ho : Op2 X r f) {B H : Hp} {a b d : D} {x y : V} {Q : VK} (sb : Sub B H) (ra : Rep X.K B a x) (rb : Rep X.K B b y) (e : f a b = some d) (hr : ∀ (Q Q' : VK), r x y H Q → (∀ v H', Q v H' → Q' v H') → r x y H Q') : r x y H fun v H' => ∃ B', Al B H B' H' ∧ Rep X.K B' d v :=
  ho B H a b d x y _ sb ra rb e fun v B' H' al rv => ⟨B', al, rv⟩
def sIx (f g : List Slot → Option D) : List Slot → Option D := fun ρ => (f ρ).bind fun a => (g ρ).bind fun b => fIy a b
theorem iy_at {B H : Hp} {da db d : D} {x y : V} (sb : Sub B H) (ra : Rep K B da x) (rb : Rep K B db y) (e : fIy da db = some d) : ∃ v, Rep K B d v ∧ ∀ B2 H2 (Q : VK), Ex B B2 → Sub B2 H2 → Q v H2 → rIy K x y H2 Q := by
  unfold fIy at e
  cases e1 : fIxT da db with
  | some d1 =>
    rw [e1] at e
    cases e
    unfold fIxT at e1
    split at e1
    · rename_i ds i
      obtain ⟨a, xs, rfl, q1, q2⟩ := ra.tup_inv
      obtain ⟨v, q3, q4⟩ := atI_rep q2 e1
      exact ⟨v, q4, fun B2 H2 Q ex s2 q => .inl ⟨a, xs, i, v, rfl, rb.int_inv, ex_t (ex.trans s2.ex) q1, q3, q⟩⟩
    · cases e1
  | none =>
    rw [e1] at e
    have e : (fIxL da db).or (fIxD da db) = some d := e
    cases e2 : fIxL da db with
    | some d1 =>
      rw [e2] at e
      cases e
      unfold fIxL at e2
      split at e2
      · rename_i ds i
        obtain ⟨a, xs, rfl, q1, q2⟩ := ra.lst_inv
        obtain ⟨v, q3, q4⟩ := atI_rep q2 e2
        exact ⟨v, q4, fun B2 H2 Q ex s2 q => .inr (.inl ⟨a, xs, i, v, rfl, rb.int_inv, rd_sub s2 (ex_l ex q1), q3, q⟩)⟩
      · cases e2
    | none =>
      rw [e2] at e
      have e : fIxD da db = some d := e
      unfold fIxD at e
      split at e
      · rename_i kvs
        obtain ⟨key, e3, e4⟩ := Option.bind_eq_some_iff.mp e
        obtain ⟨p, ws, rfl, h1, h2⟩ := ra.dct_inv
        rcases h2.val (k := key) with ⟨z1, z2⟩ | ⟨d', v, z1, z2, r⟩
        · rw [z1] at e4; cases e4
        · rw [z1] at e4
          cases e4
          refine ⟨v, r, fun B2 H2 Q ex s2 q => .inr (.inr ⟨p, v, rfl, ?_, q⟩)⟩
          have g := dget_of (K := K) (k := key) s2 (ex_d ex h1)
          rw [z2] at g
          rw [keyD_v e3 rb]
          exact g
      · cases e
theorem dv_ix {f g : List Slot → Option D} (hu : X.A.units + 1 < cLine) (ha : DV X a f) (hb : DV X b g) (hs : PlainIx b := by exact fun _ _ => rfl) : DV X (.Subscript a b pos) (sIx f g) := by
  obtain ⟨ta, pa, ka⟩ := ha
  obtain ⟨tb, pb, kb⟩ := hb
  refine ⟨_, pe_ix (ix_y hu) pa pb hs, fun fr B σ H ρ d s e => ?_⟩
  obtain ⟨da, e1, e2⟩ := Option.bind_eq_some_iff.mp e
  obtain ⟨db, e3, e4⟩ := Option.bind_eq_some_iff.mp e2
  obtain ⟨x, rx, kx⟩ := ka fr B σ H ρ da s e1
  obtain ⟨y, ry, ky⟩ := kb fr B σ H ρ db s e3
  obtain ⟨v, rv, kv⟩ := iy_at s.sub rx ry e4
  exact ⟨v, rv, fun B2 H2 Q ex s2 q => kx B2 H2 _ ex s2 (ky B2 H2 _ ex s2 (kv B2 H2 Q ex s2 q))⟩
theorem dt_inTbA {x : Str} {p2 : Pos} {tab : List (Str × D)} {m : M D} {op : CmpOp} {neg : Bool} {r : R2} (hr : OpR X (compareOp op) r) (T : TabK X.K X.w x tab) (hm : X.mg x = some (.ref (He.ga X.K x))) (ha : DE X W a m)
    (hr2 : ∀ z (Q : VK) H, (∀ o, PySem.W.nsIn X.K (He.ga X.K x) z = some o → Q (.bl (xor neg o.isSome)) H) → r (.str z) (.ref (He.ga X.K x)) H Q) (hg : Gl X x) (hd : (x == ("__debug__" : Str)) = false) (hb : behindInMarks op (.Name x p2) = false := by rfl) :
    DT X W (.Compare a [op] [.Name x p2] pos) (mTst (m1 (inTb tab neg) m)) := by
  obtain ⟨t, p, k⟩ := ha
  refine ⟨_, pt_cmpR hr p (pe_glob hg hm (v := .ref (He.ga X.K x)) rfl hd) hb, fun fr B σ H ρ Q s h => ?_⟩
  have h0 : Go X.K W fr σ B H ((m1 (inTb tab neg) m) ρ) (fun d ρ' => ∀ v B' H', To fr B H B' H' → St X.K fr B' σ H' ρ' → Rep X.K B' d v → ∃ k, v = .bl k ∧ Q k H') :=
    h.step fun d ρ1 h v B1 H1 t1 s1 r1 => by
      obtain ⟨q, e, h⟩ := h.of
      cases isBl_inv e
      exact ⟨q, r1.bl_inv, h B1 H1 t1 s1⟩
  refine k fr B σ H ρ _ s (h0.step fun d ρ1 h v B1 H1 t1 s1 r1 => ?_)
  obtain ⟨d', e, q⟩ := h.of
  cases d with
  | str z =>
    rw [r1.str_inv]
    refine hr2 z _ H1 fun o ho => ?_
    cases e
    have eo : (tab.lookup z).isSome = o.isSome := by
      cases e2 : tab.lookup z with
      | none => have := T.no z e2; rw [ho] at this; cases this; rfl
      | some dd => obtain ⟨u, v', q1, _⟩ := T.at_ z dd e2; rw [ho] at q1; cases q1; rfl
    rw [← eo]
    exact q _ B1 H1 t1 s1 .bl
  | _ => cases e
theorem tab_all {x : Str} {tab : List (Str × D)} {w : World} (T : TabK K w x tab) (z : Str) : ∃ o, PySem.W.nsIn K (He.ga K x) z = some o := by
  cases e2 : tab.lookup z with
  | none => exact ⟨_, T.no z e2⟩
  | some dd => obtain ⟨u, v', q1, _⟩ := T.at_ z dd e2; exact ⟨_, q1⟩
theorem dt_inTb {x : Str} {p2 : Pos} {tab : List (Str × D)} {m : M D} (T : TabK X.K X.w x tab) (hm : X.mg x = some (.ref (He.ga X.K x))) (ha : DE X W a m) (hg : Gl X x := by rfl) (hd : (x == ("__debug__" : Str)) = false := by decide) : DT X W (.Compare a [.In] [.Name x p2] pos) (mTst (m1 (inTb tab false) m)) := by
  obtain ⟨es, n, kd⟩ := T.kd
  refine dt_inTbA (op_in_kd kd) T hm ha (fun z Q H h => ?_) hg hd
  obtain ⟨o, ho⟩ := tab_all T z
  refine ⟨z, o, rfl, rfl, ho, ?_⟩
  have := h o ho
  rw [Bool.false_xor] at this
  exact this
theorem dt_notInTb {x : Str} {p2 : Pos} {tab : List (Str × D)} {m : M D} (T : TabK X.K X.w x tab) (hm : X.mg x = some (.ref (He.ga X.K x))) (ha : DE X W a m) (hg : Gl X x := by rfl) (hd : (x == ("__debug__" : Str)) = false := by decide) : DT X W (.Compare a [.NotIn] [.Name x p2] pos) (mTst (m1 (inTb tab true) m)) := by
  obtain ⟨es, n, kd⟩ := T.kd
  refine dt_inTbA (op_notIn_kd kd) T hm ha (fun z Q H h => ?_) hg hd
  obtain ⟨o, ho⟩ := tab_all T z
  refine ⟨z, o, rfl, rfl, ho, ?_⟩
  have := h o ho
  rw [Bool.true_xor] at this
  exact this
end
end EE
end

section
set_option Elab.async false
set_option linter.all false
set_option maxRecDepth 100000
set_option maxHeartbeats 4000000
/-! E26: x = [..] on one line; a comprehension's list as one's own -/
namespace EE
open PySem PySem.Spec PyProof.Rows L2
def clsAt (st : Stmt) (i : Nat) : Stmt := match st with
  | .ClassDef _ _ _ body _ _ _ _ _ _ _ => body.getD i (.Pass ⟨0, 0, 0, 0⟩)
  | _ => .Pass ⟨0, 0, 0, 0⟩
variable [XAd]
section
variable {K : PySem.W.Frag} {B H : Hp} {σ : L2.St} {ρ : List Slot} {fr : Ad} {p : Addr}
theorem St.showO (s : St K (orF fr p) B σ H ρ) {xs : List V} {ds : List D} (nf : ¬ fr p) (h : H p = some (.lst xs)) (r : RepL K B ds xs) : St K fr B (some (.ref p) :: σ) H (.lst ds :: ρ) := by
  obtain ⟨fp, s⟩ := s
  have np : ∀ i b, fp i b → b ≠ p := fun i b z q => s.frd i b z (.inr q)
  have eF : ∀ b, frF fr (consF (fun b => b = p) fp) b ↔ frF (orF fr p) fp b := fun b => by
    constructor
    · rintro (z | ⟨i, z⟩)
      · exact .inl (.inl z)
      · cases i with
        | zero => exact .inl (.inr z)
        | succ i => exact .inr ⟨i, z⟩
    · rintro ((z | z) | ⟨i, z⟩)
      · exact .inl z
      · exact .inr ⟨0, z⟩
      · exact .inr ⟨i + 1, z⟩
  have eb : B = hid H (frF fr (consF (fun b => b = p) fp)) := by
    rw [s.base]
    funext b
    by_cases q : frF (orF fr p) fp b
    · rw [hid_no q, hid_no ((eF b).mpr q)]
    · rw [hid_at q, hid_at fun z => q ((eF b).mp z)]
  refine ⟨consF (fun b => b = p) fp, ⟨by simpa using s.len, eb, ?_, ?_, fun b z => s.frt b (.inl z), ?_, ?_, ?_⟩⟩
  · intro i j b z1 z2
    cases i with
    | zero =>
      cases j with
      | zero => rfl
      | succ j => exact absurd z1 (np j b z2)
    | succ i =>
      cases j with
      | zero => exact absurd z2 (np i b z1)
      | succ j => exact congrArg (· + 1) (s.dis i j b z1 z2)
  · intro i b z
    cases i with
    | zero => rw [show b = p from z, h]; simp
    | succ i => exact s.there i b z
  · intro i b z q
    cases i with
    | zero => exact nf ((show b = p from z) ▸ q)
    | succ i => exact s.frd i b z (.inl q)
  · intro i hi b z
    cases i with
    | zero => simp at hi
    | succ i => exact s.out i (by simpa using hi) b z
  · intro i sl hi
    cases i with
    | zero =>
      have : Slot.lst ds = sl := Option.some.inj hi
      subst this
      exact ⟨_, rfl, p, xs, rfl, fun b => Iff.rfl, h, r⟩
    | succ i =>
      obtain ⟨w, h1, h2⟩ := s.slot i sl (by simpa using hi)
      exact ⟨w, by simpa using h1, h2⟩
omit [XAd] in
theorem plainAt_succ {s : Slot} {ρ : List Slot} : ∀ vs : List Nat, plainAt (s :: ρ) (vs.map (· + 1)) = plainAt ρ vs := fun vs => by
  unfold plainAt
  rw [List.all_map]
  rfl
omit [XAd] in
theorem wipe_succ {x : Option V} {σ : L2.St} : ∀ vs : List Nat, L2.wipe (x :: σ) (vs.map (· + 1)) = x :: L2.wipe σ vs
  | [] => rfl
  | v :: vs => by
    show (L2.wipe (x :: σ) (vs.map (· + 1))).set (v + 1) none = _
    rw [wipe_succ vs]
    rfl
omit [XAd] in
theorem backR_succ {s s' : Slot} {ρ0 ρ : List Slot} : ∀ vs : List Nat, backR (s :: ρ0) (s' :: ρ) (vs.map (· + 1)) = s' :: backR ρ0 ρ vs
  | [] => rfl
  | v :: vs => by
    show (backR (s :: ρ0) (s' :: ρ) (vs.map (· + 1))).set (v + 1) _ = _
    rw [backR_succ vs]
    rfl
end
section
variable {X : Cx} {W : Wn}
theorem run_lcO {bnd : D → M Unit} {tst : M Bool} {em : M D} {n : Nat} {vs : List Nat} {fr : Ad} {B1 H1 : Hp} {σ : L2.St} {ρ1 ρF : List Slot} {J : It} {ds accF : List D} {Q : VK} (s1 : St X.K fr B1 σ H1 ρ1) (hJ : ItR X.K J B1 ds) (c1 : plainAt ρ1 vs = true) (hn : ρ1.length = n)
    (e : compM bnd tst em vs ds [] (wipeR ρ1 vs) = .ok accF ρF) (q : ∀ v B' H', To fr B1 H1 B' H' → St X.K fr B' (some v :: σ) H' (.lst accF :: backR ρ1 ρF vs) → Q v H') {D : Addr} (hD : H1 D = none) :
    ∃ Wi : Nat → Nat → Hp → Prop, (∃ m, Wi 0 m (upd H1 D (.lst []))) ∧ ∀ i m H, Wi i m H → (J.stop i H ∧ Q (.ref D) H) ∨ (J.go i H ∧ ∃ Nx : Hp → Prop, (∀ H', Nx H' → ∃ m', m' < m ∧ Wi (i + 1) m' H') ∧ ∀ x H', J.yld i H x H' → tG_ X.K (W0 n vs) bnd x (L2.wipe σ vs) H' fun σ2 H2 => L2.wipe σ2 vs = L2.wipe σ vs ∧ tT_ X.K (W0 n vs) tst σ2 H2 fun b H3 =>
      if b = true then tE X.K (W0 n vs) em σ2 H3 fun y H4 => ∃ acc, H4 D = some (.lst acc) ∧ acc.length < sizeLine ∧ Nx (upd H4 D (.lst (acc ++ [y]))) else Nx H3) := by
  have nfD : ¬ fr D := fun z => by
    obtain ⟨fp, sf⟩ := s1
    exact sf.frt D z hD
  obtain ⟨s2, t2⟩ := s1.hide (o := .lst []) hD
  obtain ⟨B3, b3, s3⟩ := s2.wipe vs
  refine ⟨fun i k H' => i ≤ ds.length ∧ k = ds.length - i ∧ ∃ B' acc xs ρ', To fr B1 H1 B' H' ∧ St X.K (orF fr D) B' (L2.wipe σ vs) H' ρ' ∧ H' D = some (.lst xs) ∧ RepL X.K B' acc xs ∧ compM bnd tst em vs (ds.drop i) acc ρ' = .ok accF ρF,
    ⟨ds.length, Nat.zero_le _, rfl, B3, [], [], _, t2.trans (.of b3), s3, upd_same, .nil, e⟩, ?_⟩
  rintro i k H4 ⟨hi, rfl, B4, acc, xs, ρ4, t4, s4, hD4, r4, e4⟩
  obtain ⟨q1, q2⟩ := hJ B4 H4 t4.sub s4.sub i hi
  by_cases lt : i < ds.length
  · obtain ⟨go, yl⟩ := q1 lt
    refine .inr ⟨go, fun H' => ∃ B' acc xs ρ', To fr B1 H1 B' H' ∧ St X.K (orF fr D) B' (L2.wipe σ vs) H' ρ' ∧ H' D = some (.lst xs) ∧ RepL X.K B' acc xs ∧ compM bnd tst em vs (ds.drop (i + 1)) acc ρ' = .ok accF ρF, fun H' z => ⟨ds.length - (i + 1), by omega, lt, rfl, z⟩, fun x H5 y => ?_⟩
    obtain ⟨B5, al, d, hd, rd⟩ := yl x H5 y
    obtain ⟨s5, t5⟩ := al.st s4
    have ed : ds.drop i = d :: ds.drop (i + 1) := by
      rw [List.drop_eq_getElem_cons lt]
      congr 1
      rw [List.getElem?_eq_getElem lt] at hd
      exact Option.some.inj hd
    rw [ed] at e4
    have fr1 : ∀ {B H B' H' : Hp}, To (orF fr D) B H B' H' → To fr B H B' H' := fun t => ⟨t.sub, fun b z => t.keep b (.inl z)⟩
    obtain ⟨_, ρ6, g1, e6⟩ := noX_ok e4
    obtain ⟨kb, ρ7, g2, e7⟩ := noX_ok e6
    refine ⟨orF fr D, B5, ρ4, d, s5, rd, ?_⟩
    unfold Go
    rw [g1]
    intro σ6 B6 H6 t6 p6 s6
    have hσ : σ.length = n := by rw [s1.len, hn]
    have hl4 : (L2.wipe σ vs).length = n := by rw [wipe_length, hσ]
    have hl6 : σ6.length = (L2.wipe σ vs).length := p6.len
    have ew : L2.wipe σ6 vs = L2.wipe σ vs := by
      have w1 : L2.wipe σ6 vs = L2.wipe (L2.wipe σ vs) vs := wipe_eq hl6 fun i hi hv => pin_out p6 (by omega) hv
      have w2 : L2.wipe (L2.wipe σ vs) vs = L2.wipe σ vs := wipe_eq (by rw [wipe_length]) fun i hi hv => wipe_out σ hv
      rw [w1, w2]
    refine ⟨ew, orF fr D, B6, ρ6, s6, ?_⟩
    unfold Go
    rw [g2]
    intro B7 H7 t7 s7
    have hD5 : H5 D = some (.lst xs) := (t5.keep D (.inr rfl)).trans hD4
    have hD7 : H7 D = some (.lst xs) := (t7.keep D (.inr rfl)).trans ((t6.keep D (.inr rfl)).trans hD5)
    have t17 := ((t4.trans (fr1 t5)).trans (fr1 t6)).trans (fr1 t7)
    have r7 := r4.mono (t5.sub.ex.trans (t6.sub.ex.trans t7.sub.ex))
    cases kb with
    | false =>
      show ∃ B' acc xs ρ', _
      obtain ⟨B8, b8, s8⟩ := s7.wipe vs
      rw [ew] at s8
      exact ⟨B8, acc, xs, wipeR ρ7 vs, t17.trans (.of b8), s8, hD7, r7.mono b8.ex, e7⟩
    | true =>
      obtain ⟨yd, ρ8, g3, e8⟩ := noX_ok e7
      show tE X.K _ em σ6 H7 _
      refine ⟨orF fr D, B7, ρ7, s7, ?_⟩
      unfold Go
      rw [g3]
      intro yv B8 H8 t8 s8 ry
      have hD8 : H8 D = some (.lst xs) := (t8.keep D (.inr rfl)).trans hD7
      by_cases z : okSz acc
      · rw [if_pos z] at e8
        have r8 := r7.mono t8.sub.ex
        refine ⟨xs, hD8, by rw [r8.length]; exact Nat.lt_of_le_of_lt z (by decide), ?_⟩
        obtain ⟨s9, t9⟩ := s8.frUpd (o := .lst (xs ++ [yv])) nfD
        obtain ⟨B10, b10, s10⟩ := s9.wipe vs
        rw [ew] at s10
        exact ⟨B10, acc ++ [yd], xs ++ [yv], wipeR ρ8 vs, ((t17.trans (fr1 t8)).trans t9).trans (.of b10), s10, upd_same, (r8.append (.cons ry .nil)).mono b10.ex, e8⟩
      · rw [if_neg z] at e8
        cases e8
  · have ei : i = ds.length := by omega
    subst ei
    rw [List.drop_length] at e4
    cases e4
    have s5 := s4.showO nfD hD4 r4
    obtain ⟨so, to⟩ := s1.own (o := .lst []) (sl := .lst []) hD ⟨D, [], rfl, fun b => Iff.rfl, upd_same, .nil⟩
    have nD : ∀ b, fr b → b ≠ D := fun b z e => nfD (e ▸ z)
    have tt : To fr B1 (upd H1 D (.lst [])) B4 H4 := ⟨t4.sub, fun b z => by rw [upd_ne (nD b z)]; exact t4.keep b z⟩
    have c1' : plainAt (.lst [] :: ρ1) (vs.map (· + 1)) = true := by rw [plainAt_succ]; exact c1
    have s5' : St X.K fr B4 (L2.wipe (some (.ref D) :: σ) (vs.map (· + 1))) H4 (.lst accF :: ρF) := by rw [wipe_succ]; exact s5
    obtain ⟨B6, b6, s6⟩ := St.unwipe so c1' s5' tt
    rw [backR_succ] at s6
    exact .inl ⟨q2 rfl, q _ B6 H4 (t4.trans (.of b6)) s6⟩

def mOComp (n : Nat) (m : M (List D)) (bnd : D → M Unit) (tst : M Bool) (elt : M D) (vs : List Nat) : M Slot := m.bind fun ds => fun ρ => if plainAt ρ vs && decide (ρ.length = n) then match compM bnd tst elt vs ds [] (wipeR ρ vs) with
    | .ok acc ρ' => .ok (.lst acc) (backR ρ ρ' vs)
    | _ => .bad
  else .bad
section
variable {elt tg iter : Expr} {ifs : List Expr} {scope : Scope} {own : List (Str × Nat)} {pos spos py : Pos} {m : M (List D)} {bnd : D → M Unit} {tst : M Bool} {em : M D} {n : Nat} {y : Str}
theorem sw_of (hk : X.env.scope.kind = .function) (hy : X.env.scope.names.lookup y = some .local) (hl : (py.line == pos.line) = true) (ha : (scope.names.any fun (n, k) => n == y && (k == .local || k == .cell)) = false) :
    swapsWith (.ListComp elt [⟨tg, iter, ifs, 0⟩] scope pos) (some (.Name y py)) spos.line X.env = pure true := sw_true hk hy hl ha
theorem ds_setLc (i : Nat) (hc : X.calm = true) (hN : X.N.Nodup) (hi : DI X W tg iter m) (ok : blkC X.N X.env.scope scope own = true)
    (hg : ∀ (s : Shared) (H : Hp) (C : Addr) (cl : List (Str × Addr)) (fp : List Addr), DG (X.blk s H scope (compEnvC scope cl C X.env) fp) (W0 n (own.map (·.2))) tg bnd) (ht : ∀ (s : Shared) (H : Hp) (C : Addr) (cl : List (Str × Addr)) (fp : List Addr), DTs (X.blk s H scope (compEnvC scope cl C X.env) fp) (W0 n (own.map (·.2))) ifs tst)
    (he : ∀ (s : Shared) (H : Hp) (C : Addr) (cl : List (Str × Addr)) (fp : List Addr), DE (X.blk s H scope (compEnvC scope cl C X.env) fp) (W0 n (own.map (·.2))) elt em) (hp : i ∉ W.P) (hs : ∀ x, foldedSetIterable iter X.env x = pure x := by intro _; rfl) (hy : X.N[i]? = some y := by rfl) (hyl : X.env.scope.names.lookup y = some .local := by rfl)
    (hk : X.env.scope.kind = .function := by rfl) (hl : (py.line == pos.line) = true := by rfl) (ha : (scope.names.any fun (n, k) => n == y && (k == .local || k == .cell)) = false := by rfl) :
    DS X W (.Assign [.Name y py] (.ListComp elt [⟨tg, iter, ifs, 0⟩] scope pos) spos) (mSet i (mComp n m bnd tst em (own.map (·.2)))) := by
  obtain ⟨wi, pi, ki⟩ := hi
  obtain ⟨vs, hvs⟩ : ∃ vs, vs = own.map (·.2) := ⟨_, rfl⟩
  refine ⟨_, ps_setLc (te := tE X.K (W0 n (own.map fun p : Str × Nat => p.2)) em) (tt := tT_ X.K (W0 n (own.map fun p : Str × Nat => p.2)) tst) (g := tG_ X.K (W0 n (own.map fun p : Str × Nat => p.2)) bnd) hc hN hy hyl (sw_of hk hyl hl ha) pi (blkOk_by ok) (fun s H C cl fp => (hg s H C cl fp).pg) ht (fun s H C cl fp => (he s H C cl fp).pe) hs, fun fr B σ H ρ D s h => ?_⟩
  rw [← hvs] at h ⊢
  have h := h.step fun d ρ1 h => h
  refine ki fr B σ H ρ _ s (h.step fun ds ρ1 h J B1 H1 t1 s1 hJ Dd hDd => ?_)
  unfold Go at h
  by_cases c : (plainAt ρ1 vs && decide (ρ1.length = n)) = true
  · rw [if_pos c] at h
    obtain ⟨c1, c2⟩ := Bool.and_eq_true_iff.mp c
    cases e : compM bnd tst em vs ds [] (wipeR ρ1 vs) with
    | bad => rw [e] at h; exact h.elim
    | exc c ρ' => rw [e] at h; exact h.elim
    | ok accF ρF =>
      rw [e] at h
      refine run_lc (Q := fun v H' => D.nx (σ.set i (some v)) H') s1 hJ c1 (of_decide_eq_true c2) e (fun v B2 H2 t s2 rv => ?_) hDd
      have h := Go.step (K := X.K) (W := W) (fr := fr) (σ := σ) (B := B) (H := H) (m := mPut i (.imm (.lst accF))) (f := fun _ => mNx) h fun _ ρ' z => z
      obtain ⟨lt, h⟩ := h.put
      obtain ⟨B3, b3, s3⟩ := s2.set rv lt
      exact (Go.pure h) _ B3 H2 ((t1.trans t).trans (.of b3)) (Pin.set hp) s3
  · rw [if_neg c] at h; exact h.elim
theorem ds_setLcO (i : Nat) (hc : X.calm = true) (hN : X.N.Nodup) (hi : DI X W tg iter m) (ok : blkC X.N X.env.scope scope own = true)
    (hg : ∀ (s : Shared) (H : Hp) (C : Addr) (cl : List (Str × Addr)) (fp : List Addr), DG (X.blk s H scope (compEnvC scope cl C X.env) fp) (W0 n (own.map (·.2))) tg bnd) (ht : ∀ (s : Shared) (H : Hp) (C : Addr) (cl : List (Str × Addr)) (fp : List Addr), DTs (X.blk s H scope (compEnvC scope cl C X.env) fp) (W0 n (own.map (·.2))) ifs tst)
    (he : ∀ (s : Shared) (H : Hp) (C : Addr) (cl : List (Str × Addr)) (fp : List Addr), DE (X.blk s H scope (compEnvC scope cl C X.env) fp) (W0 n (own.map (·.2))) elt em) (hp : i ∉ W.P) (hs : ∀ x, foldedSetIterable iter X.env x = pure x := by intro _; rfl) (hy : X.N[i]? = some y := by rfl) (hyl : X.env.scope.names.lookup y = some .local := by rfl)
    (hk : X.env.scope.kind = .function := by rfl) (hl : (py.line == pos.line) = true := by rfl) (ha : (scope.names.any fun (n, k) => n == y && (k == .local || k == .cell)) = false := by rfl) :
    DS X W (.Assign [.Name y py] (.ListComp elt [⟨tg, iter, ifs, 0⟩] scope pos) spos) (mSetO i (mOComp n m bnd tst em (own.map (·.2)))) := by
  obtain ⟨wi, pi, ki⟩ := hi
  obtain ⟨vs, hvs⟩ : ∃ vs, vs = own.map (·.2) := ⟨_, rfl⟩
  refine ⟨_, ps_setLc (te := tE X.K (W0 n (own.map fun p : Str × Nat => p.2)) em) (tt := tT_ X.K (W0 n (own.map fun p : Str × Nat => p.2)) tst) (g := tG_ X.K (W0 n (own.map fun p : Str × Nat => p.2)) bnd) hc hN hy hyl (sw_of hk hyl hl ha) pi (blkOk_by ok) (fun s H C cl fp => (hg s H C cl fp).pg) ht (fun s H C cl fp => (he s H C cl fp).pe) hs, fun fr B σ H ρ D s h => ?_⟩
  rw [← hvs] at h ⊢
  have h := h.step fun d ρ1 h => h
  refine ki fr B σ H ρ _ s (h.step fun ds ρ1 h J B1 H1 t1 s1 hJ Dd hDd => ?_)
  unfold Go at h
  by_cases c : (plainAt ρ1 vs && decide (ρ1.length = n)) = true
  · rw [if_pos c] at h
    obtain ⟨c1, c2⟩ := Bool.and_eq_true_iff.mp c
    cases e : compM bnd tst em vs ds [] (wipeR ρ1 vs) with
    | bad => rw [e] at h; exact h.elim
    | exc c ρ' => rw [e] at h; exact h.elim
    | ok accF ρF =>
      rw [e] at h
      refine run_lcO (Q := fun v H' => D.nx (σ.set i (some v)) H') s1 hJ c1 (of_decide_eq_true c2) e (fun v B2 H2 t s2 => ?_) hDd
      have h := Go.step (K := X.K) (W := W) (fr := fr) (σ := σ) (B := B) (H := H) (m := mPut i (.lst accF)) (f := fun _ => mNx) h fun _ ρ' z => z
      obtain ⟨lt, h⟩ := h.put
      obtain ⟨B3, b3, s3⟩ := s2.put lt
      exact (Go.pure h) _ B3 H2 ((t1.trans t).trans (.of b3)) (Pin.set hp) s3
  · rw [if_neg c] at h; exact h.elim
end
end
end EE
end

section
set_option Elab.async false
set_option linter.all false
set_option maxRecDepth 100000
set_option maxHeartbeats 4000000
/-! E27: what the head must say, read by a Bool; a Hook with exceptions' __init__ -/
namespace EE
open PySem PySem.Spec PyProof.Rows L2
abbrev ba {a b : Bool} (h : (a && b) = true) : a = true ∧ b = true := Bool.and_eq_true_iff.mp h
/-! ### data of the head -/
mutual
def dB (K : PySem.W.Frag) : D → Value → Bool
  | .non, .none => true
  | .bl b, .bool c => b == c
  | .int i, .int j _ => decide (i = j)
  | .str x, .str y _ => decide (x = y)
  | .tup ds, .ref a => (match K.lookup a with
    | some ⟨.type c, _, .seq its _, _⟩ => decide (c = "tuple") && (decide (its.size ≤ sizeLine) && dBL K ds its.toList)
    | _ => false)
  | _, _ => false
def dBL (K : PySem.W.Frag) : List D → List Value → Bool
  | [], [] => true
  | d :: ds, u :: us => dB K d u && dBL K ds us
  | _, _ => false
end
mutual
theorem dB_ok {K : PySem.W.Frag} : ∀ {d : D} {u : Value}, dB K d u = true → ∃ v, RelV v u ∧ ∀ B, Rep K B d v
  | .non, .none, _ => ⟨.non, rfl, fun _ => by unfold Rep; rfl⟩
  | .bl b, .bool c, h => ⟨.bl b, by unfold dB at h; rw [eq_of_beq h]; rfl, fun _ => by unfold Rep; rfl⟩
  | .int i, .int j t, h => ⟨.int i, ⟨t, by unfold dB at h; rw [of_decide_eq_true h]⟩, fun _ => by unfold Rep; rfl⟩
  | .str x, .str y t, h => ⟨.str x, ⟨t, by unfold dB at h; rw [of_decide_eq_true h]⟩, fun _ => by unfold Rep; rfl⟩
  | .tup ds, .ref a, h => by
    unfold dB at h
    cases q : K.lookup a with
    | none => rw [q] at h; cases h
    | some o =>
      obtain ⟨oc, od, dt, osl⟩ := o
      rw [q] at h
      cases oc with
      | type c =>
        cases dt with
        | seq its n =>
          obtain ⟨h1, h2⟩ := ba (show (decide (c = "tuple") && (decide (its.size ≤ sizeLine) && dBL K ds its.toList)) = true from h)
          obtain ⟨h3, h4⟩ := ba h2
          obtain ⟨vs, r, p⟩ := dBL_ok h4
          exact ⟨.ref a, rfl, fun B => by
            unfold Rep
            exact ⟨a, vs, rfl, .inr ⟨_, its, n, q, congrArg Value.type (of_decide_eq_true h1), rfl, of_decide_eq_true h3, r⟩, p B⟩⟩
        | _ => cases h
      | _ => cases dt <;> cases h
theorem dBL_ok {K : PySem.W.Frag} : ∀ {ds : List D} {us : List Value}, dBL K ds us = true → ∃ vs, Vals vs us ∧ ∀ B, RepL K B ds vs
  | [], [], _ => ⟨[], .nil, fun _ => by unfold RepL; rfl⟩
  | d :: ds, u :: us, h => by
    unfold dBL at h
    obtain ⟨h1, h2⟩ := ba h
    obtain ⟨v, r, p⟩ := dB_ok h1
    obtain ⟨vs, r2, p2⟩ := dBL_ok h2
    exact ⟨v :: vs, .cons r r2, fun B => by unfold RepL; exact ⟨v, vs, rfl, p B, p2 B⟩⟩
  | [], _ :: _, h => by unfold dBL at h; cases h
  | _ :: _, [], h => by unfold dBL at h; cases h
end
/-- the module's name x is this tuple -/
theorem rB_ok {K : PySem.W.Frag} {ds : List D} {a : Addr} (h : dB K (.tup ds) (.ref a) = true) (B : Hp) : Rep K B (.tup ds) (.ref a) := by
  obtain ⟨v, r, p⟩ := dB_ok h
  cases v with
  | ref b =>
    have e : Value.ref b = Value.ref a := Eq.symm (show Value.ref a = Value.ref b from r)
    cases e
    exact p B
  | _ => first | (cases r; done) | (obtain ⟨_, r⟩ := r; cases r)
/-! ### a table -/
def tabB (K : PySem.W.Frag) (a : Addr) (tab : List (Str × D)) : Bool := tab.all fun q => match PySem.W.nsIn K a q.1 with
  | some (some u) => dB K q.2 u
  | _ => false
theorem tabNo {K : PySem.W.Frag} {w : World} {a : Addr} {tab : List (Str × D)} (h : He.dicW K a = some (He.keysIn w.params (tab.map (·.1)))) {z : Str} (hz : tab.lookup z = none) : PySem.W.nsIn K a z = some none := by
  obtain ⟨es, n, kd⟩ := He.dicW_ok h
  have e : es.toList.map He.keyOf = He.keysIn w.params (tab.map (·.1)) := by
    unfold He.dicW at h
    rw [kd.at_] at h
    have h2 : (match decide (("dict" : String) = "dict") && ((#[] : Array (Option Value)).isEmpty && !(a == sysModules)) with
      | true => some (es.toList.map He.keyOf)
      | false => none) = some (He.keysIn w.params (tab.map (·.1))) := h
    rw [kd.low] at h2
    exact Option.some.inj h2
  unfold PySem.W.nsIn
  rw [kd.at_]
  have key : ∀ (l : List DictEntry) (t : List (Str × D)), l.map He.keyOf = He.keysIn w.params (t.map (·.1)) → t.lookup z = none → l.find? (·.key.isStr z) = none ∧ l.any (·.refKey) = false := by
    intro l
    induction l with
    | nil => exact fun _ _ _ => ⟨rfl, rfl⟩
    | cons x l ih =>
      intro t e hz
      cases t with
      | nil => cases e
      | cons y t =>
        obtain ⟨k, d⟩ := y
        have e' : He.keyOf x :: l.map He.keyOf = some (k, PyData.keyHash w.params k) :: He.keysIn w.params (t.map (·.1)) := e
        injection e' with e1 e2
        rw [List.lookup_cons] at hz
        cases qz : z == k with
        | true => rw [qz] at hz; cases hz
        | false =>
          rw [qz] at hz
          obtain ⟨i1, i2⟩ := ih t e2 hz
          unfold He.keyOf at e1
          split at e1
          · rename_i y tt q
            obtain ⟨rfl, _⟩ := Prod.mk.inj (Option.some.inj e1)
            have nk : x.key.isStr z = false := by
              rw [q]
              show (y == z) = false
              cases w2 : y == z with
              | false => rfl
              | true => rw [eq_of_beq w2, beq_self_eq_true] at qz; cases qz
            refine ⟨?_, ?_⟩
            · rw [List.find?_cons, nk]; exact i1
            · rw [List.any_cons, i2]
              have : x.refKey = false := by unfold DictEntry.refKey; rw [q]
              rw [this]; rfl
          · cases e1
  obtain ⟨k1, k2⟩ := key es.toList tab e hz
  show (match es.toList.find? (·.key.isStr z) with
      | some e => some (some e.val)
      | none => if es.toList.any (·.refKey) then none else some none) = some none
  rw [k1]
  show (if es.toList.any (·.refKey) = true then none else some none) = some none
  rw [k2]
  rfl
theorem tabK_ok {K : PySem.W.Frag} {w : World} {x : Str} {tab : List (Str × D)} (h : He.dicW K (He.ga K x) = some (He.keysIn w.params (tab.map (·.1)))) (hb : tabB K (He.ga K x) tab = true) : TabK K w x tab := by
  refine ⟨He.dicW_ok h, fun z hz => tabNo h hz, fun z d hz => ?_⟩
  have m := List.all_eq_true.mp hb (z, d) (PySem.mem_of_lookup hz)
  cases e : PySem.W.nsIn K (He.ga K x) z with
  | none => rw [e] at m; cases m
  | some r =>
    rw [e] at m
    cases r with
    | none => cases m
    | some u =>
      obtain ⟨v, r, p⟩ := dB_ok m
      exact ⟨u, v, rfl, r, p⟩
/-! ### classes -/
def noB (K : PySem.W.Frag) (C : Addr) (f : Str) : Bool := He.eqO (PySem.W.findIn K (.ref C) f) (some none)
def clsB (K : PySem.W.Frag) (c : Str) : Bool := (He.Fa.cls c).ok K
def insB (K : PySem.W.Frag) (c : Str) : Bool := clsB K c && (He.eqO (PySem.W.findIn K (.ref (He.ga K c)) "__class__") (some (some (.builtin "object.__class__"))) && (He.eqO (PySem.W.specialIn K (.builtin "object.__class__") "__get__") (some (some (.builtin "getset_descriptor.__get__"))) &&
  (decide (PySem.W.takesIn K (.builtin "object.__class__") = some true) && (decide (PySem.W.mroIn K (He.ga K c) (.type "object") = some true) && (["bool", "int", "str", "tuple", "list", "dict"].all fun T => decide (PySem.W.kitOne K (.ref (He.ga K c)) (.type T) = some false))))))
theorem insB_ok {K : PySem.W.Frag} {c : Str} (h : insB K c = true) : InsK K c := by
  obtain ⟨h1, h⟩ := ba h
  obtain ⟨h2, h⟩ := ba h
  obtain ⟨h3, h⟩ := ba h
  obtain ⟨h4, h⟩ := ba h
  obtain ⟨h5, h6⟩ := ba h
  exact ⟨He.cls_ok h1, He.eqO_ok h2, He.eqO_ok h3, of_decide_eq_true h4, of_decide_eq_true h5, fun T hT => of_decide_eq_true (List.all_eq_true.mp h6 T hT)⟩
def atB (K : PySem.W.Frag) (c : Str) (fs : List Str) : Bool := clsB K c && fs.all fun f => noB K (He.ga K c) f
theorem atB_ok {K : PySem.W.Frag} {c : Str} {fs : List Str} (h : atB K c fs = true) : AtK K c fs := by
  obtain ⟨h1, h2⟩ := ba h
  exact ⟨He.cls_ok h1, fun f hf => He.eqO_ok (List.all_eq_true.mp h2 f hf)⟩
def exmB (K : PySem.W.Frag) (c : Str) (tab : List (Str × Bool)) : Bool := tab.all fun q => decide (PySem.W.exmOne K (.ref (He.ga K q.1)) (.ref (He.ga K c)) = some q.2)
theorem exmB_ok {K : PySem.W.Frag} {c : Str} {tab : List (Str × Bool)} (h : exmB K c tab = true) : ExmK K c tab :=
  ⟨fun x b e => of_decide_eq_true (List.all_eq_true.mp h (x, b) (PySem.mem_of_lookup e))⟩
def xfsB (K : PySem.W.Frag) (xs : List Str) (f : Str) : Bool := xs.all fun c => xfB K (He.ga K c) && noB K (He.ga K c) f
theorem xfsB_ok {K : PySem.W.Frag} {xs : List Str} {f : Str} (h : xfsB K xs f = true) : ∀ c ∈ xs, XfC K (He.ga K c) ∧ PySem.W.findIn K (.ref (He.ga K c)) f = some none := fun c hc => by
  obtain ⟨h1, h2⟩ := ba (List.all_eq_true.mp h c hc)
  exact ⟨xfB_ok h1, He.eqO_ok h2⟩
/-! ### exceptions' classes -/
def oexM (C : Addr) (hd del : Bool) (mro : List Value) (sl : List (Option Value)) : Bool := match mro, sl with
  | .ref C' :: bm, [_, _, _, _, some (.builtin n), _] => decide (C' = C) && (decide (n = "ValueError.__new__") && (PySem.HandSPX.refsVE bm && (hd && !del)))
  | _, _ => false
def oexB (K : PySem.W.Frag) (C : Addr) : Bool := (match K.lookup C with
  | some ⟨.type t, _, .cls cd, sl⟩ => decide (t = "type") && oexM C cd.hasDict cd.hasDel cd.mro sl.toList
  | _ => false) && (He.eqO (PySem.W.findIn K (.ref C) "__setattr__") (some (some (.builtin "object.__setattr__"))) && (decide (PySem.W.subIn K (.ref C) (.type "BaseException") = some true) && (decide (PySem.W.typeIn K (.ref C) = some (.type "type")) && PySem.W.keepIn K (.ref C))))
theorem oexB_ok {K : PySem.W.Frag} {C : Addr} (h : oexB K C = true) : OexC K C := by
  obtain ⟨h1, h⟩ := ba h
  obtain ⟨h2, h⟩ := ba h
  obtain ⟨h3, h⟩ := ba h
  obtain ⟨h4, h5⟩ := ba h
  refine ⟨?_, He.eqO_ok h2, of_decide_eq_true h3, of_decide_eq_true h4, h5⟩
  cases q : K.lookup C with
  | none => rw [q] at h1; cases h1
  | some o =>
    obtain ⟨oc, od, dt, osl⟩ := o
    rw [q] at h1
    cases oc with
    | type t =>
      cases dt with
      | cls cd =>
        obtain ⟨n1, n2, mro, n4, n5, n6, n7, n8, n9, n10, n11⟩ := cd
        obtain ⟨j1, h1⟩ := ba (show (decide (t = "type") && oexM C n6 n11 mro osl.toList) = true from h1)
        unfold oexM at h1
        split at h1
        · rename_i C' bm k0 k1 k2 k3 n k5 e2 _
          obtain ⟨j2, h1⟩ := ba h1
          obtain ⟨j3, h1⟩ := ba h1
          obtain ⟨j4, h1⟩ := ba h1
          obtain ⟨j5, j6⟩ := ba h1
          have e1 := of_decide_eq_true j1
          have e3 := of_decide_eq_true j2
          have e4 := of_decide_eq_true j3
          have e6 : n11 = false := by cases n11 with
            | false => rfl
            | true => cases j6
          have e7 : osl = #[k0, k1, k2, k3, some (.builtin n), k5] := by
            apply Array.ext'
            rw [e2]
          subst e1 e3 e4 j5 e6 e7
          exact ⟨n1, n5, n4, n2, bm, n7, n8, n9, n10, od, k0, k1, k2, k3, k5, rfl, j4⟩
        · cases h1
      | _ => cases h1
    | _ => cases dt <;> cases h1
end EE
end

section
set_option Elab.async false
set_option linter.all false
set_option maxRecDepth 100000
set_option maxHeartbeats 4000000
/-! E28: exceptions' __init__ in the head; the Hook -/
namespace EE
open PySem PySem.Spec PyProof.Rows L2
/-! ### an __init__ with super() -/
structure ExD where
  c : Str
  f : Str
  qual : Str
  st : Stmt
abbrev FnC : Type := Option (Str × Str × Arguments × FuncBody × Scope × Addr × List Str × Addr)
def iAd (K : PySem.W.Frag) (c : Str) : Addr := He.ma K (He.ga K c) "__init__"
def fnC (K : PySem.W.Frag) (c : Str) : FnC := match K.lookup (iAd K c) with
  | some ⟨_, _, .func fd, _⟩ => some (fd.name, fd.qualname, fd.params, fd.body, fd.scope, fd.globals, fd.closure.map (·.1), fd.builtins)
  | _ => none
def ExD.val (d : ExD) : FnC := some ("__init__", d.qual, defArgs d.st, .stmts (defBody d.st), defScope d.st, mainGlobals, ["__class__"], builtinsNs)
def codB (K : PySem.W.Frag) (cda : Addr) (file : Str) : Bool := match K.lookup cda with
  | some ⟨_, _, .fields vs, _⟩ => (match (vs[2]? : Option Value) with
    | some (Value.str f _) => file == f
    | _ => false)
  | _ => false
def celB (K : PySem.W.Frag) (cc C : Addr) : Bool := match K.lookup cc with
  | some ⟨_, _, .cell (some (.ref C')), _⟩ => decide (C' = C)
  | _ => false
def fdB (K : PySem.W.Frag) (C : Addr) (qual file : Str) (fd : FuncData) : Bool := match fd.closure, fd.code, fd.defaults with
  | [(_, cc)], .ref cda, .none => PySem.W.codeIn K (.ref cda) qual && (codB K cda file && celB K cc C)
  | _, _, _ => false
def iniB (K : PySem.W.Frag) (c f qual file : Str) : Bool := oexB K (He.ga K c) && ((match K.lookup (iAd K c) with
  | some ⟨_, _, .func fd, _⟩ => fdB K (He.ga K c) qual file fd
  | _ => false) && (noB K (He.ga K c) f && (He.eqO (PySem.W.nsIn K cStatics "thirdparty.any") (some none) && (decide (PySem.W.ks_superIn K (He.ga K c) (He.ga K c) "__init__" = some (some (.builtin "ValueError.__init__"))) &&
  (decide (PySem.W.subIn K (.ref (He.ga K c)) (.type "ValueError") = some true) && (decide (PySem.W.mroIn K (He.ga K c) (.ref (He.ga K c)) = some true) && (He.eqO (PySem.W.findIn K (.ref (He.ga K c)) "__init__") (some (some (.ref (iAd K c)))) && decide (PySem.W.typeIn K (.ref (iAd K c)) = some (.type "function")))))))))
structure IniK (K : PySem.W.Frag) (c f qual file : Str) (st : Stmt) : Prop where
  ex : ∃ (oc : Value) (od : Option Addr) (kV doc pm : Value) (an : Option Addr) (cda : Addr) (ct : Value) (cc : Addr) (osl : Array (Option Value)),
    K.lookup (iAd K c) = some ⟨oc, od, .func (PySem.W.ksFn "__init__" qual (defArgs st) (defBody st) (defScope st) .none kV doc pm an (.ref cda) ct cc), osl⟩ ∧ PySem.W.codeIn K (.ref cda) qual = true ∧
    (∃ ccl cdd vs ccs fl tf, K.lookup cda = some ⟨ccl, cdd, .fields vs, ccs⟩ ∧ vs[2]? = some (.str fl tf) ∧ (file == fl) = true) ∧ ∃ cl cld csl, K.lookup cc = some ⟨cl, cld, .cell (some (.ref (He.ga K c))), csl⟩
  oex : OexC K (He.ga K c)
  fno : PySem.W.findIn K (.ref (He.ga K c)) f = some none
  ho : PySem.W.nsIn K cStatics "thirdparty.any" = some none
  hm : PySem.W.ks_superIn K (He.ga K c) (He.ga K c) "__init__" = some (some (.builtin "ValueError.__init__"))
  hB : PySem.W.subIn K (.ref (He.ga K c)) (.type "ValueError") = some true
  hs : PySem.W.mroIn K (He.ga K c) (.ref (He.ga K c)) = some true
  iC : PySem.W.findIn K (.ref (He.ga K c)) "__init__" = some (some (.ref (iAd K c)))
  tI : PySem.W.typeIn K (.ref (iAd K c)) = some (.type "function")
theorem codB_ok {K : PySem.W.Frag} {cda : Addr} {file : Str} (h : codB K cda file = true) : ∃ ccl cdd vs ccs fl tf, K.lookup cda = some ⟨ccl, cdd, .fields vs, ccs⟩ ∧ vs[2]? = some (.str fl tf) ∧ (file == fl) = true := by
  unfold codB at h
  split at h
  · rename_i ccl cdd vs ccs q
    split at h
    · rename_i fl tf q2
      exact ⟨ccl, cdd, vs, ccs, fl, tf, q, q2, h⟩
    · cases h
  · cases h
theorem celB_ok {K : PySem.W.Frag} {cc C : Addr} (h : celB K cc C = true) : ∃ cl cld csl, K.lookup cc = some ⟨cl, cld, .cell (some (.ref C)), csl⟩ := by
  unfold celB at h
  split at h
  · rename_i cl cld C' csl q
    have e := of_decide_eq_true h
    subst e
    exact ⟨cl, cld, csl, q⟩
  · cases h
theorem iniB_ok {K : PySem.W.Frag} {c f qual file : Str} {st : Stmt} (h : iniB K c f qual file = true) (e : fnC K c = ExD.val ⟨c, f, qual, st⟩) : IniK K c f qual file st := by
  obtain ⟨h1, h⟩ := ba h
  obtain ⟨h2, h⟩ := ba h
  obtain ⟨h3, h⟩ := ba h
  obtain ⟨h4, h⟩ := ba h
  obtain ⟨h5, h⟩ := ba h
  obtain ⟨h6, h⟩ := ba h
  obtain ⟨h7, h⟩ := ba h
  obtain ⟨h8, h9⟩ := ba h
  refine ⟨?_, oexB_ok h1, He.eqO_ok h3, He.eqO_ok h4, of_decide_eq_true h5, of_decide_eq_true h6, of_decide_eq_true h7, He.eqO_ok h8, of_decide_eq_true h9⟩
  unfold fnC at e
  cases q : K.lookup (iAd K c) with
  | none => rw [q] at h2; cases h2
  | some o =>
    obtain ⟨oc, od, dt, osl⟩ := o
    rw [q] at h2 e
    cases dt with
    | func fd =>
      obtain ⟨n1, n2, n3, n4, n5, n6, n7, n8, n9, n10, n11, n12, n13, n14, n15⟩ := fd
      have e2 : (some (n1, n2, n3, n4, n5, n6, n7.map (·.1), n15) : FnC) = (some ("__init__", qual, defArgs st, .stmts (defBody st), defScope st, mainGlobals, ["__class__"], builtinsNs) : FnC) := e
      simp only [Option.some.injEq, Prod.mk.injEq] at e2
      obtain ⟨j1, j2, j3, j4, j5, j6, j7, j8⟩ := e2
      have h2 : fdB K (He.ga K c) qual file ⟨n1, n2, n3, n4, n5, n6, n7, n8, n9, n10, n11, n12, n13, n14, n15⟩ = true := h2
      unfold fdB at h2
      split at h2
      · rename_i z cc cda k1 k2 k3
        obtain ⟨g1, h2⟩ := ba h2
        obtain ⟨g2, g3⟩ := ba h2
        have k1 : n7 = [(z, cc)] := k1
        have k2 : n13 = .ref cda := k2
        have k3 : n8 = .none := k3
        subst k1 k2 k3
        have jz : z = "__class__" := by simpa using j7
        subst jz j1 j2 j3 j4 j5 j6 j8
        exact ⟨oc, od, n9, n10, n11, n12, cda, n14, cc, osl, rfl, g1, codB_ok g2, celB_ok g3⟩
      · cases h2
    | _ => cases h2
/-! ### the Hook -/
def asF (g : Addr → Option Obj) : Nat → List Addr
  | 0 => [mainGlobals, cStatics]
  | n + 1 => He.growD g (asF g n)
abbrev AlF : Type := He.AlT × List FnC × Bool
def obsF (fa : List He.Fa) (fn : List He.DefD) (ts : List He.Tab) (xs : List ExD) (ex : PySem.W.Frag → Bool) (K : PySem.W.Frag) : AlF := (He.obsT fa fn ts K, xs.map fun d => fnC K d.c, ex K)
def valF (fn : List He.DefD) (ts : List He.Tab) (xs : List ExD) (w : World) : AlF := (He.valT fn ts w, xs.map ExD.val, true)
structure SaysF (fa : List He.Fa) (fn : List He.DefD) (ts : List He.Tab) (xs : List ExD) (ex : PySem.W.Frag → Bool) (w : World) (K : PySem.W.Frag) : Prop where
  e : obsF fa fn ts xs ex K = valF fn ts xs w
def obsFG (n : Nat) (fa : List He.Fa) (fn : List He.DefD) (ts : List He.Tab) (xs : List ExD) (ex : PySem.W.Frag → Bool) (g : Addr → Option Obj) : AlF := obsF fa fn ts xs ex (He.frG g (asF g n))
def hookF (n : Nat) (fa : List He.Fa) (fn : List He.DefD) (ts : List He.Tab) (xs : List ExD) (ex : PySem.W.Frag → Bool) : PySem.W.Hook where
  α := AlF
  obs := fun s => obsFG n fa fn ts xs ex s.heap.get?
  val := fun w => valF fn ts xs w
  says := fun w h => ∃ K : PySem.W.Frag, K.In h ∧ SaysF fa fn ts xs ex w K
  of := fun _ _ e => ⟨_, He.frG_in, ⟨e⟩⟩
  keeps := fun _ _ _ ⟨K, hK, c⟩ k => ⟨K, PySem.W.Frag.In.keeps hK k, c⟩
theorem obsFG_eq {n : Nat} {fa : List He.Fa} {fn : List He.DefD} {ts : List He.Tab} {xs : List ExD} {ex : PySem.W.Frag → Bool} {g : Addr → Option Obj} {s : Shared} (h : ∀ a, g a = s.heap.get? a) : obsFG n fa fn ts xs ex g = (hookF n fa fn ts xs ex).obs s := by
  have e : g = s.heap.get? := funext h
  rw [e] <;> rfl
section
variable {fa : List He.Fa} {fn : List He.DefD} {ts : List He.Tab} {xs : List ExD} {ex : PySem.W.Frag → Bool} {w : World} {K : PySem.W.Frag}
theorem SaysF.t (c : SaysF fa fn ts xs ex w K) : He.SaysT fa fn ts w K := congrArg (fun z : AlF => z.1) c.e
theorem SaysF.ok (c : SaysF fa fn ts xs ex w K) : ex K = true := congrArg (fun z : AlF => z.2.2) c.e
theorem SaysF.ini (c : SaysF fa fn ts xs ex w K) (i : Nat) {d : ExD} (h : xs[i]? = some d := by rfl) : fnC K d.c = d.val := by
  have e : xs.map (fun d => fnC K d.c) = xs.map ExD.val := congrArg (fun z : AlF => z.2.1) c.e
  have e2 : (xs.map fun d => fnC K d.c)[i]? = (xs.map ExD.val)[i]? := by rw [e]
  rw [List.getElem?_map, List.getElem?_map, h] at e2
  exact Option.some.inj e2
theorem SaysF.tab (c : SaysF fa fn ts xs ex w K) (i : Nat) {t : He.Tab} (h : ts[i]? = some t := by rfl) : He.dicW K (t.1 K) = some (He.keysIn w.params t.2) := by
  have e : ts.map (fun t => He.dicW K (t.1 K)) = ts.map fun t => some (He.keysIn w.params t.2) := congrArg (fun z : He.AlT => z.2) c.t
  have e2 : (ts.map fun t => He.dicW K (t.1 K))[i]? = (ts.map fun t => some (He.keysIn w.params t.2))[i]? := by rw [e]
  rw [List.getElem?_map, List.getElem?_map, h] at e2
  exact Option.some.inj e2
end
end EE
end

section
set_option Elab.async false
set_option linter.all false
set_option maxRecDepth 100000
set_option maxHeartbeats 4000000
namespace WK
open PySem PySem.Spec PyProof.Rows L2 EE
abbrev prog0 : Program := PySem.Challenge.pw_everyend_k06_fields_and_methods_by_paren
def top (i : Nat) : Stmt := prog0.main.body.getD i (.Pass ⟨0, 0, 0, 0⟩)
def c_LETTERS : Str := "abcdefghijklmnopqrstuvwxyz"
def c_KINDS : D := (.tup [(.str "word"), (.str "row"), (.str "kept")])
def c_SHAPES : List (Str × D) := [("set", (.tup [(.str "name"), (.str "expression")])), ("share", (.tup [(.str "shared"), (.str "expression")])), ("pay", (.tup [(.str "price")])), ("ask", (.tup [(.str "name"), (.str "words")])), ("if", (.tup [(.str "test"), (.str "block"), (.str "block")])), ("loop", (.tup [(.str "test"), (.str "block")])), ("return", (.tup [(.str "expression")])), ("raise", (.tup [(.str "expression")])), ("try", (.tup [(.str "block"), (.str "name"), (.str "block")])), ("last", (.tup [(.str "bare"), (.str "block")])), ("call", (.tup [(.str "name"), (.str "function"), (.str "expressions")])), ("apply", (.tup [(.str "name"), (.str "expression"), (.str "expressions")])), ("send", (.tup [(.str "name"), (.str "expression"), (.str "name"), (.str "expressions")])), ("new", (.tup [(.str "name"), (.str "class"), (.str "expressions")])), ("keep", (.tup [(.str "name"), (.str "function"), (.str "expressions")])), ("get", (.tup [(.str "name"), (.str "expression"), (.str "name")])), ("with", (.tup [(.str "name"), (.str "expression"), (.str "name"), (.str "expression")])), ("push", (.tup [(.str "name"), (.str "expression"), (.str "expression")])), ("pop", (.tup [(.str "name"), (.str "expression")]))]
def cs : List Str := ["Program"]
def at_Program : List Str := ["shared_words", "shared_names", "class_rows", "function_rows", "all_fields", "all_methods", "plain_blocks", "place_rows"]
def m_NoName : List (Str × Bool) := [("BadProgram", false), ("NoName", true)]
def x_name : List Str := ["NoName"]
end WK
end

section
set_option Elab.async false
set_option linter.all false
set_option maxRecDepth 100000
set_option maxHeartbeats 0
namespace WK
open PySem PySem.Spec PyProof.Rows L2 EE
def D_is_integer : He.DefD := ⟨("is_integer", none), "is_integer", "is_integer", defArgs (top 2), defBody (top 2), defScope (top 2), [], []⟩
def D_is_number : He.DefD := ⟨("is_number", none), "is_number", "is_number", defArgs (top 3), defBody (top 3), defScope (top 3), [], []⟩
def D_is_name : He.DefD := ⟨("is_name", none), "is_name", "is_name", defArgs (top 4), defBody (top 4), defScope (top 4), [], []⟩
def D_is_unlike : He.DefD := ⟨("is_unlike", none), "is_unlike", "is_unlike", defArgs (top 5), defBody (top 5), defScope (top 5), [], []⟩
def D_is_names : He.DefD := ⟨("is_names", none), "is_names", "is_names", defArgs (top 6), defBody (top 6), defScope (top 6), [], []⟩
def D_is_words : He.DefD := ⟨("is_words", none), "is_words", "is_words", defArgs (top 7), defBody (top 7), defScope (top 7), [], []⟩
def D_is_expression : He.DefD := ⟨("is_expression", none), "is_expression", "is_expression", defArgs (top 11), defBody (top 11), defScope (top 11), [], []⟩
def D_is_expressions : He.DefD := ⟨("is_expressions", none), "is_expressions", "is_expressions", defArgs (top 12), defBody (top 12), defScope (top 12), [], []⟩
def D_is_test : He.DefD := ⟨("is_test", none), "is_test", "is_test", defArgs (top 13), defBody (top 13), defScope (top 13), [], []⟩
def D_returns : He.DefD := ⟨("returns", none), "returns", "returns", defArgs (top 14), defBody (top 14), defScope (top 14), [], []⟩
def D_inner_blocks_blocks : He.DefD := ⟨("inner_blocks_blocks", none), "inner_blocks", "inner_blocks", defArgs (top 15), defBody (top 15), defScope (top 15), [], []⟩
def D_is_known : He.DefD := ⟨("is_known", none), "is_known", "is_known", defArgs (top 17), defBody (top 17), defScope (top 17), [], []⟩
def D_is_part : He.DefD := ⟨("is_part", none), "is_part", "is_part", defArgs (top 18), defBody (top 18), defScope (top 18), [], []⟩
def D_is_statement : He.DefD := ⟨("is_statement", none), "is_statement", "is_statement", defArgs (top 19), defBody (top 19), defScope (top 19), [], []⟩
def D_is_block : He.DefD := ⟨("is_block", none), "is_block", "is_block", defArgs (top 20), defBody (top 20), defScope (top 20), [], []⟩
def D_class_line : He.DefD := ⟨("class_line", none), "class_line", "class_line", defArgs (top 26), defBody (top 26), defScope (top 26), [], []⟩
def D_fields_by_line : He.DefD := ⟨("fields_by_line", none), "fields_by_line", "fields_by_line", defArgs (top 27), defBody (top 27), defScope (top 27), [], []⟩
def D_methods_by_line : He.DefD := ⟨("methods_by_line", none), "methods_by_line", "methods_by_line", defArgs (top 28), defBody (top 28), defScope (top 28), [], []⟩
def D_is_shared : He.DefD := ⟨("is_shared", none), "is_shared", "is_shared", defArgs (top 29), defBody (top 29), defScope (top 29), [], []⟩
def D_is_methods : He.DefD := ⟨("is_methods", none), "is_methods", "is_methods", defArgs (top 30), defBody (top 30), defScope (top 30), [], []⟩
def D_is_class_row : He.DefD := ⟨("is_class_row", none), "is_class_row", "is_class_row", defArgs (top 31), defBody (top 31), defScope (top 31), [], []⟩
def D_is_classes : He.DefD := ⟨("is_classes", none), "is_classes", "is_classes", defArgs (top 32), defBody (top 32), defScope (top 32), [], []⟩
def D_is_function_row : He.DefD := ⟨("is_function_row", none), "is_function_row", "is_function_row", defArgs (top 33), defBody (top 33), defScope (top 33), [], []⟩
def D_is_functions : He.DefD := ⟨("is_functions", none), "is_functions", "is_functions", defArgs (top 34), defBody (top 34), defScope (top 34), [], []⟩
def D_methods_fit : He.DefD := ⟨("methods_fit", none), "methods_fit", "methods_fit", defArgs (top 35), defBody (top 35), defScope (top 35), [], []⟩
def D_check_program : He.DefD := ⟨("check_program", none), "check_program", "check_program", defArgs (top 36), defBody (top 36), defScope (top 36), [], []⟩
def D_gather : He.DefD := ⟨("gather", none), "gather", "gather", defArgs (top 38), defBody (top 38), defScope (top 38), [], []⟩
def D_free_names : He.DefD := ⟨("free_names", none), "free_names", "free_names", defArgs (top 39), defBody (top 39), defScope (top 39), [], []⟩
def D_plain_statement : He.DefD := ⟨("plain_statement", none), "plain_statement", "plain_statement", defArgs (top 40), defBody (top 40), defScope (top 40), [], []⟩
def D_plain_rows : He.DefD := ⟨("plain_rows", none), "plain_rows", "plain_rows", defArgs (top 41), defBody (top 41), defScope (top 41), [], []⟩
def D_plain_block : He.DefD := ⟨("plain_block", none), "plain_block", "plain_block", defArgs (top 42), defBody (top 42), defScope (top 42), [], []⟩
def D_width : He.DefD := ⟨("width", none), "width", "width", defArgs (top 44), defBody (top 44), defScope (top 44), [], []⟩
def D_inner_blocks_places : He.DefD := ⟨("inner_blocks_places", none), "inner_blocks", "inner_blocks", defArgs (top 45), defBody (top 45), defScope (top 45), [], []⟩
def D_inner_blocks : He.DefD := ⟨("inner_blocks", none), "inner_blocks", "inner_blocks", defArgs (top 45), defBody (top 45), defScope (top 45), [], []⟩
def D_heads_of : He.DefD := ⟨("heads_of", none), "heads_of", "heads_of", defArgs (top 47), defBody (top 47), defScope (top 47), [], []⟩
def D_lay : He.DefD := ⟨("lay", none), "lay", "lay", defArgs (top 48), defBody (top 48), defScope (top 48), [], []⟩
def D_places_of : He.DefD := ⟨("places_of", none), "places_of", "places_of", defArgs (top 49), defBody (top 49), defScope (top 49), [], []⟩
def D_copied_classes : He.DefD := ⟨("copied_classes", none), "copied_classes", "copied_classes", defArgs (top 51), defBody (top 51), defScope (top 51), [], []⟩
def D_fields_of : He.DefD := ⟨("fields_of", none), "fields_of", "fields_of", defArgs (top 53), defBody (top 53), defScope (top 53), [], []⟩
def D_method_of : He.DefD := ⟨("method_of", none), "method_of", "method_of", defArgs (top 54), defBody (top 54), defScope (top 54), [], []⟩
def D__law_pot : He.DefD := ⟨("_law_pot", none), "_law_pot", "_law_pot", defArgs (top 56), defBody (top 56), defScope (top 56), [], []⟩
def D__law_take : He.DefD := ⟨("_law_take", none), "_law_take", "_law_take", defArgs (top 57), defBody (top 57), defScope (top 57), [], []⟩
def D__law_name : He.DefD := ⟨("_law_name", none), "_law_name", "_law_name", defArgs (top 58), defBody (top 58), defScope (top 58), [], []⟩
def D__law_turned : He.DefD := ⟨("_law_turned", none), "_law_turned", "_law_turned", defArgs (top 59), defBody (top 59), defScope (top 59), [], []⟩
def D__law_methods : He.DefD := ⟨("_law_methods", none), "_law_methods", "_law_methods", defArgs (top 60), defBody (top 60), defScope (top 60), [], []⟩
def D__law_classes : He.DefD := ⟨("_law_classes", none), "_law_classes", "_law_classes", defArgs (top 61), defBody (top 61), defScope (top 61), [], []⟩
def D__law_line : He.DefD := ⟨("_law_line", none), "_law_line", "_law_line", defArgs (top 62), defBody (top 62), defScope (top 62), [], []⟩
def D__law_refused : He.DefD := ⟨("_law_refused", none), "_law_refused", "_law_refused", defArgs (top 63), defBody (top 63), defScope (top 63), [], []⟩
def D__law_right : He.DefD := ⟨("_law_right", none), "_law_right", "_law_right", defArgs (top 64), defBody (top 64), defScope (top 64), [], []⟩
def D_law : He.DefD := ⟨("law", none), "law", "law", defArgs (top 65), defBody (top 65), defScope (top 65), [], []⟩
def D_Program_init_ : He.DefD := ⟨("Program", some "__init__"), "__init__", "Program.__init__", defArgs (clsAt (top 52) 0), defBody (clsAt (top 52) 0), defScope (clsAt (top 52) 0), [], []⟩
def D_Program_fill : He.DefD := ⟨("Program", some "fill"), "fill", "Program.fill", defArgs (clsAt (top 52) 1), defBody (clsAt (top 52) 1), defScope (clsAt (top 52) 1), [], []⟩
def fnL : List He.DefD := ([D_is_integer, D_is_number, D_is_name, D_is_unlike, D_is_names, D_is_words, D_is_expression, D_is_expressions] : List He.DefD) ++ ([D_is_test, D_returns, D_inner_blocks_blocks, D_is_known, D_is_part, D_is_statement, D_is_block, D_class_line] : List He.DefD) ++ ([D_fields_by_line, D_methods_by_line, D_is_shared, D_is_methods, D_is_class_row, D_is_classes, D_is_function_row, D_is_functions] : List He.DefD) ++ ([D_methods_fit, D_check_program, D_gather, D_free_names, D_plain_statement, D_plain_rows, D_plain_block, D_width] : List He.DefD) ++ ([D_inner_blocks_places, D_inner_blocks, D_heads_of, D_lay, D_places_of, D_copied_classes, D_fields_of, D_method_of] : List He.DefD) ++ ([D__law_pot, D__law_take, D__law_name, D__law_turned, D__law_methods, D__law_classes, D__law_line, D__law_refused] : List He.DefD) ++ ([D__law_right, D_law, D_Program_init_, D_Program_fill] : List He.DefD)
def faL : List He.Fa := ([.glo "is_integer", .glo "is_number", .glo "is_name", .glo "is_unlike", .glo "is_names", .glo "is_words", .glo "is_expression", .glo "is_expressions"] : List He.Fa) ++ ([.glo "is_test", .glo "returns", .glo "inner_blocks_blocks", .glo "is_known", .glo "is_part", .glo "is_statement", .glo "is_block", .glo "class_line"] : List He.Fa) ++ ([.glo "fields_by_line", .glo "methods_by_line", .glo "is_shared", .glo "is_methods", .glo "is_class_row", .glo "is_classes", .glo "is_function_row", .glo "is_functions"] : List He.Fa) ++ ([.glo "methods_fit", .glo "check_program", .glo "gather", .glo "free_names", .glo "plain_statement", .glo "plain_rows", .glo "plain_block", .glo "width"] : List He.Fa) ++ ([.glo "inner_blocks_places", .glo "inner_blocks", .glo "heads_of", .glo "lay", .glo "places_of", .glo "copied_classes", .glo "fields_of", .glo "method_of"] : List He.Fa) ++ ([.glo "_law_pot", .glo "_law_take", .glo "_law_name", .glo "_law_turned", .glo "_law_methods", .glo "_law_classes", .glo "_law_line", .glo "_law_refused"] : List He.Fa) ++ ([.glo "_law_right", .glo "law", .glo "Program", .glo "KINDS", .glo "SHAPES", .glo "NoName", .glo "BadProgram", .free "abs"] : List He.Fa) ++ ([.free "all", .free "any", .free "bool", .free "dict", .free "enumerate", .free "int", .free "isinstance", .free "len"] : List He.Fa) ++ ([.free "list", .free "range", .free "reversed", .free "set", .free "sorted", .free "str", .free "tuple", .free "super"] : List He.Fa) ++ ([.str "LETTERS" c_LETTERS, .cls "Program", .mkr "Program", .meth "Program" "fill"] : List He.Fa)
def tsL : List He.Tab := [(fun K => He.ga K "SHAPES", c_SHAPES.map (·.1))]
def xsL : List ExD := [⟨"BadProgram", "part", "BadProgram.__init__", (clsAt (top 23) 0)⟩, ⟨"NoName", "name", "NoName.__init__", (clsAt (top 24) 0)⟩]
def exL (K : PySem.W.Frag) : Bool := (dB K c_KINDS (.ref (He.ga K "KINDS")) && (tabB K (He.ga K "SHAPES") c_SHAPES && ((cs.all fun c => insB K c) && (atB K "Program" at_Program && (exmB K "NoName" m_NoName && (xfsB K x_name "name" && (iniB K "BadProgram" "part" "BadProgram.__init__" prog0.main.file && (iniB K "NoName" "name" "NoName.__init__" prog0.main.file && true))))))))
abbrev R : PySem.W.OpenRow := PySem.W.OpenLaw.row PySem.Challenge.rw_everyend_k06_fields_and_methods_by_paren
abbrev qv : Program := PySem.W.view R.prog [65]
def names : List PySem.Str := (["LETTERS", "is_integer", "is_number", "is_name", "is_unlike", "is_names", "is_words", "KINDS"] : List PySem.Str) ++ (["SHAPES", "is_expression", "is_expressions", "is_test", "returns", "inner_blocks", "inner_blocks_blocks", "is_known"] : List PySem.Str) ++ (["is_part", "is_statement", "is_block", "EndError", "BadProgram", "NoName", "class_line", "fields_by_line"] : List PySem.Str) ++ (["methods_by_line", "is_shared", "is_methods", "is_class_row", "is_classes", "is_function_row", "is_functions", "methods_fit"] : List PySem.Str) ++ (["check_program", "gather", "free_names", "plain_statement", "plain_rows", "plain_block", "width", "inner_blocks_places"] : List PySem.Str) ++ (["heads_of", "lay", "places_of", "copied_classes", "Program", "fields_of", "method_of", "_law_pot"] : List PySem.Str) ++ (["_law_take", "_law_name", "_law_turned", "_law_methods", "_law_classes", "_law_line", "_law_refused", "_law_right"] : List PySem.Str)
abbrev hk : PySem.W.Hook := hookF 4 faL fnL tsL xsL exL
def ob (s : PySem.W.SharedT) : AlF := obsFG 4 faL fnL tsL xsL exL (HandSHeadRun.getT s)
theorem ob_eq (s : PySem.W.SharedT) : ob s = hk.obs s.abs := obsFG_eq (HandSHeadRun.getT_eq s)
theorem headRun (w : World) : HandSHeadRun.RunEq R qv hk ob 6000 names w := by
  refine PySem.W.byRow2 "special-get-raises" (P := fun w => HandSHeadRun.RunEq R qv hk ob 6000 names w) (fun w => ?_) (fun w => ?_) w
  · intro os
    kernel_rfl
  · intro os
    kernel_rfl
end WK
end

section
set_option Elab.async false
set_option linter.all false
set_option maxRecDepth 100000
set_option maxHeartbeats 8000000
/-! E18: len(set(xs)), xs texts -/
namespace EE
open PySem PySem.Spec PyProof.Rows L2
/-- how many unlike ones there are among the first i -/
def cntS (xs : List Str) : Nat → Nat
  | 0 => 0
  | i + 1 => if (xs.take i).any (· == xs.getD i Str.empty) then cntS xs i else cntS xs i + 1
theorem cntS_le (xs : List Str) : ∀ i, cntS xs i ≤ i
  | 0 => Nat.le_refl _
  | i + 1 => by
    have := cntS_le xs i
    unfold cntS
    split <;> omega
section
variable {prog : Program} {w : World} {A : Around} {R : Result → Shared → Prop} {I : Addr} {fp wr : List Addr} {G : Array GenState → Array GenState → Prop} {n : Nat} {P : Nat → Value → Prop} {St : Nat → Shared → Prop}
theorem set_loop (W : WalksS prog w A.in1 I fp wr G n P St) (S : Addr) (hSf : S ∉ fp) (xs : List Str) (hsz : xs.length = n) (hn : n < 3000) (hval : ∀ i v, P i v → ∃ t, v = .str (xs.getD i Str.empty) t) :
    ∀ (k i : Nat) (s : Shared), n - i = k → i ≤ n → St i s → s.heap.SetOf (PySem.strKind prog w) S (fun x => (xs.take i).any (· == x)) (cntS xs i) →
      (∀ s', Moved (S :: wr) G s s' → s'.heap.SetOf (PySem.strKind prog w) S (fun x => (xs.take n).any (· == x)) (cntS xs n) → R (.ok (.ret .none)) s') → codeAny (model prog w) A (.builtin "set.update.loop" ⟨[.ref S, .ref I], []⟩) R s := by
  have hSw : S ∉ wr := fun h => hSf (W.sub _ h)
  have mo : ∀ {s s' : Shared} {T : Str → Bool} {m : Nat}, Moved wr G s s' → s.heap.SetOf (PySem.strKind prog w) S T m → s'.heap.SetOf (PySem.strKind prog w) S T m := fun hm ⟨o, es, ep, t, ho, rest⟩ => ⟨o, es, ep, t, hm.heap S _ hSw ho, rest⟩
  intro k
  induction k with
  | zero =>
    intro i s hk hi hst hS hR
    obtain rfl : i = n := by omega
    refine codeAny_builtin PyProof.Rows.F.entry_set_update_loop ?_
    rw [Around.under_plainId PyProof.Rows.F.plain_set_update_loop _]
    show wpAny _ A.in1 (pyNext (.ref I) >>= _) _ _ s
    refine wpAny_bind (W.done s _ _ hst fun s' hm => ?_)
    show wpAny _ A.in1 (ret Value.none) _ _ s'
    exact wpAny_pure (hR s' (hm.mono fun b hb => List.mem_cons_of_mem _ hb) (mo hm hS))
  | succ k ih =>
    intro i s hk hi hst hS hR
    have hlt : i < n := by omega
    refine codeAny_builtin PyProof.Rows.F.entry_set_update_loop ?_
    rw [Around.under_plainId PyProof.Rows.F.plain_set_update_loop _]
    show wpAny _ A.in1 (pyNext (.ref I) >>= _) _ _ s
    refine wpAny_bind (W.item i s _ _ hlt hst fun v s' hP hst' hm => ?_)
    obtain ⟨t, rfl⟩ := hval i v hP
    show wpAny _ A.in1 (holding [Value.str (xs.getD i Str.empty) t] (setAdd S (.str (xs.getD i Str.empty) t)) >>= _) _ _ s'
    have hS' := mo hm hS
    refine wpAny_bind (wpAny_holding ?_)
    unfold setAdd
    refine wpAny_holding (wpAny_bind ((PySem.strKind prog w).pyHash (k := xs.getD i Str.empty) (strKind_is _ _ _ _) ?_))
    refine wpAny_setAddHashed_of (knd := PySem.strKind prog w) (s := { s' with toks := s'.toks + 1 }) (strKind_is _ _ _ _) rfl hS' (by have := cntS_le xs i; unfold scanBound; omega) fun h' hsb hS2 => ?_
    have hSi : h'.SetOf (PySem.strKind prog w) S (fun x => (xs.take (i + 1)).any (· == x)) (cntS xs (i + 1)) := by
      refine SetOf_congr hS2 (fun x => ?_) ?_
      · have e : xs.take (i + 1) = xs.take i ++ [xs.getD i Str.empty] := by
          rw [List.take_add_one, List.getD_eq_getElem?_getD, List.getElem?_eq_getElem (by omega)]
          rfl
        rw [e, List.any_append]
        congr 1
        simp only [List.any_cons, List.any_nil, Bool.or_false]
        by_cases q : x = xs.getD i Str.empty
        · subst q; simp
        · rw [decide_eq_false q]
          cases z : (xs.getD i Str.empty == x) with
          | true => exact absurd (eq_of_beq z).symm q
          | false => rfl
      · rfl
    refine wpAny_pure ⟨plainId_quiet PyProof.Rows.F.plain_set_update_loop _, ih (i + 1) _ (by omega) hlt (W.frame _ s' _ _ hst' (Nat.le_succ _) fun b hb o e => ?_) hSi fun s'' hm'' hS'' => ?_⟩
    · rw [hsb.2 b fun z => hSf (by rw [← z]; exact hb)]; exact e
    · refine hR s'' (Moved.trans W.gtrans ((hm.mono fun b hb => List.mem_cons_of_mem _ hb).then_heap (Nat.le_succ _) fun b o hb e => ?_) hm'') hS''
      rw [hsb.2 b fun z => hb (by rw [z]; exact List.mem_cons_self)]; exact e
end
section
variable {prog : Program} {w : World} {A : Around} {E : Value → Shared → Prop} {s : Shared}
/-- set(v), v a list or a tuple of texts -/
theorem set_of {c : String} {l : Addr} {dct : Option Addr} {items : Array Value} {nl : Nat} {sl : Array (Option Value)} {oi : Obj} {Gd : Heap → Prop} {Gg : Array GenState → Array GenState → Prop} {St : Addr → Nat → Shared → Prop} {xs : List Str} {Q : Value → Shared → Prop}
    (hh : A.handled = none) (hol : s.heap.get? l = some ⟨.type c, dct, .seq items nl, sl⟩) (hi : PyProof.Rows.StrsAre items.toList xs) (hn : xs.length < 3000) (B : Begins (.ref l) oi Gd) (hG : Gd s.heap)
    (W : ∀ (A : Around) (I : Addr), A.handled = none → l ≠ I → WalksS prog w A I [I, l] [I] Gg items.size (fun i v => items[i]? = some v) (St I)) (hst : ∀ (I : Addr) (s : Shared), s.heap.get? I = some oi → Gd s.heap → St I 0 s) (hGg : ∀ a b, Gg a b → a = b)
    (hc : (c = "list" ∧ True) ∨ (c = "tuple" ∧ True))
    (h : ∀ (h' : Heap) (tk : Nat), h'.SetOf (PySem.strKind prog w) s.heap.objs.size (fun x => (xs.take items.size).any (· == x)) (cntS xs items.size) → (∀ b o, b < s.heap.objs.size → s.heap.get? b = some o → h'.get? b = some o) → Q (.ref s.heap.objs.size) { s with heap := h', toks := tk }) :
    wpAny (model prog w) A (call (.type "set") [.ref l]) Q E s := by
  obtain ⟨cc, tl, hmro⟩ := PySem.F.called_set.mro
  have hmade := PySem.F.called_set.made
  have hsub := PySem.F.called_set.sub
  refine wpAny_call (codeAny_of_tree ?_)
  show wpAny _ _ (callAny (.type "set") _) _ _ _
  refine wpAny_pure ⟨Code.quiet_builtin _ (by decide +kernel), codeAny_builtin PySem.F.entry_type_call ?_⟩
  rw [Around.under_plain (weight_type_call_type "set" [.ref l] []) rfl]
  have h1 := PySem.F.called_set.notType
  have h2 := PySem.F.called_set.canCreate
  have hct := PySem.F.typeCall_set_1 (.ref l)
  repeat (any_goals (first | assumption | wp_step))
  have new0 : ∀ led : Bool, (s.heap.push { cls := .type "set", dict := none, data := .set #[] 0 (.fresh 0 0 led) }).get? s.heap.objs.size = some { cls := .type "set", dict := none, data := .set #[] 0 (.fresh 0 0 led) } := fun led => Heap.get?_push_size _ rfl
  refine codeAny_mono (code_set_new_1 (.ref l) (E := E) (Q₁ := fun obj s₁ => ∃ led : Bool, obj = .ref s.heap.objs.size ∧ s₁ = { s with heap := s.heap.push { cls := .type "set", dict := none, data := .set #[] 0 (.fresh 0 0 led) } }) fun led => ⟨led, rfl, rfl⟩) fun r s₁ hr => ?_
  cases r with
  | error e => exact hr
  | ok fl =>
    cases fl with
    | ret obj =>
      obtain ⟨led, rfl, rfl⟩ := hr
      have hS := new0 led
      have hT : Shared.TypeIs { s with heap := s.heap.push { cls := .type "set", dict := none, data := .set #[] 0 (.fresh 0 0 led) } } (.ref s.heap.objs.size) "set" := ⟨_, hS, rfl⟩
      have hli := PySem.F.called_set.init.lookup
      have hbi := PySem.F.called_set.init.bind (.ref s.heap.objs.size)
      repeat (any_goals (first | assumption | wp_step))
      refine codeAny_mono (codeAny_call_builtin (R := wants (fun r s₂ => r = .none ∧ ∃ h' tk, s₂ = { s with heap := h', toks := tk } ∧ h'.SetOf (PySem.strKind prog w) s.heap.objs.size (fun x => (xs.take items.size).any (· == x)) (cntS xs items.size) ∧
          (∀ b o, b < s.heap.objs.size → s.heap.get? b = some o → h'.get? b = some o)) E) PySem.F.called_set.init.plain PySem.F.entry_set_init (check_set_init_1 hT ?_)) fun r₂ s₂ hr₂ => ?_
      · have hol' : (s.heap.push { cls := .type "set", dict := none, data := .set #[] 0 (.fresh 0 0 led) }).get? l = some ⟨.type c, dct, .seq items nl, sl⟩ := Heap.get?_push_of_some _ hol
        have hG1 : Gd (s.heap.push { cls := .type "set", dict := none, data := .set #[] 0 (.fresh 0 0 led) }) := B.keeps _ _ hG fun b o e => Heap.get?_push_of_some _ e
        have lt : l < s.heap.objs.size := Heap.lt_size hol
        have hh3 : A.in1.in1.in1.handled = none := by simp [hh]
        have szp : (s.heap.push { cls := .type "set", dict := none, data := .set #[] 0 (.fresh 0 0 led) }).objs.size = s.heap.objs.size + 1 := Heap.size_push _ _
        have hneI : l ≠ s.heap.objs.size + 1 := Nat.ne_of_lt (Nat.lt_succ_of_lt lt)
        have hSf : s.heap.objs.size ∉ [s.heap.objs.size + 1, l] := by
          simp only [List.mem_cons, List.not_mem_nil, or_false, not_or]
          exact ⟨Nat.ne_of_lt (Nat.lt_succ_self _), Nat.ne_of_gt lt⟩
        have hsz : xs.length = items.size := by rw [← StrsAre.len_eq hi, Array.length_toList]
        have hval : ∀ (i : Nat) (v : Value), items[i]? = some v → ∃ t, v = .str (xs.getD i Str.empty) t := fun i v hv => SS.strs_at hi i v (by rw [Array.getElem?_toList]; exact hv)
        have fin : codeAny (model prog w) A.in1.in1 (.builtin "set.update.loop" ⟨[.ref s.heap.objs.size, .ref (s.heap.push { cls := .type "set", dict := none, data := .set #[] 0 (.fresh 0 0 led) }).objs.size], []⟩)
            (wants (fun r s₂ => r = .none ∧ ∃ h' tk, s₂ = { s with heap := h', toks := tk } ∧ h'.SetOf (PySem.strKind prog w) s.heap.objs.size (fun x => (xs.take items.size).any (· == x)) (cntS xs items.size) ∧ (∀ b o, b < s.heap.objs.size → s.heap.get? b = some o → h'.get? b = some o)) E)
            { s with heap := (s.heap.push { cls := .type "set", dict := none, data := .set #[] 0 (.fresh 0 0 led) }).push oi } := by
          rw [szp]
          have gI : ((s.heap.push { cls := .type "set", dict := none, data := .set #[] 0 (.fresh 0 0 led) }).push oi).get? (s.heap.objs.size + 1) = some oi := by
            have := Heap.get?_push_size (s.heap.push { cls := .type "set", dict := none, data := .set #[] 0 (.fresh 0 0 led) }) (o := oi) B.free
            rwa [szp] at this
          refine set_loop (W A.in1.in1.in1 (s.heap.objs.size + 1) hh3 hneI) s.heap.objs.size hSf xs hsz (by omega) hval (items.size - 0) 0 _ (by omega) (Nat.zero_le _) (hst _ _ gI (B.keeps _ _ hG1 fun b o e => Heap.get?_push_of_some _ e)) ?_ fun s' hm hS' => ?_
          · exact PyProof.Rows.SetOf_congr ((PyProof.Rows.setObjOf_fresh (knd := PySem.strKind prog w) led).setOf (Heap.get?_push_of_some _ hS) (by unfold scanBound; omega)) (fun _ => rfl) rfl
          · obtain ⟨h', g', d', tk', os'⟩ := s'
            have eg : g' = s.gens := (hGg _ _ hm.gens).symm
            have ed : d' = s.drawn := hm.drawn
            have eo : os' = s.os := hm.os
            subst eg; subst ed; subst eo
            refine ⟨rfl, h', tk', rfl, hS', fun b o hb e => hm.heap b o ?_ (Heap.get?_push_of_some _ (Heap.get?_push_of_some _ e))⟩
            simp only [List.mem_cons, List.not_mem_nil, or_false, not_or]
            exact ⟨Nat.ne_of_lt hb, Nat.ne_of_lt (Nat.lt_succ_of_lt hb)⟩
        have done_ : ∀ {r : Result} {s' : Shared}, wants (fun r s₂ => r = .none ∧ ∃ h' tk, s₂ = { s with heap := h', toks := tk } ∧ h'.SetOf (PySem.strKind prog w) s.heap.objs.size (fun x => (xs.take items.size).any (· == x)) (cntS xs items.size) ∧ (∀ b o, b < s.heap.objs.size → s.heap.get? b = some o → h'.get? b = some o)) E r s' → True := fun _ => trivial
        rcases hc with ⟨rfl, _⟩ | ⟨rfl, _⟩
        · skip
          have hsls := PySem.F.sub_list_set
          have hslf := PySem.F.sub_list_frozenset
          have hne : (Value.type "list" == Value.type "dict") = false := by decide
          unfold Builtin.«set.__init__» noKeywords Builtin.Frozenset.updateFrom
          generalize hPI : pyIter = PI
          wp_walk
          subst hPI
          refine B.iter _ _ _ _ _ _ hG1 ?_
          refine wpAny_bind (wpAny_runValue (codeAny_mono fin fun r s' hr => ?_))
          cases r with
          | error e => exact hr
          | ok fl =>
            cases fl with
            | ret u =>
              obtain ⟨rfl, hr⟩ := hr
              exact wpAny_pure (wpAny_pure ⟨rfl, hr⟩)
            | _ => exact hr.elim
        · skip
          have hsls := PySem.F.sub_tuple_set
          have hslf := PySem.F.sub_tuple_frozenset
          have hne : (Value.type "tuple" == Value.type "dict") = false := by decide
          unfold Builtin.«set.__init__» noKeywords Builtin.Frozenset.updateFrom
          generalize hPI : pyIter = PI
          wp_walk
          subst hPI
          refine B.iter _ _ _ _ _ _ hG1 ?_
          refine wpAny_bind (wpAny_runValue (codeAny_mono fin fun r s' hr => ?_))
          cases r with
          | error e => exact hr
          | ok fl =>
            cases fl with
            | ret u =>
              obtain ⟨rfl, hr⟩ := hr
              exact wpAny_pure (wpAny_pure ⟨rfl, hr⟩)
            | _ => exact hr.elim
      · cases r₂ with
        | error e => exact hr₂
        | ok fl₂ =>
          cases fl₂ with
          | ret r =>
            obtain ⟨rfl, h', tk, rfl, hS', hk'⟩ := hr₂
            repeat (any_goals (first | assumption | wp_step))
            exact h _ _ hS' hk'
          | _ => exact hr₂.elim
    | _ => exact hr.elim
end
section
variable {X : Cx} {W : Wn}
def tSetLen (K : PySem.W.Frag) (ta : TE) : TE := fun σ H Q => ta σ H fun x H1 => ∃ l, ∃ xs : List Str, x = .ref l ∧ (SqL K H1 l (xs.map V.str) ∨ SqT K H1 l (xs.map V.str)) ∧ xs.length < 3000 ∧ Q (.int (cntS xs xs.length)) H1
theorem pe_setLen {a : Expr} {ta : TE} {p p2 q pos : Pos} (hc : X.calm = true) (hg : Gl X "len") (hm : X.mg "len" = none) (hg2 : Gl X "set") (hm2 : X.mg "set" = none) (ha : PE X a ta) (na : starEach [a] X.env = (false, eval a X.env) :: starEach [] X.env := by rfl) :
    PE X (.Call (.Name "len" p) [.Call (.Name "set" p2) [a] [] q] [] pos) (tSetLen X.K ta) := by
  refine ⟨fun pins s σ H Q I h => ?_⟩
  refine Call_ (ld_blt I hg hm boot_len ?_)
  refine PyProof.Rows.callWith_builtin1 (PyProof.Rows.args_cons ?_ rfl) rfl rfl
  refine Call_ (ld_blt I hg2 hm2 boot_set ?_)
  refine PyProof.Rows.callWith_type1 (PyProof.Rows.args_cons (thn (ha.run pins s σ H _ I h) fun v s1 ⟨x, H1, I1, r1, q1⟩ => PyProof.Rows.args_nil ?_) na) na rfl
  obtain ⟨l, xs, rfl, hq, h1, q1⟩ := q1
  cases r1
  have fin : ∀ (its : List Value), Vals (xs.map V.str) its → ∀ (h' : Heap) (tk : Nat), h'.SetOf (PySem.strKind X.prog X.w) s1.heap.objs.size (fun x => (xs.take its.toArray.size).any (· == x)) (cntS xs its.toArray.size) → (∀ b o, b < s1.heap.objs.size → s1.heap.get? b = some o → h'.get? b = some o) →
      wpAny (model X.prog X.w) X.A (spliced (backTo pos (starEach [] X.env))) (fun vs s₂ => wpAny (model X.prog X.w) X.A (call (.builtin "len") (Value.ref s1.heap.objs.size :: vs)) (EP X pins σ Q) X.xe s₂) X.xe { s1 with heap := h', toks := tk } := fun its r h' tk hS hk => by
    refine PyProof.Rows.args_nil ?_
    have hl : its.toArray.size = xs.length := by rw [List.size_toArray, ← r.length, List.length_map]
    rw [hl] at hS
    obtain ⟨o, es, ep, t, ho, hex, hd, _, _, _, hf, hn⟩ := hS
    have I2 : Inv X pins σ H1 { s1 with heap := h', toks := tk } := I1.kept fun b o e => hk b o (Heap.lt_size e) e
    have := cntS_le xs xs.length
    exact call_len_set ho hex hd hf (by rw [hn] <;> omega) ⟨.int (cntS xs xs.length), H1, I2.tok _, ⟨_, by rw [hn]⟩, q1⟩
  rcases hq with hq | hq
  · obtain ⟨its, r, pl, hz⟩ := I1.list hq
    obtain ⟨⟨c, dd, dt, sl⟩, ho, hc', n, hd⟩ := pl.isList
    simp only at hc' hd
    subst hc' hd
    exact set_of (c := "list") (I1.ok.hd hc) ho (by simpa using strsAre_of r) h1 (begins_list l its.toArray) pl.isList (fun A I hA ne => (Walks.list hA I l ne its.toArray).toS) (fun I s e g => ⟨⟨_, e, rfl, rfl⟩, g⟩) (fun a b e => e.symm) (.inl ⟨rfl, trivial⟩) fun h' tk hS hk => fin its r h' tk hS hk
  · obtain ⟨its, r, pl, hz⟩ := I1.tuple hq
    obtain ⟨⟨c, dd, dt, sl⟩, ho, hc', n, hd⟩ := id pl
    simp only at hc' hd
    subst hc' hd
    exact set_of (c := "tuple") (I1.ok.hd hc) ho (by simpa using strsAre_of r) h1 (begins_tuple l its.toArray) pl (fun A I hA ne => (Walks.tuple hA I l ne its.toArray).toS) (fun I s e g => ⟨⟨_, e, rfl, rfl⟩, g⟩) (fun a b e => e.symm) (.inr ⟨rfl, trivial⟩) fun h' tk hS hk => fin its r h' tk hS hk
variable [XAd]
def fSetLen (d : D) : Option D := (starD d).bind fun ds => (strsD ds).bind fun xs => if xs.length < 3000 then some (.int (cntS xs xs.length)) else none
theorem de_setLen {a : Expr} {m : M D} {p p2 q pos : Pos} (hc : X.calm = true) (hg : Gl X "len") (hm : X.mg "len" = none) (hg2 : Gl X "set") (hm2 : X.mg "set" = none) (ha : DE X W a m) (na : starEach [a] X.env = (false, eval a X.env) :: starEach [] X.env := by rfl) :
    DE X W (.Call (.Name "len" p) [.Call (.Name "set" p2) [a] [] q] [] pos) (m1 fSetLen m) := by
  obtain ⟨t, pp, k⟩ := ha
  refine ⟨_, pe_setLen hc hg hm hg2 hm2 pp na, fun fr B σ H ρ Q s h => ?_⟩
  refine k fr B σ H ρ _ s (h.step fun d ρ1 h v B1 H1 t1 s1 r1 => ?_)
  obtain ⟨d', e, q⟩ := h.of
  obtain ⟨ds, e1, e2⟩ := Option.bind_eq_some_iff.mp e
  obtain ⟨xs, e3, e4⟩ := Option.bind_eq_some_iff.mp e2
  split at e4
  · rename_i hz
    cases e4
    have := strsD_inv e3
    subst this
    cases d with
    | lst ds0 =>
      cases e1
      obtain ⟨l, ys, rfl, q1, q2⟩ := r1.lst_inv
      have := rep_strs q2
      subst this
      exact ⟨l, xs, rfl, .inl ((rd_sub s1.sub q1)), hz, q _ B1 H1 t1 s1 .int⟩
    | tup ds0 =>
      cases e1
      obtain ⟨l, ys, rfl, q1, q2⟩ := r1.tup_inv
      have := rep_strs q2
      subst this
      exact ⟨l, xs, rfl, .inr (ex_t s1.sub.ex q1), hz, q _ B1 H1 t1 s1 .int⟩
    | _ => cases e1
  · cases e4
end
end EE
end

section
set_option Elab.async false
set_option linter.all false
set_option maxRecDepth 100000
set_option maxHeartbeats 4000000
/-! E29: == and != of lists and dicts that hold dicts, where they are equal -/
namespace PySem.SeqAt
open AutoSeq1 (wpAny_loadPart')
open MeetsSeq MeetsSeq2 MeetsSeq3 SeqRoads2
section
variable {prog : Program} {w : World}
/-- two lists of one length, each pair equal: != says no -/
theorem ee_ne_turn (l b : Addr) (xs ys : Array Value) (n n2 : Nat) (dd dd2 : Option Addr) (sl sl2 : Array (Option Value)) (hz : xs.size = ys.size) (k : Nat) :
    ∀ i : Nat, xs.size - i = k → MeetsIn prog w (Builtin.«list.__eq__.loop» ⟨[.ref l, .ref b, rawInt i, rawInt 3], []⟩)
      (fun A R s => s.heap.get? l = some { cls := .type "list", dict := dd, data := .seq xs n, slots := sl } ∧ s.heap.get? b = some { cls := .type "list", dict := dd2, data := .seq ys n2, slots := sl2 } ∧
        (∀ j (h1 : j < xs.size) (h2 : j < ys.size), EqP prog w A.in1 s xs[j] ys[j] true) ∧ R (.ok (.ret (.bool false))) s) := by
  induction k with
  | zero =>
    intro i hk A R s h
    obtain ⟨hp, g, d, tk, os⟩ := s
    obtain ⟨hl, hb, he, h⟩ := h
    wp_walk using wpAny_loadPart' hl, wpAny_loadPart' hb
    have o1 : xs[((i : Nat) : Int).toNat]? = none := by simp; omega
    have o2 : ys[((i : Nat) : Int).toNat]? = none := by simp; omega
    rw [o1, o2]
    wp_walk using wpAny_loadPart' hl, wpAny_loadPart' hb
    show R (.ok (.ret (.bool (xs.size != ys.size)))) _
    rw [hz]
    simpa using h
  | succ k ih =>
    intro i hk A R s h
    obtain ⟨hp, g, d, tk, os⟩ := s
    obtain ⟨hl, hb, he, h⟩ := h
    wp_walk using wpAny_loadPart' hl, wpAny_loadPart' hb
    have t1 : i < xs.size := by omega
    have t2 : i < ys.size := by omega
    have o1 : xs[((i : Nat) : Int).toNat]? = some xs[i] := by simp [t1]
    have o2 : ys[((i : Nat) : Int).toNat]? = some ys[i] := by simp [t2]
    have oc : ((i : Int) + 1) = ((i + 1 : Nat) : Int) := by push_cast; rfl
    rw [o1, o2]
    refine wpAny_bind (he i t1 t2 _ _ ?_)
    wp_walk
    rw [oc]
    exact ⟨plainId_quiet plain_eq_loop _, codeAny_builtin entry_eq_loop (by
      rw [Around.under_plainId plain_eq_loop _]
      exact ih (i + 1) (by omega) A R _ ⟨hl, hb, he, h⟩)⟩
theorem ee_ne_list (l b : Addr) (xs ys : Array Value) (n n2 : Nat) (dd dd2 : Option Addr) (sl sl2 : Array (Option Value)) (hz : xs.size = ys.size) :
    MeetsIn prog w (Builtin.«list.__ne__» ⟨[.ref l, .ref b], []⟩)
      (fun A R s => s.heap.get? l = some { cls := .type "list", dict := dd, data := .seq xs n, slots := sl } ∧ s.heap.get? b = some { cls := .type "list", dict := dd2, data := .seq ys n2, slots := sl2 } ∧
        (∀ j (h1 : j < xs.size) (h2 : j < ys.size), EqP prog w A.in1 s xs[j] ys[j] true) ∧ R (.ok (.ret (.bool false))) s) := by
  intro A R s h
  obtain ⟨hp, g, d, tk, os⟩ := s
  obtain ⟨hl, hb, he, h⟩ := h
  have f3 := AutoSeq1.sub_list_list
  have hne : ¬ (xs.size != ys.size) = true := by simp [hz]
  wp_walk using wpAny_loadPart' hl, wpAny_loadPart' hb
  exact ⟨plainId_quiet plain_eq_loop _, codeAny_builtin entry_eq_loop (by
    rw [Around.under_plainId plain_eq_loop _]
    exact ee_ne_turn l b xs ys n n2 dd dd2 sl sl2 hz _ 0 rfl A R _ ⟨hl, hb, he, h⟩)⟩
theorem ee_rcNe {A : Around} {s : Shared} {l b : Addr} {xs ys : Array Value} (hl : s.heap.IsList l xs) (hb : s.heap.IsList b ys) (hz : xs.size = ys.size) (hu : A.units < cLine)
    (he : ∀ j (h1 : j < xs.size) (h2 : j < ys.size), EqP prog w A.in1 s xs[j] ys[j] true) (E Q : Value → Shared → Prop) (h : Q (.bool false) s) : wpAny (model prog w) A (richCompare .NotEq (.ref l) (.ref b)) Q E s := by
  obtain ⟨⟨cls, dd, data, sl⟩, ho, hc, n, hd⟩ := id hl
  obtain ⟨⟨cls2, dd2, data2, sl2⟩, ho2, hc2, n2, hd2⟩ := id hb
  simp only at hc hd hc2 hd2
  subst hc hd hc2 hd2
  have ta : s.TypeIs (.ref l) "list" := ⟨_, ho, rfl⟩
  have tb : s.TypeIs (.ref b) "list" := ⟨_, ho2, rfl⟩
  exact wpAny_richCompare_same_room (op := .NotEq) ta tb F.slot_list_ne (call_meetsIn F.slot_list_ne ta F.entry_list_ne (F.args_list_ne_2 _ _) (ee_ne_list l b xs ys n n2 dd dd2 sl sl2 hz)
    ⟨ho, ho2, he, show Value.bool false ≠ Value.notImplemented ∧ Q (.bool false) s from ⟨(fun x => nomatch x), h⟩⟩) hu
end
end PySem.SeqAt
namespace PySem.W
open PySem PySem.Calls PyProof.Rows PyProof.V PySem.Spec
section
variable {prog : Program} {w : World} {K : Type} [DecidableEq K] {knd : KeyKind prog w K} {A : Around} {s : Shared}
theorem ee_rcNeD {a b : Addr} {ka kb : List (K × Value)} {r : Bool} (ha : (a == sysModules) = false) (hb : (b == sysModules) = false)
    (da : s.heap.DictOf knd a ka) (db : s.heap.DictOf knd b kb) (hu : A.units < cLine) (hits : ka.length = kb.length → KeqHitsP prog w A.in1 s kb ka r) (E Q : Value → Shared → Prop) (h : Q (.bool (!(ka.length == kb.length && r))) s) : wpAny (model prog w) A (richCompare .NotEq (.ref a) (.ref b)) Q E s := by
  refine wpAny_richCompare_same_room (op := .NotEq) da.typeIs db.typeIs PySem.F.slot_dict_ne (wpAny_call_entry PySem.F.slot_dict_ne da.typeIs PySem.F.entry_dict_ne ?_ (PySem.F.args_dict_ne_2 _ _)) hu
  show wpAny _ _ (Builtin.Dict.dictSlotArgs "__ne__" ⟨[.ref a, .ref b], []⟩ >>= _) _ _ s
  unfold Builtin.Dict.dictSlotArgs
  refine wpAny_bind (wpAny_bind (wpAny_notOrdered_dict da.typeIs ?_))
  refine (show wpAny _ _ (pure (Value.ref a, Value.ref b)) _ _ s from wpAny_pure ?_)
  refine wpAny_bind (wpAny_isInstance (T := "dict") db.typeIs PySem.F.sub_dict_dict ?_)
  simp only [Bool.not_true, Bool.false_eq_true, if_false]
  refine wpAny_bind (wpAny_pure (wpAny_bind (wpAny_pure (wpAny_bind (samePairsP ha hb da db hits (wpAny_pure ⟨_, rfl, ?_, ?_⟩))))))
  · exact fun x => nomatch x
  · simpa using h
end
end PySem.W
namespace EE
open PySem PySem.Spec PyProof.Rows L2
variable [XAd]
/-- surely equal -/
def eqT : Nat → D → D → Bool
  | 0, _, _ => false
  | n + 1, a, b => match toPy a, toPy b with
    | some x, some y => (SeqAt.shaped x && decide (x.depth ≤ 40)) && (SeqAt.shaped y && PyData.eqv x y)
    | _, _ => match a, b with
      | .lst xs, .lst ys => decide (xs.length = ys.length) && (xs.zip ys).all fun p => eqT n p.1 p.2
      | .dct ks, .dct ls => decide (ks.length = ls.length) && ks.all fun p => match valD ls p.1 with
        | some u => eqT n p.2 u
        | none => false
      | _, _ => false
section
variable {X : Cx} {pins : List (Addr × Obj)} {σ : L2.St} {H B : Hp} {s : Shared}
theorem RepL.gets {K : PySem.W.Frag} : ∀ {ds : List D} {vs : List V} {us : List Value}, RepL K B ds vs → Vals vs us → ds.length = us.length ∧ ∀ (j : Nat) (d : D) (u : Value), ds[j]? = some d → us[j]? = some u → ∃ v, Rep K B d v ∧ RelV v u
  | [], vs, us, r, h => by
    rw [r.nil_inv] at h
    cases h
    exact ⟨rfl, fun j d u e => by simp at e⟩
  | d :: ds, vs, us, r, h => by
    obtain ⟨y, ys, rfl, r1, r2⟩ := r.cons_inv
    cases h with
    | cons h1 h2 =>
      obtain ⟨l, g⟩ := RepL.gets r2 h2
      refine ⟨by simp [l], fun j d' u e1 e2 => ?_⟩
      cases j with
      | zero => simp at e1 e2; subst e1 e2; exact ⟨y, r1, h1⟩
      | succ j => exact g j d' u (by simpa using e1) (by simpa using e2)
/-- what the values of two such lists say of their items -/
theorem items_eq {A : Around} {n : Nat} (ih : ∀ (a b : D) (v v' : V) (u u' : Value), eqT n a b = true → Rep X.K B a v → Rep X.K B b v' → RelV v u → RelV v' u' → SeqAt.EqP X.prog X.w A s u u' true) {xs ys : List D} {vs ws : List V} {us us' : List Value}
    (hl : xs.length = ys.length) (ha : ((xs.zip ys).all fun p => eqT n p.1 p.2) = true) (r1 : RepL X.K B xs vs) (r2 : RepL X.K B ys ws) (h1 : Vals vs us) (h2 : Vals ws us') :
    us.toArray.size = us'.toArray.size ∧ ∀ j (q1 : j < us.toArray.size) (q2 : j < us'.toArray.size), SeqAt.EqP X.prog X.w A s us.toArray[j] us'.toArray[j] true := by
  obtain ⟨l1, g1⟩ := r1.gets h1
  obtain ⟨l2, g2⟩ := r2.gets h2
  refine ⟨by simp; omega, fun j q1 q2 => ?_⟩
  have q1' : j < us.length := by simpa using q1
  have q2' : j < us'.length := by simpa using q2
  have z1 : j < xs.length := by omega
  have z2 : j < ys.length := by omega
  obtain ⟨v, a1, a2⟩ := g1 j xs[j] us[j] (List.getElem?_eq_getElem z1) (List.getElem?_eq_getElem q1')
  obtain ⟨v', b1, b2⟩ := g2 j ys[j] us'[j] (List.getElem?_eq_getElem z2) (List.getElem?_eq_getElem q2')
  have m : (xs[j], ys[j]) ∈ xs.zip ys := by
    refine List.mem_of_getElem? (i := j) ?_
    rw [List.getElem?_zip_eq_some]
    exact ⟨List.getElem?_eq_getElem z1, List.getElem?_eq_getElem z2⟩
  have := ih _ _ _ _ _ _ (List.all_eq_true.mp ha _ m) a1 b1 a2 b2
  simpa using this
theorem hits_eq {A : Around} {n : Nat} (ih : ∀ (a b : D) (v v' : V) (u u' : Value), eqT n a b = true → Rep X.K B a v → Rep X.K B b v' → RelV v u → RelV v' u' → SeqAt.EqP X.prog X.w A s u u' true) {ls : List (Key × D)} {wb : List (Key × V)} {vb : List (Key × Value)}
    (r2 : RepK X.K B ls wb) (h2 : KV wb vb) : ∀ {ks : List (Key × D)} {wa : List (Key × V)} {va : List (Key × Value)}, RepK X.K B ks wa → KV wa va → (ks.all fun p => match valD ls p.1 with | some u => eqT n p.2 u | none => false) = true → PySem.W.KeqHitsP X.prog X.w A s vb va true
  | [], wa, va, r, h, _ => by
    rw [r.nil_inv] at h
    unfold KV at h
    cases h
    exact .nil
  | (k, d) :: ks, wa, va, r, h, ha => by
    obtain ⟨y, ys, rfl, r1, r3⟩ := r.cons_inv
    unfold KV at h
    cases h with
    | @cons p q ps qs e t =>
      obtain ⟨e1, e2⟩ := e
      obtain ⟨key, u⟩ := q
      have e1 : k = key := e1
      subst e1
      rw [List.all_cons] at ha
      obtain ⟨a1, a2⟩ := Bool.and_eq_true_iff.mp ha
      rcases r2.val (k := k) with ⟨n1, _⟩ | ⟨d', v', m1, m2, m3⟩
      · simp only [n1] at a1; cases a1
      · simp only [m1] at a1
        have rr : RelO (some v') (valueAt vb k) := by rw [← m2]; exact h2.val k
        obtain ⟨u', hy, ry⟩ := rr.some_of
        show PySem.W.KeqHitsP X.prog X.w A s vb ((k, u) :: qs) (true && true)
        exact .hit hy (ih _ _ _ _ _ _ a1 r1 m3 e2 ry) (hits_eq ih r2 h2 r3 t a2)
theorem dct_ok {a : Addr} {ws : List (Key × V)} (I : Inv X pins σ H s) (sb : Sub B H) (h : DRd B a ws) : ObjOk X.prog X.w H s.heap a (.dK ws) := by
  obtain ⟨o, e, d⟩ := h
  have e2 := sb _ _ e
  rcases d with rfl | ⟨od, rfl⟩
  · exact I.hok a _ e2
  · exact (Rd.ok (.inr ⟨od, e2⟩) I.hok)
theorem eqT_run (I : Inv X pins σ H s) (sb : Sub B H) : ∀ (n : Nat) (A : Around), A.units + n + 40 < cLine → ∀ (a b : D) (v v' : V) (u u' : Value), eqT n a b = true → Rep X.K B a v → Rep X.K B b v' → RelV v u → RelV v' u' → SeqAt.EqP X.prog X.w A s u u' true
  | 0, _, _, _, _, _, _, _, _, h, _, _, _, _ => by cases h
  | n + 1, A, hu, a, b, v, v', u, u', h, r1, r2, rv, rv' => by
    have ih := eqT_run I sb n A.in1 (by show A.units + 1 + n + 40 < cLine; omega)
    unfold eqT at h
    split at h
    · rename_i x y e1 e2
      obtain ⟨c1', h⟩ := Bool.and_eq_true_iff.mp h
      obtain ⟨c1, c4⟩ := Bool.and_eq_true_iff.mp c1'
      have c5 := of_decide_eq_true c4
      obtain ⟨c2, c3⟩ := Bool.and_eq_true_iff.mp h
      obtain ⟨as, q1⟩ := Dp.reads I x v u (dp_of sb r1 e1) rv
      obtain ⟨bs, q2⟩ := Dp.reads I y v' u' (dp_of sb r2 e2) rv'
      have k := SeqAt.eqAt_reads x y A s u u' as bs q1 q2 (SeqAt.canLay_of_shaped c1) (SeqAt.canLay_of_shaped c2) (by have := Nat.min_le_left x.depth y.depth; omega)
      rw [c3] at k
      exact k.eqP
    · split at h
      · rename_i xs ys _
        obtain ⟨c1, c2⟩ := Bool.and_eq_true_iff.mp h
        obtain ⟨p, vs, rfl, p1, p2⟩ := r1.lst_inv
        obtain ⟨q, ws, rfl, q1, q2⟩ := r2.lst_inv
        cases (show u = Value.ref p from rv)
        cases (show u' = Value.ref q from rv')
        by_cases e : p = q
        · subst e; exact (SeqAt.EqAt.same _).eqP
        · obtain ⟨us, l1, l2, _⟩ := I.list (show SqL X.K H p vs from (rd_sub sb p1))
          obtain ⟨us', m1, m2, _⟩ := I.list (show SqL X.K H q ws from (rd_sub sb q1))
          obtain ⟨hz, he⟩ := items_eq ih (of_decide_eq_true c1) c2 p2 q2 l1 m1
          refine SeqAt.eqP_refs e fun E Q hq => SeqAt.rcP_lists (e := fun _ => true) l2.isList m2.isList hz (by omega) he E Q ?_
          rw [show ((List.range us.toArray.size).all fun _ => true) = true from List.all_eq_true.mpr fun _ _ => rfl]
          exact hq
      · rename_i ks ls _
        obtain ⟨c1, c2⟩ := Bool.and_eq_true_iff.mp h
        obtain ⟨p, wa, rfl, p1, p2⟩ := r1.dct_inv
        obtain ⟨q, wb, rfl, q1, q2⟩ := r2.dct_inv
        cases (show u = Value.ref p from rv)
        cases (show u' = Value.ref q from rv')
        by_cases e : p = q
        · subst e; exact (SeqAt.EqAt.same _).eqP
        · obtain ⟨_, ya, va, ra, da⟩ := dct_ok I sb p1
          obtain ⟨_, yb, vb, rb, db⟩ := dct_ok I sb q1
          refine SeqAt.eqP_refs e fun E Q hq => PySem.W.rcP_dicts (knd := mixKind X.prog X.w) (r := true) ya yb da db (by omega) (fun _ => hits_eq ih q2 rb p2 ra c2) E Q ?_
          have e : va.length = vb.length := by rw [← ra.length, ← rb.length, p2.length, q2.length]; exact of_decide_eq_true c1
          rw [show (va.length == vb.length && true) = true from by rw [e]; simp]
          exact hq
      · cases h
/-- the comparison itself: u == u', u != u' -/
theorem deep_run (I : Inv X pins σ H s) (sb : Sub B H) {n : Nat} (hu : X.A.units + n + 41 < cLine) {a b : D} {v v' : V} {u u' : Value} (h : eqT (n + 1) a b = true) (r1 : Rep X.K B a v) (r2 : Rep X.K B b v') (rv : RelV v u) (rv' : RelV v' u') (E Q : Value → Shared → Prop) :
    (Q (.bool true) s → wpAny (model X.prog X.w) X.A (compareOp .Eq u u') Q E s) ∧ (Q (.bool false) s → wpAny (model X.prog X.w) X.A (compareOp .NotEq u u') Q E s) := by
  have ih := eqT_run I sb n X.A.in1 (by show X.A.units + 1 + n + 40 < cLine; omega)
  unfold eqT at h
  split at h
  · rename_i x y e1 e2
    obtain ⟨c1', h⟩ := Bool.and_eq_true_iff.mp h
    obtain ⟨c1, c4⟩ := Bool.and_eq_true_iff.mp c1'
    have c5 := of_decide_eq_true c4
    obtain ⟨c2, c3⟩ := Bool.and_eq_true_iff.mp h
    obtain ⟨as, q1⟩ := Dp.reads I x v u (dp_of sb r1 e1) rv
    obtain ⟨bs, q2⟩ := Dp.reads I y v' u' (dp_of sb r2 e2) rv'
    have c6 : X.A.units + min x.depth y.depth < cLine := by have := Nat.min_le_left x.depth y.depth; omega
    exact ⟨fun q => SeqAt.compareEq_reads q1 q2 (SeqAt.canLay_of_shaped c1) (SeqAt.canLay_of_shaped c2) c6 (by rw [c3]; exact q), fun q => SeqAt.compareNe_reads q1 q2 (SeqAt.canLay_of_shaped c1) (SeqAt.canLay_of_shaped c2) c6 (by rw [c3]; exact q)⟩
  · split at h
    · rename_i xs ys _
      obtain ⟨c1, c2⟩ := Bool.and_eq_true_iff.mp h
      obtain ⟨p, vs, rfl, p1, p2⟩ := r1.lst_inv
      obtain ⟨q, ws, rfl, q1, q2⟩ := r2.lst_inv
      cases (show u = Value.ref p from rv)
      cases (show u' = Value.ref q from rv')
      obtain ⟨us, l1, l2, _⟩ := I.list (show SqL X.K H p vs from (rd_sub sb p1))
      obtain ⟨us', m1, m2, _⟩ := I.list (show SqL X.K H q ws from (rd_sub sb q1))
      obtain ⟨hz, he⟩ := items_eq ih (of_decide_eq_true c1) c2 p2 q2 l1 m1
      refine ⟨fun hq => SeqAt.rcP_lists (e := fun _ => true) l2.isList m2.isList hz (by omega) he E Q ?_, fun hq => SeqAt.ee_rcNe l2.isList m2.isList hz (by omega) he E Q hq⟩
      rw [show ((List.range us.toArray.size).all fun _ => true) = true from List.all_eq_true.mpr fun _ _ => rfl]
      exact hq
    · rename_i ks ls _
      obtain ⟨c1, c2⟩ := Bool.and_eq_true_iff.mp h
      obtain ⟨p, wa, rfl, p1, p2⟩ := r1.dct_inv
      obtain ⟨q, wb, rfl, q1, q2⟩ := r2.dct_inv
      cases (show u = Value.ref p from rv)
      cases (show u' = Value.ref q from rv')
      obtain ⟨_, ya, va, ra, da⟩ := dct_ok I sb p1
      obtain ⟨_, yb, vb, rb, db⟩ := dct_ok I sb q1
      have e : va.length = vb.length := by rw [← ra.length, ← rb.length, p2.length, q2.length]; exact of_decide_eq_true c1
      refine ⟨fun hq => PySem.W.rcP_dicts (knd := mixKind X.prog X.w) (r := true) ya yb da db (by omega) (fun _ => hits_eq ih q2 rb p2 ra c2) E Q ?_, fun hq => PySem.W.ee_rcNeD (knd := mixKind X.prog X.w) (r := true) ya yb da db (by omega) (fun _ => hits_eq ih q2 rb p2 ra c2) E Q ?_⟩
      · rw [show (va.length == vb.length && true) = true from by rw [e]; simp]
        exact hq
      · rw [show (!(va.length == vb.length && true)) = false from by rw [e]; simp]
        exact hq
    · cases h
end
section
variable {X : Cx}
def rDeep (K : PySem.W.Frag) (k : Bool) : R2 := fun x y H Q => ∃ B d e, Sub B H ∧ eqT 20 d e = true ∧ Rep K B d x ∧ Rep K B e y ∧ Q (.bl k) H
theorem op_eqX (hu : X.A.units + 64 < cLine) : OpR X (compareOp .Eq) (fun x y H Q => rEqD X.K x y H Q ∨ rDeep X.K true x y H Q) := OpR.or (op_eqD (by omega)) (by
  intro pins s σ H x y v u Q I rx ry h
  obtain ⟨B, d, e, sb, h, r1, r2, q⟩ := h
  exact (deep_run I sb (n := 19) (by omega) h r1 r2 rx ry _ _).1 ⟨.bl true, H, I, rfl, q⟩)
theorem op_neX (hu : X.A.units + 64 < cLine) : OpR X (compareOp .NotEq) (fun x y H Q => rNeD X.K x y H Q ∨ rDeep X.K false x y H Q) := OpR.or (op_neD (by omega)) (by
  intro pins s σ H x y v u Q I rx ry h
  obtain ⟨B, d, e, sb, h, r1, r2, q⟩ := h
  exact (deep_run I sb (n := 19) (by omega) h r1 r2 rx ry _ _).2 ⟨.bl false, H, I, rfl, q⟩)
def fDeep (k : Bool) (a b : D) : Option D := if eqT 20 a b = true then some (.bl k) else none
def fEqX (a b : D) : Option D := (fEq a b).or (fDeep true a b)
def fNeX (a b : D) : Option D := (fNe a b).or (fDeep false a b)
theorem o_deep (k : Bool) : Op2 X (rDeep X.K k) (fDeep k) := by
  intro B H a b d x y Q sb ra rb e q
  unfold fDeep at e
  split at e
  · rename_i c
    cases e
    exact ⟨B, a, b, sb, c, ra, rb, q _ B H .same .bl⟩
  · cases e
theorem o_eqX : Op2 X (fun x y H Q => rEqD X.K x y H Q ∨ rDeep X.K true x y H Q) fEqX := o_eq.or (o_deep true)
theorem o_neX : Op2 X (fun x y H Q => rNeD X.K x y H Q ∨ rDeep X.K false x y H Q) fNeX := o_ne.or (o_deep false)
end
end EE
end

section
set_option Elab.async false
set_option linter.all false
set_option maxRecDepth 100000
set_option maxHeartbeats 4000000
/-! E30: what mirrors compute, in plain Lean -/
namespace EE
open PySem
/-! ### a call with data alone -/
theorem keepS_imm : ∀ (ds : List D) (ρ : List Slot), keepS (ds.map .imm) ρ = ds.map fun _ => Slot.non
  | [], _ => rfl
  | d :: ds, ρ => by show (if plainS (.imm d) then Slot.non else _) :: keepS (ds.map .imm) ρ.tail = _; rw [keepS_imm ds]; rfl
theorem ownIn_imm {P : List Nat} (ds : List D) : ownIn P (ds.map .imm) = true := by
  unfold ownIn
  refine List.all_eq_true.mpr fun k hk => ?_
  rw [List.getElem?_map]
  cases ds[k]? <;> simp [plainS]
/-- a def called with data: the body from these slots on -/
theorem run_imm {n m : Nat} {P : List Nat} {mb : M Fl} {ds : List D} (hl : ds.length = n) : runDef n m P mb (ds.map .imm) = match mb (ds.map .imm ++ List.replicate m .non) with
  | .ok (.rt r) _ => .ok r (ds.map fun _ => .non)
  | .ok .nx _ => .ok (.imm .non) (ds.map fun _ => .non)
  | .exc c _ => .exc c (ds.map fun _ => .non)
  | _ => .bad := by
  unfold runDef
  rw [if_pos ⟨by rw [List.length_map]; exact hl, ownIn_imm ds⟩]
  cases mb (ds.map .imm ++ List.replicate m .non) with
  | bad => rfl
  | exc c ρ => simp only [keepS_imm]
  | ok fl ρ => cases fl <;> simp only [keepS_imm]
theorem okA_v (ρ : List Slot) (ds : List D) : okA ρ (ds.map .v) = true := by
  unfold okA
  rw [Bool.and_eq_true]
  refine ⟨List.all_eq_true.mpr fun a ha => ?_, List.all_eq_true.mpr fun a ha => List.all_eq_true.mpr fun b hb => ?_⟩
  · obtain ⟨d, _, rfl⟩ := List.mem_map.mp ha
    rfl
  · have e : srcA (ds.map .v) a = none := by
      unfold srcA
      rw [List.getElem?_map]
      cases ds[a]? <;> rfl
    rw [e]
    simp
theorem srcA_v (ds : List D) (a : Nat) : srcA (ds.map .v) a = none := by
  unfold srcA
  rw [List.getElem?_map]
  cases ds[a]? <;> rfl
theorem putB_v (ρ as' : List Slot) (ds : List D) : putB ρ (ds.map .v) as' = ρ := by
  unfold putB
  apply List.ext_getElem?
  intro i
  have nf : ((List.range (ds.map Ag.v).length).find? fun k => decide (srcA (ds.map .v) k = some i)) = none := by
    rw [List.find?_eq_none]
    intro k _
    rw [srcA_v]
    simp
  rw [List.getElem?_map]
  by_cases h : i < ρ.length
  · rw [List.getElem?_eq_getElem (by simpa using h), List.getElem?_eq_getElem h]
    rw [List.length_map] at nf
    simp [nf, List.getElem?_eq_getElem h]
  · rw [List.getElem?_eq_none (by simpa using h), List.getElem?_eq_none (by omega)]
    rfl
theorem slots_v (ρ : List Slot) (ds : List D) : (ds.map Ag.v).map (slotA ρ) = ds.map .imm := by
  rw [List.map_map]
  rfl
/-- a call with data: what the def says -/
theorem mCall_v {n : Nat} {F : Fn} {ms : M (List Ag)} {ρ ρ' : List Slot} {ds : List D} (h : ms ρ = .ok (ds.map .v) ρ') (hl : ds.length = n) : mCall n F ms ρ = match F (ds.map .imm) with
  | .ok r _ => .ok r ρ'
  | .exc c _ => .exc c ρ'
  | .bad => .bad := by
  unfold mCall M.bind
  rw [h]
  show (if okA ρ' (ds.map .v) = true ∧ (ds.map Ag.v).length = n then _ else Res.bad) = _
  rw [if_pos ⟨okA_v _ _, by rw [List.length_map]; exact hl⟩, slots_v]
  cases F (ds.map .imm) <;> simp only [putB_v]
/-! ### comprehensions -/
theorem compM_eq {bnd : D → M Unit} {tst : M Bool} {elt : M D} {vs : List Nat} {ρw : List Slot} {t : D → Bool} {g : D → D} : ∀ {ds acc : List D}, (∀ d ∈ ds, ∃ ρ1 ρ2 ρ3, bnd d ρw = .ok () ρ1 ∧ tst ρ1 = .ok (t d) ρ2 ∧ (t d = true → elt ρ2 = .ok (g d) ρ3 ∧ wipeR ρ3 vs = ρw) ∧ (t d = false → wipeR ρ2 vs = ρw)) →
    acc.length + ds.length ≤ 1000000 → compM bnd tst elt vs ds acc ρw = .ok (acc ++ (ds.filter t).map g) ρw
  | [], acc, _, _ => by simp [compM, M.pure]
  | d :: ds, acc, h, hz => by
    obtain ⟨ρ1, ρ2, ρ3, h1, h2, h3, h4⟩ := h d List.mem_cons_self
    have hz : acc.length + (ds.length + 1) ≤ 1000000 := hz
    unfold compM
    cases e : t d with
    | true =>
      obtain ⟨h5, h6⟩ := h3 e
      have ih := compM_eq (bnd := bnd) (tst := tst) (elt := elt) (vs := vs) (ρw := ρw) (t := t) (g := g) (ds := ds) (acc := acc ++ [g d]) (fun x hx => h x (List.mem_cons_of_mem _ hx)) (by simp; omega)
      have ok : okSz acc := show acc.length ≤ 1000000 by omega
      rw [e] at h2
      simp only [M.bind, noX, h1, h2, Res.bind, if_true, h5, if_pos ok, h6, ih, List.filter_cons, e, List.map_cons, List.append_assoc, List.cons_append, List.nil_append]
    | false =>
      have h6 := h4 e
      have ih := compM_eq (bnd := bnd) (tst := tst) (elt := elt) (vs := vs) (ρw := ρw) (t := t) (g := g) (ds := ds) (acc := acc) (fun x hx => h x (List.mem_cons_of_mem _ hx)) (by omega)
      rw [e] at h2
      simp only [M.bind, noX, h1, h2, Res.bind, Bool.false_eq_true, if_false, h6, ih, List.filter_cons, e]
/-! ### for -/
/-- a loop that goes on to its end -/
theorem forM_run {bnd : D → M Unit} {body : M Fl} {I : List D → List Slot → Prop} (h : ∀ d ds ρ, I (d :: ds) ρ → ∃ ρ1 ρ2, bnd d ρ = .ok () ρ1 ∧ (body ρ1 = .ok .nx ρ2 ∨ body ρ1 = .ok .ct ρ2) ∧ I ds ρ2) : ∀ (ds : List D) (ρ : List Slot), I ds ρ → ∃ ρ', forM bnd body ds ρ = .ok .nx ρ' ∧ I [] ρ'
  | [], ρ, i => ⟨ρ, rfl, i⟩
  | d :: ds, ρ, i => by
    obtain ⟨ρ1, ρ2, h1, h2, i2⟩ := h d ds ρ i
    obtain ⟨ρ', h3, i3⟩ := forM_run h ds ρ2 i2
    refine ⟨ρ', ?_, i3⟩
    unfold forM
    rcases h2 with h2 | h2 <;> simp only [M.bind, h1, h2, Res.bind, h3]
end EE
end

section
set_option Elab.async false
set_option linter.all false
set_option maxRecDepth 100000
set_option maxHeartbeats 4000000
/-! E31: running a mirror: what is asked of its end, one step at a time (printed by genw.py) -/
namespace EE
open PySem L2
theorem post_bind0 {α β : Type} {r : Res α} {f : α → M β} {Q : β → List Slot → Prop} {W : Exn → List Slot → Prop} : (r.bind f).post Q W ↔ r.post (fun a ρ => (f a ρ).post Q W) W := by
  cases r <;> exact Iff.rfl
/-- what is asked of a mirror run from these slots -/
def run {α : Type} (m : M α) (ρ : List Slot) (Q : α → List Slot → Prop) (W : Exn → List Slot → Prop) : Prop := (m ρ).post Q W
def onR {α : Type} (r : Res α) (Q : α → List Slot → Prop) (W : Exn → List Slot → Prop) : Prop := r.post Q W
def onS {α : Type} (o : Option α) (k : α → Prop) : Prop := match o with | some a => k a | none => False
def onI (o : Option Slot) (k : D → Prop) : Prop := match o with | some (.imm d) => k d | _ => False
def onT (o : Option Slot) (k : Slot → Prop) : Prop := match o with | some .non => False | some s => k s | none => False
def onA (o : Option Slot) (k : Slot → Prop) : Prop := match o with | some s => k s | none => False
def onL (o : Option Slot) (k : List D → Prop) : Prop := match o with | some (.lst ds) => k ds | _ => False
def onK (o : Option Slot) (k : List (Key × D) → Prop) : Prop := match o with | some (.dct ds) => k ds | _ => False
def onB (b : Bool) (A B : Prop) : Prop := if b = true then A else B
def onF (fl : Fl) (A B : Prop) : Prop := match fl with | .nx => A | _ => B
def putP (i : Nat) (s : Slot) (ρ : List Slot) (k : List Slot → Prop) : Prop := i < ρ.length ∧ k (ρ.set i s)
def callP (n : Nat) (F : Fn) (as : List Ag) (ρ : List Slot) (Q : Slot → List Slot → Prop) (W : Exn → List Slot → Prop) : Prop := (callR n F as ρ).post Q W
section
variable {α β : Type} {ρ : List Slot} {Q : α → List Slot → Prop} {W : Exn → List Slot → Prop}
theorem onR_ok {a : α} : onR (.ok a ρ) Q W = Q a ρ := propext Iff.rfl
theorem onR_exc {c : Exn} : onR (α := α) (.exc c ρ) Q W = W c ρ := propext Iff.rfl
theorem onR_ite {c : Prop} [Decidable c] {a b : Res α} : onR (if c then a else b) Q W = if c then onR a Q W else onR b Q W := by split <;> rfl
theorem onS_some {a : α} {k : α → Prop} : onS (some a) k = k a := propext Iff.rfl
theorem onS_ite {c : Prop} [Decidable c] {a b : Option α} {k : α → Prop} : onS (if c then a else b) k = if c then onS a k else onS b k := by split <;> rfl
theorem onI_imm {d : D} {k : D → Prop} : onI (some (.imm d)) k = k d := propext Iff.rfl
theorem onT_imm {d : D} {k : Slot → Prop} : onT (some (.imm d)) k = k (.imm d) := propext Iff.rfl
theorem onT_lst {d : List D} {k : Slot → Prop} : onT (some (.lst d)) k = k (.lst d) := propext Iff.rfl
theorem onT_dct {d : List (Key × D)} {k : Slot → Prop} : onT (some (.dct d)) k = k (.dct d) := propext Iff.rfl
theorem onT_pot {gs : List Int} {a b c : Int} {k : Slot → Prop} : onT (some (.pot gs a b c)) k = k (.pot gs a b c) := propext Iff.rfl
theorem onT_obj {c : Str} {fs : List (Str × Fv)} {k : Slot → Prop} : onT (some (.obj c fs)) k = k (.obj c fs) := propext Iff.rfl
theorem onA_some {s : Slot} {k : Slot → Prop} : onA (some s) k = k s := propext Iff.rfl
theorem onL_lst {d : List D} {k : List D → Prop} : onL (some (.lst d)) k = k d := propext Iff.rfl
theorem onK_dct {d : List (Key × D)} {k : List (Key × D) → Prop} : onK (some (.dct d)) k = k d := propext Iff.rfl
theorem onB_true {A B : Prop} : onB true A B = A := by simp [onB]
theorem onB_false {A B : Prop} : onB false A B = B := by simp [onB]
theorem onB_dec {p : Prop} [Decidable p] {A B : Prop} : onB (decide p) A B = if p then A else B := by simp [onB]
theorem onB_not {b : Bool} {A B : Prop} : onB (!b) A B = onB b B A := by cases b <;> simp [onB]
theorem onB_i {b : Bool} {A B : Prop} (h1 : b = true → A) (h2 : b = false → B) : onB b A B := by cases b <;> simp_all [onB]
theorem onF_nx {A B : Prop} : onF .nx A B = A := propext Iff.rfl
theorem onF_rt {r : Slot} {A B : Prop} : onF (.rt r) A B = B := propext Iff.rfl
theorem onF_bk {A B : Prop} : onF .bk A B = B := propext Iff.rfl
theorem onF_ct {A B : Prop} : onF .ct A B = B := propext Iff.rfl
end

/-! held forms: simp does not go into what comes later -/
structure Dm {β : Sort _} (k : β) : Type where
structure Dm2 {β γ : Sort _} (k : β) (l : γ) : Type where
def runD {α : Type} (m : M α) (ρ : List Slot) (Q : α → List Slot → Prop) (W : Exn → List Slot → Prop) (_ : Dm2 Q W) : Prop := run m ρ Q W
def onRD {α : Type} (r : Res α) (Q : α → List Slot → Prop) (W : Exn → List Slot → Prop) (_ : Dm2 Q W) : Prop := onR r Q W
def onSD {α : Type} (o : Option α) (k : α → Prop) (_ : Dm k) : Prop := onS o k
def onID (o : Option Slot) (k : D → Prop) (_ : Dm k) : Prop := onI o k
def onTD (o : Option Slot) (k : Slot → Prop) (_ : Dm k) : Prop := onT o k
def onAD (o : Option Slot) (k : Slot → Prop) (_ : Dm k) : Prop := onA o k
def onLD (o : Option Slot) (k : List D → Prop) (_ : Dm k) : Prop := onL o k
def onKD (o : Option Slot) (k : List (Key × D) → Prop) (_ : Dm k) : Prop := onK o k
def onBD (b : Bool) (A B : Prop) (_ : Dm2 A B) : Prop := onB b A B
section
variable {α : Type} {ρ : List Slot} {Q : α → List Slot → Prop} {W : Exn → List Slot → Prop}
theorem onR_stop {r : Res α} : onR r Q W = onRD r Q W ⟨⟩ := propext Iff.rfl
theorem onS_stop {o : Option α} {k : α → Prop} : onS o k = onSD o k ⟨⟩ := propext Iff.rfl
theorem onI_stop {o : Option Slot} {k : D → Prop} : onI o k = onID o k ⟨⟩ := propext Iff.rfl
theorem onT_stop {o : Option Slot} {k : Slot → Prop} : onT o k = onTD o k ⟨⟩ := propext Iff.rfl
theorem onA_stop {o : Option Slot} {k : Slot → Prop} : onA o k = onAD o k ⟨⟩ := propext Iff.rfl
theorem onL_stop {o : Option Slot} {k : List D → Prop} : onL o k = onLD o k ⟨⟩ := propext Iff.rfl
theorem onK_stop {o : Option Slot} {k : List (Key × D) → Prop} : onK o k = onKD o k ⟨⟩ := propext Iff.rfl
theorem onB_stop {b : Bool} {A B : Prop} : onB b A B = onBD b A B ⟨⟩ := propext Iff.rfl
theorem onRD_ok {a : α} {d : Dm2 Q W} : onRD (.ok a ρ) Q W d = Q a ρ := propext Iff.rfl
theorem onRD_exc {c : Exn} {d : Dm2 Q W} : onRD (α := α) (.exc c ρ) Q W d = W c ρ := propext Iff.rfl
theorem onSD_some {a : α} {k : α → Prop} {d : Dm k} : onSD (some a) k d = k a := propext Iff.rfl
theorem onID_imm {x : D} {k : D → Prop} {d : Dm k} : onID (some (.imm x)) k d = k x := propext Iff.rfl
theorem onTD_imm {x : D} {k : Slot → Prop} {d : Dm k} : onTD (some (.imm x)) k d = k (.imm x) := propext Iff.rfl
theorem onTD_lst {x : List D} {k : Slot → Prop} {d : Dm k} : onTD (some (.lst x)) k d = k (.lst x) := propext Iff.rfl
theorem onTD_dct {x : List (Key × D)} {k : Slot → Prop} {d : Dm k} : onTD (some (.dct x)) k d = k (.dct x) := propext Iff.rfl
theorem onTD_pot {gs : List Int} {a b c : Int} {k : Slot → Prop} {d : Dm k} : onTD (some (.pot gs a b c)) k d = k (.pot gs a b c) := propext Iff.rfl
theorem onTD_obj {c : Str} {fs : List (Str × Fv)} {k : Slot → Prop} {d : Dm k} : onTD (some (.obj c fs)) k d = k (.obj c fs) := propext Iff.rfl
theorem onAD_some {s : Slot} {k : Slot → Prop} {d : Dm k} : onAD (some s) k d = k s := propext Iff.rfl
theorem onLD_lst {x : List D} {k : List D → Prop} {d : Dm k} : onLD (some (.lst x)) k d = k x := propext Iff.rfl
theorem onKD_dct {x : List (Key × D)} {k : List (Key × D) → Prop} {d : Dm k} : onKD (some (.dct x)) k d = k x := propext Iff.rfl
theorem onBD_true {A B : Prop} {d : Dm2 A B} : onBD true A B d = A := onB_true
theorem onBD_false {A B : Prop} {d : Dm2 A B} : onBD false A B d = B := onB_false
theorem onBD_not {b : Bool} {A B : Prop} {d : Dm2 A B} : onBD (!b) A B d = onBD b B A ⟨⟩ := onB_not
theorem stop_forM {ρ : List Slot} {W : Exn → List Slot → Prop} {bnd : D → M Unit} {b : M Fl} {ds : List D} {Q : Fl → List Slot → Prop} : run (forM bnd b ds) ρ Q W = runD (forM bnd b ds) ρ Q W ⟨⟩ := propext Iff.rfl
theorem stop_while {ρ : List Slot} {W : Exn → List Slot → Prop} {c : M Bool} {b : M Fl} {n : Nat} {Q : Fl → List Slot → Prop} : run (whileM c b n) ρ Q W = runD (whileM c b n) ρ Q W ⟨⟩ := propext Iff.rfl
theorem stop_compM {ρ : List Slot} {W : Exn → List Slot → Prop} {bnd : D → M Unit} {t : M Bool} {b : M D} {vs : List Nat} {ds acc : List D} {Q : List D → List Slot → Prop} : run (compM bnd t b vs ds acc) ρ Q W = runD (compM bnd t b vs ds acc) ρ Q W ⟨⟩ := propext Iff.rfl
theorem stop_dcompM {ρ : List Slot} {W : Exn → List Slot → Prop} {bnd : D → M Unit} {t : M Bool} {a b : M D} {vs : List Nat} {ds : List D} {acc : List (Key × D)} {Q : List (Key × D) → List Slot → Prop} : run (dcompM bnd t a b vs ds acc) ρ Q W = runD (dcompM bnd t a b vs ds acc) ρ Q W ⟨⟩ := propext Iff.rfl
theorem stop_make {ρ : List Slot} {W : Exn → List Slot → Prop} {c : Str} {n : Nat} {F : Fn} {ms : M (List Ag)} {Q : Slot → List Slot → Prop} : run (mMake c n F ms) ρ Q W = runD (mMake c n F ms) ρ Q W ⟨⟩ := propext Iff.rfl
theorem stop_try {ρ : List Slot} {W : Exn → List Slot → Prop} {i : Nat} {tab : List (Str × Bool)} {mb ms : M Fl} {Q : Fl → List Slot → Prop} : run (mTryAs i tab mb ms) ρ Q W = runD (mTryAs i tab mb ms) ρ Q W ⟨⟩ := propext Iff.rfl
theorem stop_xf {ρ : List Slot} {W : Exn → List Slot → Prop} {i : Nat} {f : Str} {tab : List Str} {Q : D → List Slot → Prop} : run (mXf i f tab) ρ Q W = runD (mXf i f tab) ρ Q W ⟨⟩ := propext Iff.rfl
theorem stop_potNew {ρ : List Slot} {W : Exn → List Slot → Prop} {i j k : Nat} {Q : Slot → List Slot → Prop} : run (mPotNew i j k) ρ Q W = runD (mPotNew i j k) ρ Q W ⟨⟩ := propext Iff.rfl
end
/-! the combinators -/
section
variable {α β : Type} {ρ : List Slot} {Q : α → List Slot → Prop} {W : Exn → List Slot → Prop}
theorem run_pure {a : α} : run (M.pure a) ρ Q W = Q a ρ := propext Iff.rfl
theorem run_bind {m : M β} {f : β → M α} : run (m.bind f) ρ Q W = run m ρ (fun b ρ1 => run (f b) ρ1 Q W) W := propext post_bind0
theorem run_of {o : Option α} : run (M.of o) ρ Q W = onS o (fun a => Q a ρ) := by cases o <;> rfl
theorem run_bad : run (M.bad : M α) ρ Q W = False := propext Iff.rfl
theorem run_ite {c : Prop} [Decidable c] {a b : M α} : run (if c then a else b) ρ Q W = if c then run a ρ Q W else run b ρ Q W := by split <;> rfl
end
section
variable {ρ : List Slot} {W : Exn → List Slot → Prop}
theorem run_var {i : Nat} {Q : D → List Slot → Prop} : run (mVar i) ρ Q W = onI ρ[i]? (fun d => Q d ρ) := by
  unfold run mVar onI
  cases ρ[i]? with
  | none => rfl
  | some s => cases s <;> rfl
theorem run_take {i : Nat} {Q : Slot → List Slot → Prop} : run (mTake i) ρ Q W = onT ρ[i]? (fun s => Q s (ρ.set i .non)) := by
  unfold run mTake onT
  cases ρ[i]? with
  | none => rfl
  | some s => cases s <;> rfl
theorem run_pk {i : Nat} {Q : D → List Slot → Prop} : run (mPk i) ρ Q W = onS ((ρ[i]?).bind pkD) (fun d => Q d ρ) := by
  unfold run mPk onS
  cases (ρ[i]?).bind pkD <;> rfl
theorem run_isL {i : Nat} {Q : Unit → List Slot → Prop} : run (isL i) ρ Q W = onL ρ[i]? (fun _ => Q () ρ) := by
  unfold run isL onL
  cases ρ[i]? with
  | none => rfl
  | some s => cases s <;> rfl
theorem run_isDc {i : Nat} {Q : Unit → List Slot → Prop} : run (isDc i) ρ Q W = onK ρ[i]? (fun _ => Q () ρ) := by
  unfold run isDc onK
  cases ρ[i]? with
  | none => rfl
  | some s => cases s <;> rfl
theorem run_mLst {i : Nat} {f : List D → Option (D × List D)} {Q : D → List Slot → Prop} : run (mLst i f) ρ Q W = onL ρ[i]? (fun ds => onS (f ds) fun p => Q p.1 (ρ.set i (.lst p.2))) := by
  unfold run mLst onL
  cases ρ[i]? with
  | none => rfl
  | some s =>
    cases s with
    | lst ds => show Res.post (match f ds with | some (d, ds') => Res.ok d (ρ.set i (.lst ds')) | none => .bad) Q W = onS (f ds) _; cases f ds <;> rfl
    | _ => rfl
theorem run_store {i : Nat} {k v : D} {Q : Unit → List Slot → Prop} : run (mStore i k v) ρ Q W = onK ρ[i]? (fun kvs => onS (keyD k) fun kk => kvs.length ≤ 1000000 ∧ Q () (ρ.set i (.dct (putD kvs kk v)))) := by
  unfold run mStore onK
  cases ρ[i]? with
  | none => rfl
  | some s =>
    cases s with
    | dct kvs =>
      cases keyD k with
      | none => rfl
      | some kk => show Res.post (if kvs.length ≤ 1000000 then _ else _) Q W = (_ ∧ _); split <;> rename_i h <;> simp [h, Res.post]
    | _ => rfl
theorem run_meth {i : Nat} {f : List D → List D → Option (D × List D)} {ms : M (List D)} {Q : D → List Slot → Prop} :
    run (mMeth i f ms) ρ Q W = onL ρ[i]? (fun _ => run ms ρ (fun as ρ1 => onL ρ1[i]? (fun ds => onS (f ds as) fun p => Q p.1 (ρ1.set i (.lst p.2)))) W) := by
  unfold mMeth
  rw [run_bind, run_isL]
  congr 1
  funext _
  rw [run_bind]
  congr 1
  funext as ρ1
  rw [run_mLst]
theorem run_putK {i : Nat} {mv mk : M D} {Q : Fl → List Slot → Prop} :
    run (mPutK i mv mk) ρ Q W = run mv ρ (fun v ρ1 => onK ρ1[i]? (fun _ => run mk ρ1 (fun k ρ2 => onK ρ2[i]? (fun kvs => onS (keyD k) fun kk => kvs.length ≤ 1000000 ∧ Q .nx (ρ2.set i (.dct (putD kvs kk v))))) W)) W := by
  unfold mPutK
  rw [run_bind]
  congr 1
  funext v ρ1
  rw [run_bind, run_isDc]
  congr 1
  funext _
  rw [run_bind]
  congr 1
  funext k ρ2
  rw [run_bind, run_store]
  rfl
theorem run_frz {i : Nat} {m : M Fl} {Q : Fl → List Slot → Prop} : run (mFrz i m) ρ Q W = onA ρ[i]? (fun s => run m (ρ.set i (frzS s)) Q W) := by
  unfold run mFrz onA
  cases ρ[i]? <;> rfl
theorem run_put {i : Nat} {s : Slot} {Q : Unit → List Slot → Prop} : run (mPut i s) ρ Q W = putP i s ρ (Q ()) := by
  unfold run mPut putP
  split <;> rename_i h <;> simp [h, Res.post]
theorem run_seq {a b : M Fl} {Q : Fl → List Slot → Prop} : run (mSeq a b) ρ Q W = run a ρ (fun fl ρ1 => onF fl (run b ρ1 Q W) (Q fl ρ1)) W := by
  unfold mSeq
  rw [run_bind]
  congr 1
  funext fl ρ1
  cases fl <;> rfl
theorem run_if {c : M Bool} {a b : M Fl} {Q : Fl → List Slot → Prop} : run (mIf c a b) ρ Q W = run c ρ (fun k ρ1 => onB k (run a ρ1 Q W) (run b ρ1 Q W)) W := by
  unfold mIf
  rw [run_bind]
  congr 1
  funext k ρ1
  cases k <;> simp [onB]
theorem run_ifE {c : M Bool} {a b : M D} {Q : D → List Slot → Prop} : run (mIfE c a b) ρ Q W = run c ρ (fun k ρ1 => onB k (run a ρ1 Q W) (run b ρ1 Q W)) W := by
  unfold mIfE
  rw [run_bind]
  congr 1
  funext k ρ1
  cases k <;> simp [onB]
theorem run_nx {Q : Fl → List Slot → Prop} : run mNx ρ Q W = Q .nx ρ := propext Iff.rfl
theorem run_then {m : M Unit} {Q : Fl → List Slot → Prop} : run (mThen m) ρ Q W = run m ρ (fun _ ρ1 => Q .nx ρ1) W := by unfold mThen; rw [run_bind]; rfl
theorem run_drop {α : Type} {m : M α} {Q : Fl → List Slot → Prop} : run (mDrop m) ρ Q W = run m ρ (fun _ ρ1 => Q .nx ρ1) W := by unfold mDrop; rw [run_bind]; rfl
theorem run_ret {m : M D} {Q : Fl → List Slot → Prop} : run (mRet m) ρ Q W = run m ρ (fun d ρ1 => Q (.rt (.imm d)) ρ1) W := by unfold mRet; rw [run_bind]; rfl
theorem run_retO {m : M Slot} {Q : Fl → List Slot → Prop} : run (mRetO m) ρ Q W = run m ρ (fun d ρ1 => Q (.rt d) ρ1) W := by unfold mRetO; rw [run_bind]; rfl
theorem run_set {i : Nat} {m : M D} {Q : Fl → List Slot → Prop} : run (mSet i m) ρ Q W = run m ρ (fun d ρ1 => putP i (.imm d) ρ1 (Q .nx)) W := by
  unfold mSet
  rw [run_bind]
  congr 1
  funext d ρ1
  rw [run_bind, run_put]
  rfl
theorem run_setO {i : Nat} {m : M Slot} {Q : Fl → List Slot → Prop} : run (mSetO i m) ρ Q W = run m ρ (fun d ρ1 => putP i d ρ1 (Q .nx)) W := by
  unfold mSetO
  rw [run_bind]
  congr 1
  funext d ρ1
  rw [run_bind, run_put]
  rfl
theorem run_asg {m : M D} {g : D → M Unit} {Q : Fl → List Slot → Prop} : run (mAsg m g) ρ Q W = run m ρ (fun d ρ1 => run (g d) ρ1 (fun _ ρ2 => Q .nx ρ2) W) W := by
  unfold mAsg
  rw [run_bind]
  congr 1
  funext d ρ1
  rw [run_bind]
  rfl
theorem run_tup {n : Nat} {ms : List D → M Unit} {ds : List D} {Q : Unit → List Slot → Prop} : run (gTupM n ms (.tup ds)) ρ Q W = if ds.length = n then run (ms ds) ρ Q W else False := by
  unfold gTupM
  show run (if ds.length = n then ms ds else M.bad) ρ Q W = _
  rw [run_ite]
  rfl
theorem run_tst {m : M D} {Q : Bool → List Slot → Prop} : run (mTst m) ρ Q W = run m ρ (fun d ρ1 => onS (isBl d) fun k => Q k ρ1) W := by
  unfold mTst
  rw [run_bind]
  congr 1
  funext d ρ1
  rw [run_of]
theorem run_notB {m : M Bool} {Q : Bool → List Slot → Prop} : run (mNotB m) ρ Q W = run m ρ (fun k ρ1 => Q (!k) ρ1) W := by unfold mNotB; rw [run_bind]; rfl
theorem run_and {m n : M Bool} {Q : Bool → List Slot → Prop} : run (mAnd m n) ρ Q W = run m ρ (fun k ρ1 => onB k (run n ρ1 Q W) (Q false ρ1)) W := by
  unfold mAnd
  rw [run_bind]
  congr 1
  funext k ρ1
  cases k <;> simp [onB, run_pure]
theorem run_or {m n : M Bool} {Q : Bool → List Slot → Prop} : run (mOr m n) ρ Q W = run m ρ (fun k ρ1 => onB k (Q true ρ1) (run n ρ1 Q W)) W := by
  unfold mOr
  rw [run_bind]
  congr 1
  funext k ρ1
  cases k <;> simp [onB, run_pure]
theorem run_andV {m n : M D} {Q : D → List Slot → Prop} : run (mAndV m n) ρ Q W = run m ρ (fun d ρ1 => onS (isBl d) fun k => onB k (run n ρ1 Q W) (Q (.bl false) ρ1)) W := by
  unfold mAndV
  rw [run_bind, run_tst]
  congr 1
  funext d ρ1
  congr 1
  funext k
  cases k <;> simp [onB, run_pure]
theorem run_orV {m n : M D} {Q : D → List Slot → Prop} : run (mOrV m n) ρ Q W = run m ρ (fun d ρ1 => onS (isBl d) fun k => onB k (Q (.bl true) ρ1) (run n ρ1 Q W)) W := by
  unfold mOrV
  rw [run_bind, run_tst]
  congr 1
  funext d ρ1
  congr 1
  funext k
  cases k <;> simp [onB, run_pure]
theorem run_notV {m : M D} {Q : D → List Slot → Prop} : run (mNotV m) ρ Q W = run m ρ (fun d ρ1 => onS (isBl d) fun k => Q (.bl (!k)) ρ1) W := by
  unfold mNotV
  rw [run_bind, run_tst]
  rfl
theorem run_ch {f g : D → D → Option D} {ma mb mc : M D} {Q : D → List Slot → Prop} :
    run (mCh f g ma mb mc) ρ Q W = run ma ρ (fun a ρ1 => run mb ρ1 (fun b ρ2 => onS ((f a b).bind isBl) fun k => onB k (run mc ρ2 (fun c ρ3 => onS (g b c) fun d => Q d ρ3) W) (Q (.bl false) ρ2)) W) W := by
  unfold mCh
  rw [run_bind]
  congr 1
  funext a ρ1
  rw [run_bind]
  congr 1
  funext b ρ2
  rw [run_bind, run_of]
  congr 1
  funext k
  cases k <;> simp [onB, run_pure, run_bind, run_of]
theorem run_m2 {f : D → D → Option D} {ma mb : M D} {Q : D → List Slot → Prop} : run (m2 f ma mb) ρ Q W = run ma ρ (fun a ρ1 => run mb ρ1 (fun b ρ2 => onS (f a b) fun d => Q d ρ2) W) W := by
  unfold m2
  simp only [run_bind, run_of]
theorem run_m1 {f : D → Option D} {ma : M D} {Q : D → List Slot → Prop} : run (m1 f ma) ρ Q W = run ma ρ (fun a ρ1 => onS (f a) fun d => Q d ρ1) W := by
  unfold m1
  simp only [run_bind, run_of]
theorem run_mN {f : List D → Option D} {ma : M (List D)} {Q : D → List Slot → Prop} : run (mN f ma) ρ Q W = run ma ρ (fun a ρ1 => onS (f a) fun d => Q d ρ1) W := by
  unfold mN
  simp only [run_bind, run_of]
theorem run_oLst {ma : M (List D)} {Q : Slot → List Slot → Prop} : run (mOLst ma) ρ Q W = run ma ρ (fun a ρ1 => onS (if okSz a then some (Slot.lst a) else none) fun d => Q d ρ1) W := by
  unfold mOLst
  simp only [run_bind, run_of]
theorem run_ixO {i : Nat} {m : M D} {Q : D → List Slot → Prop} : run (mIxO i m) ρ Q W = onS ((ρ[i]?).bind pkD) (fun _ => run m ρ (fun d ρ1 => onS ((ρ1[i]?).bind pkD) fun c => onS (fIx c d) fun x => Q x ρ1) W) := by
  unfold mIxO
  simp only [run_bind, run_of, run_pk]
theorem run_fz {m : M Slot} {Q : D → List Slot → Prop} : run (mFz m) ρ Q W = run m ρ (fun s ρ1 => onS (frzD s) fun d => Q d ρ1) W := by
  unfold mFz
  simp only [run_bind, run_of]
theorem run_fzO {m : M Slot} {Q : D → List Slot → Prop} : run (mFzO m) ρ Q W = run m ρ (fun s ρ1 => onS (frzO s) fun d => Q d ρ1) W := by
  unfold mFzO
  simp only [run_bind, run_of]
theorem run_disp {m : M (List (Key × D))} {Q : D → List Slot → Prop} : run (mDisp m) ρ Q W = run m ρ (fun kvs ρ1 => onS (if kvs.length ≤ 15 then some (D.dct (mergeD [] kvs)) else none) fun d => Q d ρ1) W := by
  unfold mDisp
  simp only [run_bind, run_of]
theorem run_aug {i : Nat} {m : M D} {Q : Fl → List Slot → Prop} : run (mAug i m) ρ Q W = onI ρ[i]? (fun d => run m ρ (fun e ρ1 => onS (fAddN d e) fun r => putP i (.imm r) ρ1 (Q .nx)) W) := by
  unfold run mAug onI
  cases ρ[i]? with
  | none => rfl
  | some s =>
    cases s with
    | imm d =>
      show run (m.bind fun e => (M.of (fAddN d e)).bind fun r => (mPut i (.imm r)).bind fun _ => mNx) ρ Q W = _
      simp only [run_bind, run_of, run_put, run_nx]
      rfl
    | _ => rfl
theorem ru_for {m : M (List D)} {bnd : D → M Unit} {body : M Fl} {Q : Fl → List Slot → Prop} : run (mFor m bnd body) ρ Q W = run m ρ (fun ds ρ1 => run (forM bnd body ds) ρ1 Q W) W := by
  unfold mFor
  simp only [run_bind]
theorem run_raise1 {c f : Str} {m : M D} {Q : Fl → List Slot → Prop} : run (mRaise1 c f m) ρ Q W = run m ρ (fun d ρ1 => W ⟨c, [(f, d)]⟩ ρ1) W := by
  unfold mRaise1
  rw [run_bind]
  rfl
theorem ru_call {n : Nat} {F : Fn} {ms : M (List Ag)} {Q : Slot → List Slot → Prop} : run (mCall n F ms) ρ Q W = run ms ρ (fun as ρ1 => callP n F as ρ1 Q W) W := by
  unfold mCall
  rw [run_bind]
  rfl
theorem run_ag {i : Nat} {Q : Ag → List Slot → Prop} : run (mAg i) ρ Q W = onT ρ[i]? (fun s => match s with | .imm d => Q (.v d) ρ | .exn _ => False | _ => Q (.o i) ρ) := by
  unfold run mAg onT
  cases ρ[i]? with
  | none => rfl
  | some s => cases s <;> rfl
theorem run_xf {i : Nat} {f : Str} {tab : List Str} {Q : D → List Slot → Prop} {e : Exn} (h : ρ[i]? = some (.exn e)) (ht : e.cls ∈ tab) : run (mXf i f tab) ρ Q W = onS (e.fs.lookup f) fun d => Q d ρ := by
  unfold run mXf
  rw [h]
  show Res.post (if e.cls ∈ tab then _ else _) Q W = _
  rw [if_pos ht]
  cases e.fs.lookup f <;> rfl
/-! calls -/
theorem callP_v {n : Nat} {F : Fn} {ds : List D} {Q : Slot → List Slot → Prop} (hl : ds.length = n) : callP n F (ds.map .v) ρ Q W = onR (F (ds.map .imm)) (fun r _ => Q r ρ) (fun c _ => W c ρ) := by
  unfold callP callR onR
  rw [if_pos ⟨okA_v _ _, by rw [List.length_map]; exact hl⟩, slots_v]
  cases F (ds.map .imm) <;> simp only [putB_v, Res.post]
theorem callP_v1 {F : Fn} {a : D} {Q : Slot → List Slot → Prop} : callP 1 F [.v a] ρ Q W = onR (F [.imm a]) (fun r _ => Q r ρ) (fun c _ => W c ρ) := callP_v (ds := [a]) rfl
theorem callP_v2 {F : Fn} {a b : D} {Q : Slot → List Slot → Prop} : callP 2 F [.v a, .v b] ρ Q W = onR (F [.imm a, .imm b]) (fun r _ => Q r ρ) (fun c _ => W c ρ) := callP_v (ds := [a, b]) rfl
theorem callP_v3 {F : Fn} {a b c : D} {Q : Slot → List Slot → Prop} : callP 3 F [.v a, .v b, .v c] ρ Q W = onR (F [.imm a, .imm b, .imm c]) (fun r _ => Q r ρ) (fun c _ => W c ρ) := callP_v (ds := [a, b, c]) rfl
theorem callP_v4 {F : Fn} {a b c d : D} {Q : Slot → List Slot → Prop} : callP 4 F [.v a, .v b, .v c, .v d] ρ Q W = onR (F [.imm a, .imm b, .imm c, .imm d]) (fun r _ => Q r ρ) (fun c _ => W c ρ) := callP_v (ds := [a, b, c, d]) rfl

theorem at0 {x : Slot} {ρ : List Slot} : (x :: ρ)[0]? = some x := rfl
theorem st0 {x y : Slot} {ρ : List Slot} : (x :: ρ).set 0 y = y :: ρ := rfl
theorem pt0 {x y : Slot} {ρ : List Slot} {k : List Slot → Prop} : putP 0 y (x :: ρ) k = k (y :: ρ) := by simp [putP]
theorem sv0 {d : D} {ρ : List Slot} : sVar 0 (.imm d :: ρ) = some d := rfl
theorem at1 {s0 x : Slot} {ρ : List Slot} : (s0 :: x :: ρ)[1]? = some x := rfl
theorem st1 {s0 x y : Slot} {ρ : List Slot} : (s0 :: x :: ρ).set 1 y = s0 :: y :: ρ := rfl
theorem pt1 {s0 x y : Slot} {ρ : List Slot} {k : List Slot → Prop} : putP 1 y (s0 :: x :: ρ) k = k (s0 :: y :: ρ) := by simp [putP]
theorem sv1 {s0 : Slot} {d : D} {ρ : List Slot} : sVar 1 (s0 :: .imm d :: ρ) = some d := rfl
theorem at2 {s0 s1 x : Slot} {ρ : List Slot} : (s0 :: s1 :: x :: ρ)[2]? = some x := rfl
theorem st2 {s0 s1 x y : Slot} {ρ : List Slot} : (s0 :: s1 :: x :: ρ).set 2 y = s0 :: s1 :: y :: ρ := rfl
theorem pt2 {s0 s1 x y : Slot} {ρ : List Slot} {k : List Slot → Prop} : putP 2 y (s0 :: s1 :: x :: ρ) k = k (s0 :: s1 :: y :: ρ) := by simp [putP]
theorem sv2 {s0 s1 : Slot} {d : D} {ρ : List Slot} : sVar 2 (s0 :: s1 :: .imm d :: ρ) = some d := rfl
theorem at3 {s0 s1 s2 x : Slot} {ρ : List Slot} : (s0 :: s1 :: s2 :: x :: ρ)[3]? = some x := rfl
theorem st3 {s0 s1 s2 x y : Slot} {ρ : List Slot} : (s0 :: s1 :: s2 :: x :: ρ).set 3 y = s0 :: s1 :: s2 :: y :: ρ := rfl
theorem pt3 {s0 s1 s2 x y : Slot} {ρ : List Slot} {k : List Slot → Prop} : putP 3 y (s0 :: s1 :: s2 :: x :: ρ) k = k (s0 :: s1 :: s2 :: y :: ρ) := by simp [putP]
theorem sv3 {s0 s1 s2 : Slot} {d : D} {ρ : List Slot} : sVar 3 (s0 :: s1 :: s2 :: .imm d :: ρ) = some d := rfl
theorem at4 {s0 s1 s2 s3 x : Slot} {ρ : List Slot} : (s0 :: s1 :: s2 :: s3 :: x :: ρ)[4]? = some x := rfl
theorem st4 {s0 s1 s2 s3 x y : Slot} {ρ : List Slot} : (s0 :: s1 :: s2 :: s3 :: x :: ρ).set 4 y = s0 :: s1 :: s2 :: s3 :: y :: ρ := rfl
theorem pt4 {s0 s1 s2 s3 x y : Slot} {ρ : List Slot} {k : List Slot → Prop} : putP 4 y (s0 :: s1 :: s2 :: s3 :: x :: ρ) k = k (s0 :: s1 :: s2 :: s3 :: y :: ρ) := by simp [putP]
theorem sv4 {s0 s1 s2 s3 : Slot} {d : D} {ρ : List Slot} : sVar 4 (s0 :: s1 :: s2 :: s3 :: .imm d :: ρ) = some d := rfl
theorem at5 {s0 s1 s2 s3 s4 x : Slot} {ρ : List Slot} : (s0 :: s1 :: s2 :: s3 :: s4 :: x :: ρ)[5]? = some x := rfl
theorem st5 {s0 s1 s2 s3 s4 x y : Slot} {ρ : List Slot} : (s0 :: s1 :: s2 :: s3 :: s4 :: x :: ρ).set 5 y = s0 :: s1 :: s2 :: s3 :: s4 :: y :: ρ := rfl
theorem pt5 {s0 s1 s2 s3 s4 x y : Slot} {ρ : List Slot} {k : List Slot → Prop} : putP 5 y (s0 :: s1 :: s2 :: s3 :: s4 :: x :: ρ) k = k (s0 :: s1 :: s2 :: s3 :: s4 :: y :: ρ) := by simp [putP]
theorem sv5 {s0 s1 s2 s3 s4 : Slot} {d : D} {ρ : List Slot} : sVar 5 (s0 :: s1 :: s2 :: s3 :: s4 :: .imm d :: ρ) = some d := rfl
theorem at6 {s0 s1 s2 s3 s4 s5 x : Slot} {ρ : List Slot} : (s0 :: s1 :: s2 :: s3 :: s4 :: s5 :: x :: ρ)[6]? = some x := rfl
theorem st6 {s0 s1 s2 s3 s4 s5 x y : Slot} {ρ : List Slot} : (s0 :: s1 :: s2 :: s3 :: s4 :: s5 :: x :: ρ).set 6 y = s0 :: s1 :: s2 :: s3 :: s4 :: s5 :: y :: ρ := rfl
theorem pt6 {s0 s1 s2 s3 s4 s5 x y : Slot} {ρ : List Slot} {k : List Slot → Prop} : putP 6 y (s0 :: s1 :: s2 :: s3 :: s4 :: s5 :: x :: ρ) k = k (s0 :: s1 :: s2 :: s3 :: s4 :: s5 :: y :: ρ) := by simp [putP]
theorem sv6 {s0 s1 s2 s3 s4 s5 : Slot} {d : D} {ρ : List Slot} : sVar 6 (s0 :: s1 :: s2 :: s3 :: s4 :: s5 :: .imm d :: ρ) = some d := rfl
theorem at7 {s0 s1 s2 s3 s4 s5 s6 x : Slot} {ρ : List Slot} : (s0 :: s1 :: s2 :: s3 :: s4 :: s5 :: s6 :: x :: ρ)[7]? = some x := rfl
theorem st7 {s0 s1 s2 s3 s4 s5 s6 x y : Slot} {ρ : List Slot} : (s0 :: s1 :: s2 :: s3 :: s4 :: s5 :: s6 :: x :: ρ).set 7 y = s0 :: s1 :: s2 :: s3 :: s4 :: s5 :: s6 :: y :: ρ := rfl
theorem pt7 {s0 s1 s2 s3 s4 s5 s6 x y : Slot} {ρ : List Slot} {k : List Slot → Prop} : putP 7 y (s0 :: s1 :: s2 :: s3 :: s4 :: s5 :: s6 :: x :: ρ) k = k (s0 :: s1 :: s2 :: s3 :: s4 :: s5 :: s6 :: y :: ρ) := by simp [putP]
theorem sv7 {s0 s1 s2 s3 s4 s5 s6 : Slot} {d : D} {ρ : List Slot} : sVar 7 (s0 :: s1 :: s2 :: s3 :: s4 :: s5 :: s6 :: .imm d :: ρ) = some d := rfl
theorem at8 {s0 s1 s2 s3 s4 s5 s6 s7 x : Slot} {ρ : List Slot} : (s0 :: s1 :: s2 :: s3 :: s4 :: s5 :: s6 :: s7 :: x :: ρ)[8]? = some x := rfl
theorem st8 {s0 s1 s2 s3 s4 s5 s6 s7 x y : Slot} {ρ : List Slot} : (s0 :: s1 :: s2 :: s3 :: s4 :: s5 :: s6 :: s7 :: x :: ρ).set 8 y = s0 :: s1 :: s2 :: s3 :: s4 :: s5 :: s6 :: s7 :: y :: ρ := rfl
theorem pt8 {s0 s1 s2 s3 s4 s5 s6 s7 x y : Slot} {ρ : List Slot} {k : List Slot → Prop} : putP 8 y (s0 :: s1 :: s2 :: s3 :: s4 :: s5 :: s6 :: s7 :: x :: ρ) k = k (s0 :: s1 :: s2 :: s3 :: s4 :: s5 :: s6 :: s7 :: y :: ρ) := by simp [putP]
theorem sv8 {s0 s1 s2 s3 s4 s5 s6 s7 : Slot} {d : D} {ρ : List Slot} : sVar 8 (s0 :: s1 :: s2 :: s3 :: s4 :: s5 :: s6 :: s7 :: .imm d :: ρ) = some d := rfl
theorem at9 {s0 s1 s2 s3 s4 s5 s6 s7 s8 x : Slot} {ρ : List Slot} : (s0 :: s1 :: s2 :: s3 :: s4 :: s5 :: s6 :: s7 :: s8 :: x :: ρ)[9]? = some x := rfl
theorem st9 {s0 s1 s2 s3 s4 s5 s6 s7 s8 x y : Slot} {ρ : List Slot} : (s0 :: s1 :: s2 :: s3 :: s4 :: s5 :: s6 :: s7 :: s8 :: x :: ρ).set 9 y = s0 :: s1 :: s2 :: s3 :: s4 :: s5 :: s6 :: s7 :: s8 :: y :: ρ := rfl
theorem pt9 {s0 s1 s2 s3 s4 s5 s6 s7 s8 x y : Slot} {ρ : List Slot} {k : List Slot → Prop} : putP 9 y (s0 :: s1 :: s2 :: s3 :: s4 :: s5 :: s6 :: s7 :: s8 :: x :: ρ) k = k (s0 :: s1 :: s2 :: s3 :: s4 :: s5 :: s6 :: s7 :: s8 :: y :: ρ) := by simp [putP]
theorem sv9 {s0 s1 s2 s3 s4 s5 s6 s7 s8 : Slot} {d : D} {ρ : List Slot} : sVar 9 (s0 :: s1 :: s2 :: s3 :: s4 :: s5 :: s6 :: s7 :: s8 :: .imm d :: ρ) = some d := rfl
theorem at10 {s0 s1 s2 s3 s4 s5 s6 s7 s8 s9 x : Slot} {ρ : List Slot} : (s0 :: s1 :: s2 :: s3 :: s4 :: s5 :: s6 :: s7 :: s8 :: s9 :: x :: ρ)[10]? = some x := rfl
theorem st10 {s0 s1 s2 s3 s4 s5 s6 s7 s8 s9 x y : Slot} {ρ : List Slot} : (s0 :: s1 :: s2 :: s3 :: s4 :: s5 :: s6 :: s7 :: s8 :: s9 :: x :: ρ).set 10 y = s0 :: s1 :: s2 :: s3 :: s4 :: s5 :: s6 :: s7 :: s8 :: s9 :: y :: ρ := rfl
theorem pt10 {s0 s1 s2 s3 s4 s5 s6 s7 s8 s9 x y : Slot} {ρ : List Slot} {k : List Slot → Prop} : putP 10 y (s0 :: s1 :: s2 :: s3 :: s4 :: s5 :: s6 :: s7 :: s8 :: s9 :: x :: ρ) k = k (s0 :: s1 :: s2 :: s3 :: s4 :: s5 :: s6 :: s7 :: s8 :: s9 :: y :: ρ) := by simp [putP]
theorem sv10 {s0 s1 s2 s3 s4 s5 s6 s7 s8 s9 : Slot} {d : D} {ρ : List Slot} : sVar 10 (s0 :: s1 :: s2 :: s3 :: s4 :: s5 :: s6 :: s7 :: s8 :: s9 :: .imm d :: ρ) = some d := rfl
theorem at11 {s0 s1 s2 s3 s4 s5 s6 s7 s8 s9 s10 x : Slot} {ρ : List Slot} : (s0 :: s1 :: s2 :: s3 :: s4 :: s5 :: s6 :: s7 :: s8 :: s9 :: s10 :: x :: ρ)[11]? = some x := rfl
theorem st11 {s0 s1 s2 s3 s4 s5 s6 s7 s8 s9 s10 x y : Slot} {ρ : List Slot} : (s0 :: s1 :: s2 :: s3 :: s4 :: s5 :: s6 :: s7 :: s8 :: s9 :: s10 :: x :: ρ).set 11 y = s0 :: s1 :: s2 :: s3 :: s4 :: s5 :: s6 :: s7 :: s8 :: s9 :: s10 :: y :: ρ := rfl
theorem pt11 {s0 s1 s2 s3 s4 s5 s6 s7 s8 s9 s10 x y : Slot} {ρ : List Slot} {k : List Slot → Prop} : putP 11 y (s0 :: s1 :: s2 :: s3 :: s4 :: s5 :: s6 :: s7 :: s8 :: s9 :: s10 :: x :: ρ) k = k (s0 :: s1 :: s2 :: s3 :: s4 :: s5 :: s6 :: s7 :: s8 :: s9 :: s10 :: y :: ρ) := by simp [putP]
theorem sv11 {s0 s1 s2 s3 s4 s5 s6 s7 s8 s9 s10 : Slot} {d : D} {ρ : List Slot} : sVar 11 (s0 :: s1 :: s2 :: s3 :: s4 :: s5 :: s6 :: s7 :: s8 :: s9 :: s10 :: .imm d :: ρ) = some d := rfl
theorem at12 {s0 s1 s2 s3 s4 s5 s6 s7 s8 s9 s10 s11 x : Slot} {ρ : List Slot} : (s0 :: s1 :: s2 :: s3 :: s4 :: s5 :: s6 :: s7 :: s8 :: s9 :: s10 :: s11 :: x :: ρ)[12]? = some x := rfl
theorem st12 {s0 s1 s2 s3 s4 s5 s6 s7 s8 s9 s10 s11 x y : Slot} {ρ : List Slot} : (s0 :: s1 :: s2 :: s3 :: s4 :: s5 :: s6 :: s7 :: s8 :: s9 :: s10 :: s11 :: x :: ρ).set 12 y = s0 :: s1 :: s2 :: s3 :: s4 :: s5 :: s6 :: s7 :: s8 :: s9 :: s10 :: s11 :: y :: ρ := rfl
theorem pt12 {s0 s1 s2 s3 s4 s5 s6 s7 s8 s9 s10 s11 x y : Slot} {ρ : List Slot} {k : List Slot → Prop} : putP 12 y (s0 :: s1 :: s2 :: s3 :: s4 :: s5 :: s6 :: s7 :: s8 :: s9 :: s10 :: s11 :: x :: ρ) k = k (s0 :: s1 :: s2 :: s3 :: s4 :: s5 :: s6 :: s7 :: s8 :: s9 :: s10 :: s11 :: y :: ρ) := by simp [putP]
theorem sv12 {s0 s1 s2 s3 s4 s5 s6 s7 s8 s9 s10 s11 : Slot} {d : D} {ρ : List Slot} : sVar 12 (s0 :: s1 :: s2 :: s3 :: s4 :: s5 :: s6 :: s7 :: s8 :: s9 :: s10 :: s11 :: .imm d :: ρ) = some d := rfl
theorem at13 {s0 s1 s2 s3 s4 s5 s6 s7 s8 s9 s10 s11 s12 x : Slot} {ρ : List Slot} : (s0 :: s1 :: s2 :: s3 :: s4 :: s5 :: s6 :: s7 :: s8 :: s9 :: s10 :: s11 :: s12 :: x :: ρ)[13]? = some x := rfl
theorem st13 {s0 s1 s2 s3 s4 s5 s6 s7 s8 s9 s10 s11 s12 x y : Slot} {ρ : List Slot} : (s0 :: s1 :: s2 :: s3 :: s4 :: s5 :: s6 :: s7 :: s8 :: s9 :: s10 :: s11 :: s12 :: x :: ρ).set 13 y = s0 :: s1 :: s2 :: s3 :: s4 :: s5 :: s6 :: s7 :: s8 :: s9 :: s10 :: s11 :: s12 :: y :: ρ := rfl
theorem pt13 {s0 s1 s2 s3 s4 s5 s6 s7 s8 s9 s10 s11 s12 x y : Slot} {ρ : List Slot} {k : List Slot → Prop} : putP 13 y (s0 :: s1 :: s2 :: s3 :: s4 :: s5 :: s6 :: s7 :: s8 :: s9 :: s10 :: s11 :: s12 :: x :: ρ) k = k (s0 :: s1 :: s2 :: s3 :: s4 :: s5 :: s6 :: s7 :: s8 :: s9 :: s10 :: s11 :: s12 :: y :: ρ) := by simp [putP]
theorem sv13 {s0 s1 s2 s3 s4 s5 s6 s7 s8 s9 s10 s11 s12 : Slot} {d : D} {ρ : List Slot} : sVar 13 (s0 :: s1 :: s2 :: s3 :: s4 :: s5 :: s6 :: s7 :: s8 :: s9 :: s10 :: s11 :: s12 :: .imm d :: ρ) = some d := rfl
theorem at14 {s0 s1 s2 s3 s4 s5 s6 s7 s8 s9 s10 s11 s12 s13 x : Slot} {ρ : List Slot} : (s0 :: s1 :: s2 :: s3 :: s4 :: s5 :: s6 :: s7 :: s8 :: s9 :: s10 :: s11 :: s12 :: s13 :: x :: ρ)[14]? = some x := rfl
theorem st14 {s0 s1 s2 s3 s4 s5 s6 s7 s8 s9 s10 s11 s12 s13 x y : Slot} {ρ : List Slot} : (s0 :: s1 :: s2 :: s3 :: s4 :: s5 :: s6 :: s7 :: s8 :: s9 :: s10 :: s11 :: s12 :: s13 :: x :: ρ).set 14 y = s0 :: s1 :: s2 :: s3 :: s4 :: s5 :: s6 :: s7 :: s8 :: s9 :: s10 :: s11 :: s12 :: s13 :: y :: ρ := rfl
theorem pt14 {s0 s1 s2 s3 s4 s5 s6 s7 s8 s9 s10 s11 s12 s13 x y : Slot} {ρ : List Slot} {k : List Slot → Prop} : putP 14 y (s0 :: s1 :: s2 :: s3 :: s4 :: s5 :: s6 :: s7 :: s8 :: s9 :: s10 :: s11 :: s12 :: s13 :: x :: ρ) k = k (s0 :: s1 :: s2 :: s3 :: s4 :: s5 :: s6 :: s7 :: s8 :: s9 :: s10 :: s11 :: s12 :: s13 :: y :: ρ) := by simp [putP]
theorem sv14 {s0 s1 s2 s3 s4 s5 s6 s7 s8 s9 s10 s11 s12 s13 : Slot} {d : D} {ρ : List Slot} : sVar 14 (s0 :: s1 :: s2 :: s3 :: s4 :: s5 :: s6 :: s7 :: s8 :: s9 :: s10 :: s11 :: s12 :: s13 :: .imm d :: ρ) = some d := rfl
theorem at15 {s0 s1 s2 s3 s4 s5 s6 s7 s8 s9 s10 s11 s12 s13 s14 x : Slot} {ρ : List Slot} : (s0 :: s1 :: s2 :: s3 :: s4 :: s5 :: s6 :: s7 :: s8 :: s9 :: s10 :: s11 :: s12 :: s13 :: s14 :: x :: ρ)[15]? = some x := rfl
theorem st15 {s0 s1 s2 s3 s4 s5 s6 s7 s8 s9 s10 s11 s12 s13 s14 x y : Slot} {ρ : List Slot} : (s0 :: s1 :: s2 :: s3 :: s4 :: s5 :: s6 :: s7 :: s8 :: s9 :: s10 :: s11 :: s12 :: s13 :: s14 :: x :: ρ).set 15 y = s0 :: s1 :: s2 :: s3 :: s4 :: s5 :: s6 :: s7 :: s8 :: s9 :: s10 :: s11 :: s12 :: s13 :: s14 :: y :: ρ := rfl
theorem pt15 {s0 s1 s2 s3 s4 s5 s6 s7 s8 s9 s10 s11 s12 s13 s14 x y : Slot} {ρ : List Slot} {k : List Slot → Prop} : putP 15 y (s0 :: s1 :: s2 :: s3 :: s4 :: s5 :: s6 :: s7 :: s8 :: s9 :: s10 :: s11 :: s12 :: s13 :: s14 :: x :: ρ) k = k (s0 :: s1 :: s2 :: s3 :: s4 :: s5 :: s6 :: s7 :: s8 :: s9 :: s10 :: s11 :: s12 :: s13 :: s14 :: y :: ρ) := by simp [putP]
theorem sv15 {s0 s1 s2 s3 s4 s5 s6 s7 s8 s9 s10 s11 s12 s13 s14 : Slot} {d : D} {ρ : List Slot} : sVar 15 (s0 :: s1 :: s2 :: s3 :: s4 :: s5 :: s6 :: s7 :: s8 :: s9 :: s10 :: s11 :: s12 :: s13 :: s14 :: .imm d :: ρ) = some d := rfl
theorem at16 {s0 s1 s2 s3 s4 s5 s6 s7 s8 s9 s10 s11 s12 s13 s14 s15 x : Slot} {ρ : List Slot} : (s0 :: s1 :: s2 :: s3 :: s4 :: s5 :: s6 :: s7 :: s8 :: s9 :: s10 :: s11 :: s12 :: s13 :: s14 :: s15 :: x :: ρ)[16]? = some x := rfl
theorem st16 {s0 s1 s2 s3 s4 s5 s6 s7 s8 s9 s10 s11 s12 s13 s14 s15 x y : Slot} {ρ : List Slot} : (s0 :: s1 :: s2 :: s3 :: s4 :: s5 :: s6 :: s7 :: s8 :: s9 :: s10 :: s11 :: s12 :: s13 :: s14 :: s15 :: x :: ρ).set 16 y = s0 :: s1 :: s2 :: s3 :: s4 :: s5 :: s6 :: s7 :: s8 :: s9 :: s10 :: s11 :: s12 :: s13 :: s14 :: s15 :: y :: ρ := rfl
theorem pt16 {s0 s1 s2 s3 s4 s5 s6 s7 s8 s9 s10 s11 s12 s13 s14 s15 x y : Slot} {ρ : List Slot} {k : List Slot → Prop} : putP 16 y (s0 :: s1 :: s2 :: s3 :: s4 :: s5 :: s6 :: s7 :: s8 :: s9 :: s10 :: s11 :: s12 :: s13 :: s14 :: s15 :: x :: ρ) k = k (s0 :: s1 :: s2 :: s3 :: s4 :: s5 :: s6 :: s7 :: s8 :: s9 :: s10 :: s11 :: s12 :: s13 :: s14 :: s15 :: y :: ρ) := by simp [putP]
theorem sv16 {s0 s1 s2 s3 s4 s5 s6 s7 s8 s9 s10 s11 s12 s13 s14 s15 : Slot} {d : D} {ρ : List Slot} : sVar 16 (s0 :: s1 :: s2 :: s3 :: s4 :: s5 :: s6 :: s7 :: s8 :: s9 :: s10 :: s11 :: s12 :: s13 :: s14 :: s15 :: .imm d :: ρ) = some d := rfl
theorem at17 {s0 s1 s2 s3 s4 s5 s6 s7 s8 s9 s10 s11 s12 s13 s14 s15 s16 x : Slot} {ρ : List Slot} : (s0 :: s1 :: s2 :: s3 :: s4 :: s5 :: s6 :: s7 :: s8 :: s9 :: s10 :: s11 :: s12 :: s13 :: s14 :: s15 :: s16 :: x :: ρ)[17]? = some x := rfl
theorem st17 {s0 s1 s2 s3 s4 s5 s6 s7 s8 s9 s10 s11 s12 s13 s14 s15 s16 x y : Slot} {ρ : List Slot} : (s0 :: s1 :: s2 :: s3 :: s4 :: s5 :: s6 :: s7 :: s8 :: s9 :: s10 :: s11 :: s12 :: s13 :: s14 :: s15 :: s16 :: x :: ρ).set 17 y = s0 :: s1 :: s2 :: s3 :: s4 :: s5 :: s6 :: s7 :: s8 :: s9 :: s10 :: s11 :: s12 :: s13 :: s14 :: s15 :: s16 :: y :: ρ := rfl
theorem pt17 {s0 s1 s2 s3 s4 s5 s6 s7 s8 s9 s10 s11 s12 s13 s14 s15 s16 x y : Slot} {ρ : List Slot} {k : List Slot → Prop} : putP 17 y (s0 :: s1 :: s2 :: s3 :: s4 :: s5 :: s6 :: s7 :: s8 :: s9 :: s10 :: s11 :: s12 :: s13 :: s14 :: s15 :: s16 :: x :: ρ) k = k (s0 :: s1 :: s2 :: s3 :: s4 :: s5 :: s6 :: s7 :: s8 :: s9 :: s10 :: s11 :: s12 :: s13 :: s14 :: s15 :: s16 :: y :: ρ) := by simp [putP]
theorem sv17 {s0 s1 s2 s3 s4 s5 s6 s7 s8 s9 s10 s11 s12 s13 s14 s15 s16 : Slot} {d : D} {ρ : List Slot} : sVar 17 (s0 :: s1 :: s2 :: s3 :: s4 :: s5 :: s6 :: s7 :: s8 :: s9 :: s10 :: s11 :: s12 :: s13 :: s14 :: s15 :: s16 :: .imm d :: ρ) = some d := rfl
end
end EE
end

section
set_option Elab.async false
set_option linter.all false
set_option maxRecDepth 100000
set_option maxHeartbeats 4000000
/-! E32: running a mirror: loops, comprehensions, own objects, calls with own objects, defs -/
namespace EE
open PySem L2
theorem post_mono0 {α : Type} {r : Res α} {Q Q' : α → List Slot → Prop} {W W' : Exn → List Slot → Prop} (h : r.post Q W) (hq : ∀ a ρ, Q a ρ → Q' a ρ) (hw : ∀ c ρ, W c ρ → W' c ρ) : r.post Q' W' := by
  cases r with
  | ok a ρ => exact hq a ρ h
  | exc c ρ => exact hw c ρ h
  | bad => exact h
section
variable {α β : Type} {ρ : List Slot} {W : Exn → List Slot → Prop}
theorem run_mono {m : M α} {Q Q' : α → List Slot → Prop} {W' : Exn → List Slot → Prop} (h : run m ρ Q W) (hq : ∀ a ρ, Q a ρ → Q' a ρ) (hw : ∀ c ρ, W c ρ → W' c ρ) : run m ρ Q' W' := post_mono0 h hq hw
theorem onR_mono {r : Res α} {Q Q' : α → List Slot → Prop} {W' : Exn → List Slot → Prop} (h : onR r Q W) (hq : ∀ a ρ, Q a ρ → Q' a ρ) (hw : ∀ c ρ, W c ρ → W' c ρ) : onR r Q' W' := post_mono0 h hq hw
/-! ### loops -/
def onLp (fl : Fl) (A B C : Prop) : Prop := match fl with | .nx => A | .ct => A | .bk => B | .rt _ => C
theorem onLp_nx {A B C : Prop} : onLp .nx A B C = A := propext Iff.rfl
theorem onLp_ct {A B C : Prop} : onLp .ct A B C = A := propext Iff.rfl
theorem onLp_bk {A B C : Prop} : onLp .bk A B C = B := propext Iff.rfl
theorem onLp_rt {r : Slot} {A B C : Prop} : onLp (.rt r) A B C = C := propext Iff.rfl
/-- a for over f x, x in xs; I: what holds behind the items so far -/
theorem run_forM {bnd : D → M Unit} {body : M Fl} {xs : List α} {f : α → D} (I : List α → List Slot → Prop) {Q : Fl → List Slot → Prop} (h0 : I [] ρ)
    (step : ∀ pre x post ρ, xs = pre ++ x :: post → I pre ρ → run (bnd (f x)) ρ (fun _ ρ1 => run body ρ1 (fun fl ρ2 => onLp fl (I (pre ++ [x]) ρ2) (Q .nx ρ2) (Q fl ρ2)) W) W)
    (fin : ∀ ρ, I xs ρ → Q .nx ρ) : run (forM bnd body (xs.map f)) ρ Q W := by
  suffices h : ∀ (post pre : List α) (ρ : List Slot), xs = pre ++ post → I pre ρ → run (forM bnd body (post.map f)) ρ Q W from h xs [] ρ rfl h0
  intro post
  induction post with
  | nil =>
    intro pre ρ e i
    rw [List.append_nil] at e
    subst e
    exact fin ρ i
  | cons x post ih =>
    intro pre ρ e i
    show run ((bnd (f x)).bind fun _ => body.bind fun fl => _) ρ Q W
    rw [run_bind]
    refine run_mono (step pre x post ρ e i) (fun _ ρ1 h => ?_) fun _ _ z => z
    rw [run_bind]
    refine run_mono h (fun fl ρ2 h => ?_) fun _ _ z => z
    cases fl with
    | nx => exact ih (pre ++ [x]) ρ2 (by rw [e]; simp) h
    | ct => exact ih (pre ++ [x]) ρ2 (by rw [e]; simp) h
    | bk => exact h
    | rt r => exact h
theorem run_forM' {bnd : D → M Unit} {body : M Fl} {ds : List D} (I : List D → List Slot → Prop) {Q : Fl → List Slot → Prop} (h0 : I [] ρ)
    (step : ∀ pre x post ρ, ds = pre ++ x :: post → I pre ρ → run (bnd x) ρ (fun _ ρ1 => run body ρ1 (fun fl ρ2 => onLp fl (I (pre ++ [x]) ρ2) (Q .nx ρ2) (Q fl ρ2)) W) W)
    (fin : ∀ ρ, I ds ρ → Q .nx ρ) : run (forM bnd body ds) ρ Q W := by
  have h := run_forM (f := id) (xs := ds) (bnd := bnd) (body := body) (ρ := ρ) (Q := Q) (W := W) I h0 step fin
  rwa [List.map_id] at h
theorem rl_nil {bnd : D → M Unit} {body : M Fl} {Q : Fl → List Slot → Prop} : run (forM bnd body []) ρ Q W = Q .nx ρ := propext Iff.rfl
theorem rl_cons {bnd : D → M Unit} {body : M Fl} {d : D} {ds : List D} {Q : Fl → List Slot → Prop} : run (forM bnd body (d :: ds)) ρ Q W = run (bnd d) ρ (fun _ ρ1 => run body ρ1 (fun fl ρ2 => onLp fl (run (forM bnd body ds) ρ2 Q W) (Q .nx ρ2) (Q fl ρ2)) W) W := by
  show run ((bnd d).bind fun _ => body.bind fun fl => _) ρ Q W = _
  rw [run_bind]
  congr 1
  funext _ ρ1
  rw [run_bind]
  congr 1
  funext fl ρ2
  cases fl <;> rfl
theorem rl_nilD {bnd : D → M Unit} {body : M Fl} {Q : Fl → List Slot → Prop} {d : Dm2 Q W} : runD (forM bnd body []) ρ Q W d = Q .nx ρ := propext Iff.rfl
theorem rl_consD {bnd : D → M Unit} {body : M Fl} {d : D} {ds : List D} {Q : Fl → List Slot → Prop} {e : Dm2 Q W} : runD (forM bnd body (d :: ds)) ρ Q W e = run (bnd d) ρ (fun _ ρ1 => run body ρ1 (fun fl ρ2 => onLp fl (run (forM bnd body ds) ρ2 Q W) (Q .nx ρ2) (Q fl ρ2)) W) W := rl_cons
/-- a while; I n: at most n times more -/
theorem run_while {c : M Bool} {b : M Fl} (I : Nat → List Slot → Prop) {Q : Fl → List Slot → Prop} (n : Nat) (h0 : I n ρ)
    (step : ∀ n ρ, I n ρ → run c ρ (fun k ρ1 => onB k (run b ρ1 (fun fl ρ2 => onLp fl (∃ m, m < n ∧ I m ρ2) (Q .nx ρ2) (Q fl ρ2)) W) (Q .nx ρ1)) W)
    {N : Nat} (hN : n < N) : run (whileM c b N) ρ Q W := by
  induction N generalizing n ρ with
  | zero => omega
  | succ N ih =>
    show run (c.bind fun k => if k then b.bind fun fl => _ else mNx) ρ Q W
    rw [run_bind]
    refine run_mono (step n ρ h0) (fun k ρ1 h => ?_) fun _ _ z => z
    cases k with
    | false =>
      rw [onB_false] at h
      exact h
    | true =>
      rw [onB_true] at h
      show run (b.bind fun fl => _) ρ1 Q W
      rw [run_bind]
      refine run_mono h (fun fl ρ2 h => ?_) fun _ _ z => z
      cases fl with
      | nx => obtain ⟨m, hm, i⟩ := h; exact ih m i (by omega)
      | ct => obtain ⟨m, hm, i⟩ := h; exact ih m i (by omega)
      | bk => exact h
      | rt r => exact h
/-! ### comprehensions -/
abbrev NoW : Exn → List Slot → Prop := fun _ _ => False
theorem run_noX {m : M α} {Q : α → List Slot → Prop} : run (noX m) ρ Q W = run m ρ Q NoW := by
  unfold run noX
  cases m ρ <;> rfl
theorem run_comp {n : Nat} {m : M (List D)} {bnd : D → M Unit} {tst : M Bool} {elt : M D} {vs : List Nat} {Q : D → List Slot → Prop} :
    run (mComp n m bnd tst elt vs) ρ Q W = run m ρ (fun ds ρ1 => (plainAt ρ1 vs && decide (ρ1.length = n)) = true ∧ run (compM bnd tst elt vs ds []) (wipeR ρ1 vs) (fun acc ρ2 => Q (.lst acc) (backR ρ1 ρ2 vs)) NoW) W := by
  unfold mComp
  rw [run_bind]
  congr 1
  funext ds ρ1
  unfold run
  dsimp only
  split
  · rename_i h
    simp only [h, true_and]
    cases compM bnd tst elt vs ds [] (wipeR ρ1 vs) <;> rfl
  · rename_i h
    exact propext ⟨fun z => z.elim, fun z => h z.1⟩
theorem run_oComp {n : Nat} {m : M (List D)} {bnd : D → M Unit} {tst : M Bool} {elt : M D} {vs : List Nat} {Q : Slot → List Slot → Prop} :
    run (mOComp n m bnd tst elt vs) ρ Q W = run m ρ (fun ds ρ1 => (plainAt ρ1 vs && decide (ρ1.length = n)) = true ∧ run (compM bnd tst elt vs ds []) (wipeR ρ1 vs) (fun acc ρ2 => Q (.lst acc) (backR ρ1 ρ2 vs)) NoW) W := by
  unfold mOComp
  rw [run_bind]
  congr 1
  funext ds ρ1
  unfold run
  dsimp only
  split
  · rename_i h
    simp only [h, true_and]
    cases compM bnd tst elt vs ds [] (wipeR ρ1 vs) <;> rfl
  · rename_i h
    exact propext ⟨fun z => z.elim, fun z => h z.1⟩
theorem run_compD {n : Nat} {w : Wk} {f : List Slot → Option D} {bnd : D → M Unit} {tst : M Bool} {em : M D} {vs : List Nat} {Q : D → List Slot → Prop} :
    run (mCompD n w f bnd tst em vs) ρ Q W = onS ((f ρ).bind (wkD w)) (fun ds => (plainAt ρ vs && decide (ρ.length = n)) = true ∧ run (compM bnd tst em vs ds []) (wipeR ρ vs) (fun acc ρ2 => Q (.lst acc) (backR ρ ρ2 vs)) NoW) := by
  unfold run mCompD
  cases (f ρ).bind (wkD w) with
  | none => rfl
  | some ds =>
    rw [onS_some]
    show Res.post (if plainAt ρ vs = true ∧ ρ.length = n then _ else _) Q W = _
    split
    · rename_i h
      simp only [h.1, h.2, Bool.true_and, decide_true, true_and]
      cases compM bnd tst em vs ds [] (wipeR ρ vs) <;> rfl
    · rename_i h
      have : ¬ (plainAt ρ vs && decide (ρ.length = n)) = true := by simpa using h
      exact propext ⟨fun z => z.elim, fun z => this z.1⟩
theorem run_dcompD {n : Nat} {w : Wk} {f : List Slot → Option D} {bnd : D → M Unit} {tst : M Bool} {km em : M D} {vs : List Nat} {Q : D → List Slot → Prop} :
    run (mDCompD n w f bnd tst km em vs) ρ Q W = onS ((f ρ).bind (wkD w)) (fun ds => (plainAt ρ vs && decide (ρ.length = n)) = true ∧ run (dcompM bnd tst km em vs ds []) (wipeR ρ vs) (fun acc ρ2 => Q (.dct acc) (backR ρ ρ2 vs)) NoW) := by
  unfold run mDCompD
  cases (f ρ).bind (wkD w) with
  | none => rfl
  | some ds =>
    rw [onS_some]
    show Res.post (if plainAt ρ vs = true ∧ ρ.length = n then _ else _) Q W = _
    split
    · rename_i h
      simp only [h.1, h.2, Bool.true_and, decide_true, true_and]
      cases dcompM bnd tst km em vs ds [] (wipeR ρ vs) <;> rfl
    · rename_i h
      have : ¬ (plainAt ρ vs && decide (ρ.length = n)) = true := by simpa using h
      exact propext ⟨fun z => z.elim, fun z => this z.1⟩
theorem cl_nilD {bnd : D → M Unit} {tst : M Bool} {elt : M D} {vs : List Nat} {acc : List D} {Q : List D → List Slot → Prop} {d : Dm2 Q W} : runD (compM bnd tst elt vs [] acc) ρ Q W d = Q acc ρ := propext Iff.rfl
theorem cl_cons {bnd : D → M Unit} {tst : M Bool} {elt : M D} {vs : List Nat} {d : D} {ds acc : List D} {Q : List D → List Slot → Prop} :
    run (compM bnd tst elt vs (d :: ds) acc) ρ Q W = run (bnd d) ρ (fun _ ρ1 => run tst ρ1 (fun k ρ2 => onB k (run elt ρ2 (fun y ρ3 => okSz acc ∧ run (compM bnd tst elt vs ds (acc ++ [y])) (wipeR ρ3 vs) Q W) NoW) (run (compM bnd tst elt vs ds acc) (wipeR ρ2 vs) Q W)) NoW) NoW := by
  show run ((noX (bnd d)).bind fun _ => (noX tst).bind fun k => _) ρ Q W = _
  rw [run_bind]
  unfold EE.run noX
  cases bnd d ρ with
  | bad => rfl
  | exc _ _ => rfl
  | ok u ρ1 =>
    show Res.post (((noX tst).bind fun k => _) ρ1) Q W = Res.post (tst ρ1) _ NoW
    unfold M.bind noX
    cases tst ρ1 with
    | bad => rfl
    | exc _ _ => rfl
    | ok k ρ2 =>
      cases k with
      | false => rfl
      | true =>
        show Res.post (((noX elt).bind fun y => _) ρ2) Q W = onB true _ _
        rw [onB_true]
        unfold M.bind noX
        cases elt ρ2 with
        | bad => rfl
        | exc _ _ => rfl
        | ok y ρ3 =>
          by_cases h : okSz acc
          · simp only [h, true_and, if_true, Res.bind, Res.post]
          · simp only [h, if_false, Res.bind]
            exact propext ⟨fun z => z.elim, fun z => z.1.elim⟩
theorem cl_consD {bnd : D → M Unit} {tst : M Bool} {elt : M D} {vs : List Nat} {d : D} {ds acc : List D} {Q : List D → List Slot → Prop} {e : Dm2 Q W} :
    runD (compM bnd tst elt vs (d :: ds) acc) ρ Q W e = run (bnd d) ρ (fun _ ρ1 => run tst ρ1 (fun k ρ2 => onB k (run elt ρ2 (fun y ρ3 => okSz acc ∧ run (compM bnd tst elt vs ds (acc ++ [y])) (wipeR ρ3 vs) Q W) NoW) (run (compM bnd tst elt vs ds acc) (wipeR ρ2 vs) Q W)) NoW) NoW := cl_cons
/-- I: the items so far, what has been made of them -/
theorem run_compI {bnd : D → M Unit} {tst : M Bool} {elt : M D} {vs : List Nat} {xs : List α} {f : α → D} {Q : List D → List Slot → Prop} (I : List α → List D → List Slot → Prop) (h0 : I [] [] ρ)
    (step : ∀ pre x post acc ρ, xs = pre ++ x :: post → I pre acc ρ → run (bnd (f x)) ρ (fun _ ρ1 => run tst ρ1 (fun k ρ2 => onB k (run elt ρ2 (fun d ρ3 => I (pre ++ [x]) (acc ++ [d]) (wipeR ρ3 vs)) NoW) (I (pre ++ [x]) acc (wipeR ρ2 vs))) NoW) NoW)
    (fin : ∀ acc ρ, I xs acc ρ → Q acc ρ) (hz : xs.length ≤ 1000000) : run (compM bnd tst elt vs (xs.map f) []) ρ Q NoW := by
  suffices h : ∀ (post pre : List α) (acc : List D) (ρ : List Slot), xs = pre ++ post → acc.length ≤ pre.length → I pre acc ρ → run (compM bnd tst elt vs (post.map f) acc) ρ Q NoW from h xs [] [] ρ rfl (Nat.le_refl _) h0
  intro post
  induction post with
  | nil =>
    intro pre acc ρ e _ i
    rw [List.append_nil] at e
    subst e
    exact fin acc ρ i
  | cons x post ih =>
    intro pre acc ρ e hl i
    have hlen : xs.length = pre.length + (post.length + 1) := by rw [e]; simp
    show run ((noX (bnd (f x))).bind fun _ => (noX tst).bind fun k => _) ρ Q NoW
    rw [run_bind, run_noX]
    refine run_mono (step pre x post acc ρ e i) (fun _ ρ1 h => ?_) fun _ _ z => z
    rw [run_bind, run_noX]
    refine run_mono h (fun k ρ2 h => ?_) fun _ _ z => z
    cases k with
    | false =>
      rw [onB_false] at h
      exact ih (pre ++ [x]) acc _ (by rw [e]; simp) (by simp; omega) h
    | true =>
      rw [onB_true] at h
      show run ((noX elt).bind fun y => _) ρ2 Q NoW
      rw [run_bind, run_noX]
      refine run_mono h (fun d ρ3 h => ?_) fun _ _ z => z
      have ok : okSz acc := show acc.length ≤ 1000000 by omega
      rw [if_pos ok]
      exact ih (pre ++ [x]) (acc ++ [d]) _ (by rw [e]; simp) (by simp; omega) h
/-- a comprehension without changes -/
theorem run_compM {bnd : D → M Unit} {tst : M Bool} {elt : M D} {vs : List Nat} {xs : List α} {f : α → D} {Q : List D → List Slot → Prop} (t : α → Bool) (g : α → D)
    (h : ∀ x ∈ xs, run (bnd (f x)) ρ (fun _ ρ1 => run tst ρ1 (fun k ρ2 => k = t x ∧ onB (t x) (run elt ρ2 (fun d ρ3 => d = g x ∧ wipeR ρ3 vs = ρ) NoW) (wipeR ρ2 vs = ρ)) NoW) NoW)
    (q : Q ((xs.filter t).map g) ρ) (hz : xs.length ≤ 1000000) : run (compM bnd tst elt vs (xs.map f) []) ρ Q NoW := by
  refine run_compI (fun pre acc ρ' => ρ' = ρ ∧ acc = (pre.filter t).map g) ⟨rfl, rfl⟩ (fun pre x post acc ρ' e i => ?_) (fun acc ρ' i => ?_) hz
  · obtain ⟨rfl, rfl⟩ := i
    have hx : x ∈ xs := by rw [e]; simp
    refine run_mono (h x hx) (fun _ ρ1 h => ?_) fun _ _ z => z
    refine run_mono h (fun k ρ2 h => ?_) fun _ _ z => z
    obtain ⟨rfl, h⟩ := h
    rw [List.filter_append, List.map_append]
    cases ht : t x with
    | false =>
      rw [ht, onB_false] at h
      rw [onB_false]
      exact ⟨h, by simp [ht]⟩
    | true =>
      rw [ht, onB_true] at h
      rw [onB_true]
      refine run_mono h (fun d ρ3 h => ?_) fun _ _ z => z
      obtain ⟨rfl, h⟩ := h
      exact ⟨h, by simp [ht]⟩
  · obtain ⟨rfl, rfl⟩ := i
    exact q
/-- .. and without a test -/
theorem run_compT {bnd : D → M Unit} {elt : M D} {vs : List Nat} {xs : List α} {f : α → D} {Q : List D → List Slot → Prop} (g : α → D)
    (h : ∀ x ∈ xs, run (bnd (f x)) ρ (fun _ ρ1 => run elt ρ1 (fun d ρ3 => d = g x ∧ wipeR ρ3 vs = ρ) NoW) NoW)
    (q : Q (xs.map g) ρ) (hz : xs.length ≤ 1000000) : run (compM bnd (M.pure true) elt vs (xs.map f) []) ρ Q NoW := by
  refine run_compM (fun _ => true) g (fun x hx => ?_) (by rw [List.filter_eq_self.mpr fun _ _ => rfl]; exact q) hz
  refine run_mono (h x hx) (fun _ ρ1 h => ?_) fun _ _ z => z
  rw [run_pure, onB_true]
  exact ⟨rfl, h⟩
theorem run_dcompI {bnd : D → M Unit} {km em : M D} {vs : List Nat} {xs : List α} {f : α → D} {Q : List (Key × D) → List Slot → Prop} (I : List α → List (Key × D) → List Slot → Prop) (h0 : I [] [] ρ)
    (step : ∀ pre x post acc ρ, xs = pre ++ x :: post → I pre acc ρ → acc.length ≤ 1000000 ∧ run (bnd (f x)) ρ (fun _ ρ1 => run km ρ1 (fun y ρ2 => run em ρ2 (fun z ρ3 => onS (keyD y) fun kk => I (pre ++ [x]) (putD acc kk z) (wipeR ρ3 vs)) NoW) NoW) NoW)
    (fin : ∀ acc ρ, I xs acc ρ → Q acc ρ) : run (dcompM bnd (M.pure true) km em vs (xs.map f) []) ρ Q NoW := by
  suffices h : ∀ (post pre : List α) (acc : List (Key × D)) (ρ : List Slot), xs = pre ++ post → I pre acc ρ → run (dcompM bnd (M.pure true) km em vs (post.map f) acc) ρ Q NoW from h xs [] [] ρ rfl h0
  intro post
  induction post with
  | nil =>
    intro pre acc ρ e i
    rw [List.append_nil] at e
    subst e
    exact fin acc ρ i
  | cons x post ih =>
    intro pre acc ρ e i
    obtain ⟨hz, h⟩ := step pre x post acc ρ e i
    show run ((noX (bnd (f x))).bind fun _ => (noX (M.pure true)).bind fun k => _) ρ Q NoW
    rw [run_bind, run_noX]
    refine run_mono h (fun _ ρ1 h => ?_) fun _ _ z => z
    rw [run_bind, run_noX, run_pure, if_pos rfl, run_bind, run_noX]
    refine run_mono h (fun y ρ2 h => ?_) fun _ _ z => z
    rw [run_bind, run_noX]
    refine run_mono h (fun z ρ3 h => ?_) fun _ _ z => z
    cases hk : keyD y with
    | none => rw [hk] at h; exact h.elim
    | some kk =>
      rw [hk, onS_some] at h
      show run (if acc.length ≤ 1000000 then _ else _) ρ3 Q NoW
      rw [if_pos hz]
      exact ih (pre ++ [x]) _ _ (by rw [e]; simp) h
/-! ### dict walks -/
theorem run_forD {w : Wk} {f : List Slot → Option D} {bnd : D → M Unit} {body : M Fl} {Q : Fl → List Slot → Prop} : run (mForD w f bnd body) ρ Q W = onS ((f ρ).bind (wkD w)) (fun ds => run (forM bnd body ds) ρ Q NoW) := by
  unfold run mForD
  cases (f ρ).bind (wkD w) with
  | none => rfl
  | some ds => exact run_noX
/-! ### own objects -/
def onO (o : Option Slot) (c : Str) (k : List (Str × Fv) → Prop) : Prop := match o with | some (.obj c' fs) => c' = c ∧ k fs | _ => False
theorem onO_obj {c : Str} {fs : List (Str × Fv)} {k : List (Str × Fv) → Prop} : onO (some (.obj c fs)) c k = k fs := by simp [onO]
theorem run_fldI {i : Nat} {c : Str} {at_ : List Str} {f : Str} {m : M Slot} {Q : Fl → List Slot → Prop} :
    run (mFldI i c at_ f m) ρ Q W = run m ρ (fun s ρ1 => onO ρ1[i]? c fun fs => onS (fvS s) fun cv => (f ∈ at_ ∧ fs.lookup f = none ∧ fs.length < 1000) ∧ Q .nx (ρ1.set i (.obj c (fs ++ [(f, cv)])))) W := by
  unfold mFldI
  rw [run_bind]
  congr 1
  funext s ρ1
  unfold run onO
  dsimp only
  cases ρ1[i]? with
  | none => rfl
  | some o =>
    cases o with
    | obj c' fs =>
      cases fvS s with
      | none => simp [onS, Res.post]
      | some cv =>
        show Res.post (if c' = c ∧ _ then _ else _) Q W = (c' = c ∧ _)
        rw [onS_some]
        split
        · rename_i h; simp [h, Res.post]
        · rename_i h
          simp only [Res.post]
          refine (propext ⟨fun z => z.elim, fun z => h ⟨z.1, z.2.1⟩⟩)
    | _ => rfl
theorem run_putF {i : Nat} {c : Str} {at_ : List Str} {f : Str} {mv : M D} {fk : List Slot → Option D} {Q : Fl → List Slot → Prop} :
    run (mPutF i c at_ f mv fk) ρ Q W = run mv ρ (fun v ρ1 => onS (fk ρ1) fun k => f ∈ at_ ∧ onO ρ1[i]? c fun fs => onS (keyD k) fun kk => onS (dctF fs f) fun kvs => kvs.length ≤ 1000000 ∧ Q .nx (ρ1.set i (.obj c (setF f (.dct (putD kvs kk v)) fs)))) W := by
  unfold mPutF
  rw [run_bind]
  congr 1
  funext v ρ1
  unfold run
  dsimp only
  cases fk ρ1 with
  | none => rfl
  | some k =>
    rw [onS_some]
    show Res.post (if f ∈ at_ then _ else _) Q W = _
    split
    · rename_i h
      simp only [h, true_and]
      unfold mStoreF onO M.bind
      dsimp only
      cases ρ1[i]? with
      | none => rfl
      | some o =>
        cases o with
        | obj c' fs =>
          cases keyD k with
          | none => simp [onS, Res.bind, Res.post]
          | some kk =>
            simp only [onS_some]
            cases hd : dctF fs f with
            | none => simp [onS, Res.bind, Res.post]
            | some kvs =>
              simp only [onS_some]
              by_cases h : c' = c ∧ kvs.length ≤ 1000000
              · rw [if_pos h]; simp only [h.1, h.2, true_and]; rfl
              · rw [if_neg h]; exact propext ⟨fun z => z.elim, fun z => h ⟨z.1, z.2.1⟩⟩
        | _ => rfl
    · rename_i h
      exact propext ⟨fun z => z.elim, fun z => h z.1⟩
/-! ### calls with one own object -/
def onN (o : Option Slot) (k : Slot → Prop) : Prop := match o with | some s => plainS s = false ∧ k s | none => False
theorem onN_lst {d : List D} {k : Slot → Prop} : onN (some (.lst d)) k = k (.lst d) := by simp [onN, plainS]
theorem onN_dct {d : List (Key × D)} {k : Slot → Prop} : onN (some (.dct d)) k = k (.dct d) := by simp [onN, plainS]
theorem onN_pot {gs : List Int} {a b c : Int} {k : Slot → Prop} : onN (some (.pot gs a b c)) k = k (.pot gs a b c) := by simp [onN, plainS]
theorem onN_obj {c : Str} {fs : List (Str × Fv)} {k : Slot → Prop} : onN (some (.obj c fs)) k = k (.obj c fs) := by simp [onN, plainS]
theorem srcA_o {as bs : List D} {i k : Nat} : srcA (as.map Ag.v ++ Ag.o i :: bs.map Ag.v) k = if k = as.length then some i else none := by
  unfold srcA
  by_cases h : k < as.length
  · rw [List.getElem?_append_left (by simpa using h), List.getElem?_map, List.getElem?_eq_getElem h, if_neg (by omega)]
    rfl
  · rw [List.getElem?_append_right (by simpa using h)]
    by_cases e : k = as.length
    · subst e
      simp
    · rw [if_neg e]
      obtain ⟨j, hj⟩ : ∃ j, k - (as.map Ag.v).length = j + 1 := ⟨k - as.length - 1, by simp; omega⟩
      rw [hj, List.getElem?_cons_succ, List.getElem?_map]
      cases bs[j]? <;> rfl
theorem okA_o {as bs : List D} {i : Nat} {s : Slot} (h : ρ[i]? = some s) (hp : plainS s = false) : okA ρ (as.map Ag.v ++ Ag.o i :: bs.map Ag.v) = true := by
  unfold okA
  rw [Bool.and_eq_true]
  refine ⟨List.all_eq_true.mpr fun a ha => ?_, List.all_eq_true.mpr fun a ha => List.all_eq_true.mpr fun b hb => ?_⟩
  · rcases List.mem_append.mp ha with ha | ha
    · obtain ⟨d, _, rfl⟩ := List.mem_map.mp ha; rfl
    · rcases List.mem_cons.mp ha with rfl | ha
      · simp [h, hp]
      · obtain ⟨d, _, rfl⟩ := List.mem_map.mp ha; rfl
  · rw [srcA_o, srcA_o]
    by_cases e1 : a = as.length <;> by_cases e2 : b = as.length <;> simp [e1, e2]
theorem putB_o {as bs : List D} {i : Nat} {as' : List Slot} : putB ρ (as.map Ag.v ++ Ag.o i :: bs.map Ag.v) as' = ρ.set i ((as'[as.length]?).getD .non) := by
  unfold putB
  apply List.ext_getElem?
  intro j
  rw [List.getElem?_map]
  by_cases h : j < ρ.length
  · rw [List.getElem?_eq_getElem (by simpa using h), List.getElem_range, Option.map_some]
    by_cases e : i = j
    · subst e
      rw [List.getElem?_set_self h]
      have hf : (List.range (as.map Ag.v ++ Ag.o i :: bs.map Ag.v).length).find? (fun k => decide (srcA (as.map Ag.v ++ Ag.o i :: bs.map Ag.v) k = some i)) = some as.length := by
        rw [List.find?_eq_some_iff_append]
        refine ⟨by simp [srcA_o], List.range as.length, (List.range (bs.length)).map fun k => as.length + 1 + k, ?_, fun k hk => ?_⟩
        · have : (as.map Ag.v ++ Ag.o i :: bs.map Ag.v).length = as.length + (1 + bs.length) := by simp; omega
          rw [this, List.range_add, List.range_add]
          simp [List.map_append, Nat.add_assoc]
        · rw [srcA_o, if_neg (by have := List.mem_range.mp hk; omega)]; simp
      rw [hf]
    · rw [List.getElem?_set_ne e]
      have hf : (List.range (as.map Ag.v ++ Ag.o i :: bs.map Ag.v).length).find? (fun k => decide (srcA (as.map Ag.v ++ Ag.o i :: bs.map Ag.v) k = some j)) = none := by
        rw [List.find?_eq_none]
        intro k _
        rw [srcA_o]
        by_cases e1 : k = as.length <;> simp [e1, e]
      rw [hf, List.getElem?_eq_getElem h]
      rfl
  · rw [List.getElem?_eq_none (by simpa using h), List.getElem?_eq_none (by simpa using h)]
    rfl
theorem callP_o {n : Nat} {F : Fn} {as bs : List D} {i : Nat} {Q : Slot → List Slot → Prop} (hl : as.length + (bs.length + 1) = n) :
    callP n F (as.map Ag.v ++ Ag.o i :: bs.map Ag.v) ρ Q W = onN ρ[i]? (fun s => onR (F (as.map .imm ++ s :: bs.map .imm)) (fun r as' => Q r (ρ.set i ((as'[as.length]?).getD .non))) (fun c as' => W c (ρ.set i ((as'[as.length]?).getD .non)))) := by
  unfold callP callR
  cases h : ρ[i]? with
  | none =>
    have : okA ρ (as.map Ag.v ++ Ag.o i :: bs.map Ag.v) = false := by
      unfold okA
      rw [Bool.and_eq_false_iff]
      left
      rw [List.all_eq_false]
      exact ⟨.o i, by simp, by simp [h]⟩
    rw [this]
    simp [onN, Res.post]
  | some s =>
    cases hp : plainS s with
    | true =>
      have : okA ρ (as.map Ag.v ++ Ag.o i :: bs.map Ag.v) = false := by
        unfold okA
        rw [Bool.and_eq_false_iff]
        left
        rw [List.all_eq_false]
        exact ⟨.o i, by simp, by simp [h, hp]⟩
      rw [this]
      simp [onN, hp, Res.post]
    | false =>
      rw [if_pos ⟨okA_o h hp, by simp; omega⟩]
      have e : (as.map Ag.v ++ Ag.o i :: bs.map Ag.v).map (slotA ρ) = as.map .imm ++ s :: bs.map .imm := by
        rw [List.map_append, List.map_cons, List.map_map, List.map_map]
        congr 1
        congr 1
        simp [slotA, h]
      rw [e]
      simp only [onN, hp, true_and]
      unfold onR
      cases F (as.map .imm ++ s :: bs.map .imm) <;> simp only [putB_o, Res.post]
theorem callP_o0 {F : Fn} {i : Nat} {Q : Slot → List Slot → Prop} : callP 1 F [.o i] ρ Q W = onN ρ[i]? (fun s => onR (F [s]) (fun r as' => Q r (ρ.set i ((as'[0]?).getD .non))) (fun c as' => W c (ρ.set i ((as'[0]?).getD .non)))) := callP_o (as := []) (bs := []) rfl
theorem callP_o1 {F : Fn} {i : Nat} {a : D} {Q : Slot → List Slot → Prop} : callP 2 F [.o i, .v a] ρ Q W = onN ρ[i]? (fun s => onR (F [s, .imm a]) (fun r as' => Q r (ρ.set i ((as'[0]?).getD .non))) (fun c as' => W c (ρ.set i ((as'[0]?).getD .non)))) := callP_o (as := []) (bs := [a]) rfl
theorem callP_o2 {F : Fn} {i : Nat} {a b : D} {Q : Slot → List Slot → Prop} : callP 3 F [.o i, .v a, .v b] ρ Q W = onN ρ[i]? (fun s => onR (F [s, .imm a, .imm b]) (fun r as' => Q r (ρ.set i ((as'[0]?).getD .non))) (fun c as' => W c (ρ.set i ((as'[0]?).getD .non)))) := callP_o (as := []) (bs := [a, b]) rfl
theorem callP_o3 {F : Fn} {i : Nat} {a b c : D} {Q : Slot → List Slot → Prop} : callP 4 F [.o i, .v a, .v b, .v c] ρ Q W = onN ρ[i]? (fun s => onR (F [s, .imm a, .imm b, .imm c]) (fun r as' => Q r (ρ.set i ((as'[0]?).getD .non))) (fun c as' => W c (ρ.set i ((as'[0]?).getD .non)))) := callP_o (as := []) (bs := [a, b, c]) rfl
theorem callP_1o {F : Fn} {i : Nat} {a : D} {Q : Slot → List Slot → Prop} : callP 2 F [.v a, .o i] ρ Q W = onN ρ[i]? (fun s => onR (F [.imm a, s]) (fun r as' => Q r (ρ.set i ((as'[1]?).getD .non))) (fun c as' => W c (ρ.set i ((as'[1]?).getD .non)))) := callP_o (as := [a]) (bs := []) rfl
theorem callP_3o {F : Fn} {i : Nat} {a b c : D} {Q : Slot → List Slot → Prop} : callP 4 F [.v a, .v b, .v c, .o i] ρ Q W = onN ρ[i]? (fun s => onR (F [.imm a, .imm b, .imm c, s]) (fun r as' => Q r (ρ.set i ((as'[3]?).getD .non))) (fun c as' => W c (ρ.set i ((as'[3]?).getD .non)))) := callP_o (as := [a, b, c]) (bs := []) rfl
theorem run_self {i : Nat} {c m : Str} {n : Nat} {F : Fn} {ms : M (List Ag)} {Q : Slot → List Slot → Prop} : run (mSelf i c m n F ms) ρ Q W = onO ρ[i]? c (fun fs => fs.lookup m = none ∧ run ms ρ (fun as ρ1 => callP n F (.o i :: as) ρ1 Q W) W) := by
  have e : ∀ P : Prop, run (ms.bind fun as => callR n F (.o i :: as)) ρ Q W = run ms ρ (fun as ρ1 => callP n F (.o i :: as) ρ1 Q W) W := fun _ => by rw [run_bind]; rfl
  unfold run mSelf onO
  cases ρ[i]? with
  | none => rfl
  | some o =>
    cases o with
    | obj c' fs =>
      show Res.post (if c' = c ∧ _ then _ else _) Q W = _
      split
      · rename_i h
        simp only [h.1, h.2, true_and]
        exact e True
      · rename_i h
        exact propext ⟨fun z => z.elim, fun z => h ⟨z.1, z.2.1⟩⟩
    | _ => rfl
theorem run_make {c : Str} {n : Nat} {F : Fn} {ms : M (List Ag)} {Q : Slot → List Slot → Prop} (h : run ms ρ (fun as ρ1 => callP n F (.o 0 :: as.map shA) (.obj c [] :: ρ1) (fun r ρ2 => ∃ s0 ρ', r = .imm .non ∧ ρ2 = s0 :: ρ' ∧ Q s0 ρ') (fun e ρ2 => ∃ s0 ρ', ρ2 = s0 :: ρ' ∧ W e ρ')) W) : run (mMake c n F ms) ρ Q W := by
  unfold mMake
  rw [run_bind]
  refine run_mono h (fun as ρ1 h => ?_) fun _ _ z => z
  unfold callP at h
  show Res.post (match callR n F (.o 0 :: as.map shA) (.obj c [] :: ρ1) with | .ok (.imm .non) (s0 :: ρ') => _ | .exc e (_ :: ρ') => _ | _ => _) Q W
  cases hr : callR n F (.o 0 :: as.map shA) (.obj c [] :: ρ1) with
  | bad => rw [hr] at h; exact h
  | ok r ρ2 =>
    rw [hr] at h
    obtain ⟨s0, ρ', rfl, rfl, q⟩ := h
    exact q
  | exc e ρ2 =>
    rw [hr] at h
    obtain ⟨s0, ρ', rfl, q⟩ := h
    exact q
theorem run_tryAs {i : Nat} {tab : List (Str × Bool)} {mb ms : M Fl} {Q : Fl → List Slot → Prop} (h : run mb ρ Q (fun e ρ1 => match tab.lookup e.cls with
    | some false => W e ρ1
    | none => False
    | some true => noExn (ρ1.set i .non) = true ∧ i < ρ1.length ∧ run ms (ρ1.set i (.exn e)) (fun fl ρ2 => okFl fl = true ∧ noExn (ρ2.set i .non) = true ∧ Q fl (ρ2.set i .non)) NoW)) : run (mTryAs i tab mb ms) ρ Q W := by
  unfold run mTryAs at *
  cases hm : mb ρ with
  | bad => rw [hm] at h; exact h
  | ok fl ρ1 => rw [hm] at h; exact h
  | exc e ρ1 =>
    rw [hm] at h
    simp only [Res.post] at h
    show Res.post (match tab.lookup e.cls with | some false => _ | none => _ | some true => _) Q W
    cases ht : tab.lookup e.cls with
    | none => rw [ht] at h; exact h.elim
    | some b =>
      rw [ht] at h
      cases b with
      | false => exact h
      | true =>
        obtain ⟨h1, h2, h3⟩ := h
        show Res.post (if _ then _ else _) Q W
        rw [if_pos ⟨h1, h2⟩]
        cases hs : ms (ρ1.set i (.exn e)) with
        | bad => rw [hs] at h3; exact h3.elim
        | exc _ _ => rw [hs] at h3; exact h3.elim
        | ok fl ρ2 =>
          rw [hs] at h3
          obtain ⟨q1, q2, q3⟩ := h3
          show Res.post (if _ then _ else _) Q W
          rw [if_pos ⟨q1, q2⟩]
          exact q3
/-! ### held forms -/
def runU {α : Type} (m : M α) (ρ : List Slot) (Q : α → List Slot → Prop) (W : Exn → List Slot → Prop) : Prop := run m ρ Q W
def runUD {α : Type} (m : M α) (ρ : List Slot) (Q : α → List Slot → Prop) (W : Exn → List Slot → Prop) (_ : Dm2 Q W) : Prop := run m ρ Q W
theorem runU_stop {m : M α} {Q : α → List Slot → Prop} : runU m ρ Q W = runUD m ρ Q W ⟨⟩ := propext Iff.rfl
theorem runUD_bind {m : M β} {f : β → M α} {Q : α → List Slot → Prop} {d : Dm2 Q W} : runUD (m.bind f) ρ Q W d = run (m.bind f) ρ Q W := propext Iff.rfl
theorem runUD_pure {a : α} {Q : α → List Slot → Prop} {d : Dm2 Q W} : runUD (M.pure a) ρ Q W d = Q a ρ := propext Iff.rfl
theorem ru_tup {n : Nat} {ms : List D → M Unit} {ds : List D} {Q : Unit → List Slot → Prop} : run (gTupM n ms (.tup ds)) ρ Q W = (ds.length = n ∧ runU (ms ds) ρ Q W) := by
  rw [run_tup]
  by_cases h : ds.length = n
  · simp only [h, if_true, true_and]; rfl
  · simp [h]
def onLpD (fl : Fl) (A B C : Prop) (_ : Dm2 A B) (_ : Dm C) : Prop := onLp fl A B C
def onOD (o : Option Slot) (c : Str) (k : List (Str × Fv) → Prop) (_ : Dm k) : Prop := onO o c k
def onND (o : Option Slot) (k : Slot → Prop) (_ : Dm k) : Prop := onN o k
theorem onO_stop {o : Option Slot} {c : Str} {k : List (Str × Fv) → Prop} : onO o c k = onOD o c k ⟨⟩ := propext Iff.rfl
theorem onOD_obj {c : Str} {fs : List (Str × Fv)} {k : List (Str × Fv) → Prop} {d : Dm k} : onOD (some (.obj c fs)) c k d = k fs := onO_obj
theorem onN_stop {o : Option Slot} {k : Slot → Prop} : onN o k = onND o k ⟨⟩ := propext Iff.rfl
theorem onND_lst {x : List D} {k : Slot → Prop} {d : Dm k} : onND (some (.lst x)) k d = k (.lst x) := onN_lst
theorem onND_dct {x : List (Key × D)} {k : Slot → Prop} {d : Dm k} : onND (some (.dct x)) k d = k (.dct x) := onN_dct
theorem onND_pot {gs : List Int} {a b c : Int} {k : Slot → Prop} {d : Dm k} : onND (some (.pot gs a b c)) k d = k (.pot gs a b c) := onN_pot
theorem onND_obj {c : Str} {fs : List (Str × Fv)} {k : Slot → Prop} {d : Dm k} : onND (some (.obj c fs)) k d = k (.obj c fs) := onN_obj
theorem ks_nil {ρ : List Slot} : keepS [] ρ = [] := rfl
theorem ks_non {s : Slot} {as ρ : List Slot} : keepS (.non :: as) (s :: ρ) = .non :: keepS as ρ := rfl
theorem ks_imm {d : D} {s : Slot} {as ρ : List Slot} : keepS (.imm d :: as) (s :: ρ) = .non :: keepS as ρ := rfl
theorem ks_lst {d : List D} {s : Slot} {as ρ : List Slot} : keepS (.lst d :: as) (s :: ρ) = s :: keepS as ρ := rfl
theorem ks_dct {d : List (Key × D)} {s : Slot} {as ρ : List Slot} : keepS (.dct d :: as) (s :: ρ) = s :: keepS as ρ := rfl
theorem ks_pot {gs : List Int} {a b c : Int} {s : Slot} {as ρ : List Slot} : keepS (.pot gs a b c :: as) (s :: ρ) = s :: keepS as ρ := rfl
theorem ks_obj {c : Str} {fs : List (Str × Fv)} {s : Slot} {as ρ : List Slot} : keepS (.obj c fs :: as) (s :: ρ) = s :: keepS as ρ := rfl
/-! ### defs -/
def retP (fl : Fl) (k : Slot → Prop) : Prop := match fl with | .rt r => k r | .nx => k (.imm .non) | _ => False
theorem retP_rt {r : Slot} {k : Slot → Prop} : retP (.rt r) k = k r := propext Iff.rfl
theorem retP_nx {k : Slot → Prop} : retP .nx k = k (.imm .non) := propext Iff.rfl
theorem onR_def {n m : Nat} {P : List Nat} {mb : M Fl} {as : List Slot} {Q : Slot → List Slot → Prop} (hl : as.length = n) (ho : ownIn P as = true) (h : run mb (as ++ List.replicate m .non) (fun fl ρ => retP fl fun r => Q r (keepS as ρ)) (fun c ρ => W c (keepS as ρ))) : onR (runDef n m P mb as) Q W := by
  unfold onR runDef
  rw [if_pos ⟨hl, ho⟩]
  unfold run at h
  cases hm : mb (as ++ List.replicate m .non) with
  | bad => rw [hm] at h; exact h
  | exc c ρ => rw [hm] at h; exact h
  | ok fl ρ => rw [hm] at h; cases fl <;> exact h
theorem fn_v {n m : Nat} {P : List Nat} {mb : M Fl} {ds : List D} {r : Slot} (hl : ds.length = n) (h : run mb (ds.map .imm ++ List.replicate m .non) (fun fl _ => retP fl fun r' => r' = r) NoW) : runDef n m P mb (ds.map .imm) = .ok r (ds.map fun _ => .non) := by
  rw [run_imm hl]
  unfold run at h
  cases hm : mb (ds.map .imm ++ List.replicate m .non) with
  | bad => rw [hm] at h; exact h.elim
  | exc c ρ => rw [hm] at h; exact h.elim
  | ok fl ρ =>
    rw [hm] at h
    cases fl with
    | rt r' => cases (show r' = r from h); rfl
    | nx => cases (show _ = r from h); rfl
    | _ => exact h.elim
theorem fn_x {n m : Nat} {P : List Nat} {mb : M Fl} {ds : List D} {e : Exn} (hl : ds.length = n) (h : run mb (ds.map .imm ++ List.replicate m .non) (fun _ _ => False) (fun c _ => c = e)) : runDef n m P mb (ds.map .imm) = .exc e (ds.map fun _ => .non) := by
  rw [run_imm hl]
  unfold run at h
  cases hm : mb (ds.map .imm ++ List.replicate m .non) with
  | bad => rw [hm] at h; exact h.elim
  | exc c ρ => rw [hm] at h; cases (show c = e from h); rfl
  | ok fl ρ => rw [hm] at h; exact h.elim
/-- a data call that ends well, its value told by k -/
theorem onR_defv {n m : Nat} {P : List Nat} {mb : M Fl} {ds : List D} {Q : Slot → List Slot → Prop} (hl : ds.length = n) (h : run mb (ds.map .imm ++ List.replicate m .non) (fun fl _ => retP fl fun r => Q r (ds.map fun _ => .non)) (fun c _ => W c (ds.map fun _ => .non))) : onR (runDef n m P mb (ds.map .imm)) Q W := by
  refine onR_def (by simpa using hl) (ownIn_imm ds) ?_
  refine run_mono h (fun fl ρ h => ?_) fun c ρ h => ?_
  · rw [keepS_imm]; exact h
  · rw [keepS_imm]; exact h
end
end EE
end

section
set_option Elab.async false
set_option linter.all false
set_option maxRecDepth 100000
set_option maxHeartbeats 4000000
/-! E33: what the functions on data answer (printed by genw2.py) -/
namespace EE
open PySem L2
theorem cast0 : ((0 : Nat) : Int) = 0 := rfl
theorem cast1 : ((1 : Nat) : Int) = 1 := rfl
theorem isBl_bl {k : Bool} : isBl (.bl k) = some k := rfl
theorem frzD_imm {d : D} : frzD (.imm d) = some d := rfl
theorem frzD_lst {d : List D} : frzD (.lst d) = some (.lst d) := rfl
theorem frzD_dct {d : List (Key × D)} : frzD (.dct d) = some (.dct d) := rfl
theorem frzS_imm {d : D} : frzS (.imm d) = .imm d := rfl
theorem frzS_lst {d : List D} : frzS (.lst d) = .imm (.lst d) := rfl
theorem frzS_dct {d : List (Key × D)} : frzS (.dct d) = .imm (.dct d) := rfl
theorem frzO_obj {c : Str} {fs : List (Str × Fv)} : frzO (.obj c fs) = some (.ins c (fs.map fun p => (p.1, frzV p.2))) := rfl
theorem frzO_imm {d : D} : frzO (.imm d) = some d := rfl
theorem fvS_imm {d : D} : fvS (.imm d) = some (.imm d) := rfl
theorem fvS_lst {d : List D} : fvS (.lst d) = some (.lst d) := rfl
theorem fvS_dct {d : List (Key × D)} : fvS (.dct d) = some (.dct d) := rfl
theorem pkD_imm {d : D} : pkD (.imm d) = some d := rfl
theorem pkD_lst {d : List D} : pkD (.lst d) = some (.lst d) := rfl
theorem pkD_dct {d : List (Key × D)} : pkD (.dct d) = some (.dct d) := rfl
theorem bind_some' {α β : Type} {a : α} {f : α → Option β} : (some a).bind f = f a := rfl
theorem itD_lst {d : List D} : itD (.lst d) = some d := rfl
theorem itD_tup {d : List D} : itD (.tup d) = some d := rfl
theorem itD_str {s : Str} : itD (.str s) = some (strsOf s) := rfl
theorem enD_lst {d : List D} : enD (.lst d) = some (enL d) := rfl
theorem enD_tup {d : List D} : enD (.tup d) = some (enL d) := rfl
theorem revD_lst {d : List D} : revD (.lst d) = some d.reverse := rfl
theorem starD_tup {d : List D} : starD (.tup d) = some d := rfl
theorem starD_lst {d : List D} : starD (.lst d) = some d := rfl
theorem seqD_tup {d : List D} : seqD (.tup d) = some d := rfl
theorem seqD_lst {d : List D} : seqD (.lst d) = some d := rfl
theorem keyD_str {s : Str} : keyD (.str s) = some (.inr s) := rfl
theorem keyD_int {s : Int} : keyD (.int s) = some (.inl s) := rfl
theorem wkD_keys {d : List (Key × D)} : wkD .keys (.dct d) = some (d.map fun p => keyV p.1) := rfl
theorem wkD_vals {d : List (Key × D)} : wkD .vals (.dct d) = some (d.map (·.2)) := rfl
theorem wkD_items {d : List (Key × D)} : wkD .items (.dct d) = some (d.map fun p => .tup [keyV p.1, p.2]) := rfl
theorem fTupOf_lst {d : List D} : fTupOf [.lst d] = some (.tup d) := rfl
theorem fTupOf_tup {d : List D} : fTupOf [.tup d] = some (.tup d) := rfl
theorem fDctOf_dct {d : List (Key × D)} : fDctOf [.dct d] = some (.dct d) := rfl
theorem fListAll_lst {d : List D} : fListAll [.lst d] = some (.lst d) := rfl
theorem fListAll_tup {d : List D} : fListAll [.tup d] = some (.lst d) := rfl
theorem fLen_tup {d : List D} : fLen [.tup d] = some (.int d.length) := rfl
theorem fLen_lst {d : List D} : fLen [.lst d] = some (.int d.length) := rfl
theorem fLen_dct {d : List (Key × D)} : fLen [.dct d] = some (.int d.length) := rfl
theorem fLen_str {s : Str} (h : s.length ≤ 1000000) : fLen [.str s] = some (.int s.length) := by
  show ((if s.length ≤ 1000000 then some (D.int s.length) else none).or _) = _
  rw [if_pos h]
  rfl
theorem fAbs_int {i : Int} : fAbs [.int i] = some (.int (if i < 0 then -i else i)) := rfl
theorem fInt_int {i : Int} : fInt [.int i] = some (.int i) := rfl
theorem fLt_int {i j : Int} : fLt (.int i) (.int j) = some (.bl (decide (i < j))) := rfl
theorem fLe_int {i j : Int} : fLe (.int i) (.int j) = some (.bl (decide (i ≤ j))) := rfl
theorem fGt_int {i j : Int} : fGt (.int i) (.int j) = some (.bl (decide (j < i))) := rfl
theorem fGe_int {i j : Int} : fGe (.int i) (.int j) = some (.bl (decide (j ≤ i))) := rfl
theorem fSub_int {i j : Int} : fSub (.int i) (.int j) = some (.int (i - j)) := rfl
theorem fAdd_int {i j : Int} : fAdd (.int i) (.int j) = some (.int (i + j)) := rfl
theorem fAddN_int {i j : Int} : fAddN (.int i) (.int j) = some (.int (i + j)) := rfl
theorem fNeg_int {i : Int} : fNeg (.int i) = some (.int (-i)) := rfl
theorem fAdd_tup {a b : List D} (h : a.length + b.length ≤ 1000000) : fAdd (.tup a) (.tup b) = some (.tup (a ++ b)) := by
  show ((none : Option D).or (none.or (none.or (if a.length + b.length ≤ 1000000 then some (D.tup (a ++ b)) else none)))) = _
  rw [if_pos h]; rfl
theorem fAdd_lst {a b : List D} (h : a.length + b.length ≤ 1000000) : fAdd (.lst a) (.lst b) = some (.lst (a ++ b)) := by
  show ((none : Option D).or (none.or ((if a.length + b.length ≤ 1000000 then some (D.lst (a ++ b)) else none).or none))) = _
  rw [if_pos h]; rfl
theorem fAdd_str {a b : Str} (h : a.length + b.length ≤ 1000000) : fAdd (.str a) (.str b) = some (.str (a ++ b)) := by
  show ((none : Option D).or ((if a.length + b.length ≤ 1000000 then some (D.str (a ++ b)) else none).or (none.or none))) = _
  rw [if_pos h]; rfl
theorem fTup_ok {ds : List D} (h : ds.length ≤ 1000000) : fTup ds = some (.tup ds) := if_pos h
theorem fLst_ok {ds : List D} (h : ds.length ≤ 1000000) : fLst ds = some (.lst ds) := if_pos h
theorem okSz_of {ds : List D} (h : ds.length ≤ 1000000) : okSz ds = True := eq_true h
theorem fApp_ok {ds : List D} {d : D} (h : ds.length ≤ 1000000) : fApp ds [d] = some (.non, ds ++ [d]) := if_pos h
theorem fIns0_ok {ds : List D} {d : D} (h : ds.length ≤ 1000000) : fIns0 ds [.int 0, d] = some (.non, d :: ds) := if_pos h
theorem fExt_lst {ds es : List D} (h : ds.length + es.length ≤ 1000000) : fExt ds [.lst es] = some (.non, ds ++ es) := if_pos h
theorem fExt_tup {ds es : List D} (h : ds.length + es.length ≤ 1000000) : fExt ds [.tup es] = some (.non, ds ++ es) := if_pos h
theorem fPop0_ok {d : D} {ds : List D} : fPop0 (d :: ds) [.int 0] = some (d, ds) := rfl
theorem isN_non : fIsN .non .non = some (.bl true) := rfl
theorem notN_non : fNotN .non .non = some (.bl false) := rfl

theorem isN_bl {b : Bool} : fIsN (.bl b) .non = some (.bl false) := rfl
theorem notN_bl {b : Bool} : fNotN (.bl b) .non = some (.bl true) := rfl
theorem isN_int {i : Int} : fIsN (.int i) .non = some (.bl false) := rfl
theorem notN_int {i : Int} : fNotN (.int i) .non = some (.bl true) := rfl
theorem isN_str {s : Str} : fIsN (.str s) .non = some (.bl false) := rfl
theorem notN_str {s : Str} : fNotN (.str s) .non = some (.bl true) := rfl
theorem isN_tup {ds : List D} : fIsN (.tup ds) .non = some (.bl false) := rfl
theorem notN_tup {ds : List D} : fNotN (.tup ds) .non = some (.bl true) := rfl
theorem isN_lst {ds : List D} : fIsN (.lst ds) .non = some (.bl false) := rfl
theorem notN_lst {ds : List D} : fNotN (.lst ds) .non = some (.bl true) := rfl
theorem isN_dct {ds : List (Key × D)} : fIsN (.dct ds) .non = some (.bl false) := rfl
theorem notN_dct {ds : List (Key × D)} : fNotN (.dct ds) .non = some (.bl true) := rfl
theorem isN_ins {c : Str} {fs : List (Str × D)} : fIsN (.ins c fs) .non = some (.bl false) := rfl
theorem notN_ins {c : Str} {fs : List (Str × D)} : fNotN (.ins c fs) .non = some (.bl true) := rfl
theorem isi_int_non  {cs : List Str} : fIsi "int" cs .non = some (.bl false) := rfl
theorem isi_int_bl {b : Bool} {cs : List Str} : fIsi "int" cs (.bl b) = some (.bl true) := rfl
theorem isi_int_int {i : Int} {cs : List Str} : fIsi "int" cs (.int i) = some (.bl true) := rfl
theorem isi_int_str {s : Str} {cs : List Str} : fIsi "int" cs (.str s) = some (.bl false) := rfl
theorem isi_int_tup {ds : List D} {cs : List Str} : fIsi "int" cs (.tup ds) = some (.bl false) := rfl
theorem isi_int_lst {ds : List D} {cs : List Str} : fIsi "int" cs (.lst ds) = some (.bl false) := rfl
theorem isi_int_dct {ds : List (Key × D)} {cs : List Str} : fIsi "int" cs (.dct ds) = some (.bl false) := rfl
theorem isi_bool_non  {cs : List Str} : fIsi "bool" cs .non = some (.bl false) := rfl
theorem isi_bool_bl {b : Bool} {cs : List Str} : fIsi "bool" cs (.bl b) = some (.bl true) := rfl
theorem isi_bool_int {i : Int} {cs : List Str} : fIsi "bool" cs (.int i) = some (.bl false) := rfl
theorem isi_bool_str {s : Str} {cs : List Str} : fIsi "bool" cs (.str s) = some (.bl false) := rfl
theorem isi_bool_tup {ds : List D} {cs : List Str} : fIsi "bool" cs (.tup ds) = some (.bl false) := rfl
theorem isi_bool_lst {ds : List D} {cs : List Str} : fIsi "bool" cs (.lst ds) = some (.bl false) := rfl
theorem isi_bool_dct {ds : List (Key × D)} {cs : List Str} : fIsi "bool" cs (.dct ds) = some (.bl false) := rfl
theorem isi_str_non  {cs : List Str} : fIsi "str" cs .non = some (.bl false) := rfl
theorem isi_str_bl {b : Bool} {cs : List Str} : fIsi "str" cs (.bl b) = some (.bl false) := rfl
theorem isi_str_int {i : Int} {cs : List Str} : fIsi "str" cs (.int i) = some (.bl false) := rfl
theorem isi_str_str {s : Str} {cs : List Str} : fIsi "str" cs (.str s) = some (.bl true) := rfl
theorem isi_str_tup {ds : List D} {cs : List Str} : fIsi "str" cs (.tup ds) = some (.bl false) := rfl
theorem isi_str_lst {ds : List D} {cs : List Str} : fIsi "str" cs (.lst ds) = some (.bl false) := rfl
theorem isi_str_dct {ds : List (Key × D)} {cs : List Str} : fIsi "str" cs (.dct ds) = some (.bl false) := rfl
theorem isi_tuple_non  {cs : List Str} : fIsi "tuple" cs .non = some (.bl false) := rfl
theorem isi_tuple_bl {b : Bool} {cs : List Str} : fIsi "tuple" cs (.bl b) = some (.bl false) := rfl
theorem isi_tuple_int {i : Int} {cs : List Str} : fIsi "tuple" cs (.int i) = some (.bl false) := rfl
theorem isi_tuple_str {s : Str} {cs : List Str} : fIsi "tuple" cs (.str s) = some (.bl false) := rfl
theorem isi_tuple_tup {ds : List D} {cs : List Str} : fIsi "tuple" cs (.tup ds) = some (.bl true) := rfl
theorem isi_tuple_lst {ds : List D} {cs : List Str} : fIsi "tuple" cs (.lst ds) = some (.bl false) := rfl
theorem isi_tuple_dct {ds : List (Key × D)} {cs : List Str} : fIsi "tuple" cs (.dct ds) = some (.bl false) := rfl
theorem isi_list_non  {cs : List Str} : fIsi "list" cs .non = some (.bl false) := rfl
theorem isi_list_bl {b : Bool} {cs : List Str} : fIsi "list" cs (.bl b) = some (.bl false) := rfl
theorem isi_list_int {i : Int} {cs : List Str} : fIsi "list" cs (.int i) = some (.bl false) := rfl
theorem isi_list_str {s : Str} {cs : List Str} : fIsi "list" cs (.str s) = some (.bl false) := rfl
theorem isi_list_tup {ds : List D} {cs : List Str} : fIsi "list" cs (.tup ds) = some (.bl false) := rfl
theorem isi_list_lst {ds : List D} {cs : List Str} : fIsi "list" cs (.lst ds) = some (.bl true) := rfl
theorem isi_list_dct {ds : List (Key × D)} {cs : List Str} : fIsi "list" cs (.dct ds) = some (.bl false) := rfl
theorem isi_dict_non  {cs : List Str} : fIsi "dict" cs .non = some (.bl false) := rfl
theorem isi_dict_bl {b : Bool} {cs : List Str} : fIsi "dict" cs (.bl b) = some (.bl false) := rfl
theorem isi_dict_int {i : Int} {cs : List Str} : fIsi "dict" cs (.int i) = some (.bl false) := rfl
theorem isi_dict_str {s : Str} {cs : List Str} : fIsi "dict" cs (.str s) = some (.bl false) := rfl
theorem isi_dict_tup {ds : List D} {cs : List Str} : fIsi "dict" cs (.tup ds) = some (.bl false) := rfl
theorem isi_dict_lst {ds : List D} {cs : List Str} : fIsi "dict" cs (.lst ds) = some (.bl false) := rfl
theorem isi_dict_dct {ds : List (Key × D)} {cs : List Str} : fIsi "dict" cs (.dct ds) = some (.bl true) := rfl
theorem isi_ins {T : String} {cs : List Str} {c : Str} {fs : List (Str × D)} (h : c ∈ cs) : fIsi T cs (.ins c fs) = some (.bl false) := by show (if c ∈ cs then some (D.bl false) else none) = _; rw [if_pos h]
theorem fIx_tup {ds : List D} {i : Int} : fIx (.tup ds) (.int i) = atI ds i := by
  show (atI ds i).or _ = _
  cases atI ds i <;> rfl
theorem fIx_lst {ds : List D} {i : Int} : fIx (.lst ds) (.int i) = atI ds i := by
  show (none : Option D).or ((atI ds i).or _) = _
  cases atI ds i <;> rfl
theorem fIx_dctS {ds : List (Key × D)} {s : Str} : fIx (.dct ds) (.str s) = valD ds (.inr s) := by
  show (none : Option D).or (none.or (none.or (valD ds (.inr s)))) = _
  cases valD ds (.inr s) <;> rfl
theorem fIx_dctI {ds : List (Key × D)} {s : Int} : fIx (.dct ds) (.int s) = valD ds (.inl s) := by
  show (none : Option D).or (none.or (none.or (valD ds (.inl s)))) = _
  cases valD ds (.inl s) <;> rfl
theorem fIy_tup {ds : List D} {i : Int} : fIy (.tup ds) (.int i) = atI ds i := by
  show (atI ds i).or _ = _
  cases atI ds i <;> rfl
theorem fIy_lst {ds : List D} {i : Int} : fIy (.lst ds) (.int i) = atI ds i := by
  show (none : Option D).or ((atI ds i).or _) = _
  cases atI ds i <;> rfl
theorem fIy_dctS {ds : List (Key × D)} {s : Str} : fIy (.dct ds) (.str s) = valD ds (.inr s) := by
  show (none : Option D).or (none.or (valD ds (.inr s))) = _
  cases valD ds (.inr s) <;> rfl
theorem fGet_S {ds : List (Key × D)} {s : Str} : fGet (.dct ds) (.str s) = some ((valD ds (.inr s)).getD .non) := rfl
theorem isDD_dct {ds : List (Key × D)} : isDD (.dct ds) = some (.dct ds) := rfl
theorem atI_nat {α : Type} {xs : List α} {n : Nat} : atI xs (n : Int) = xs[n]? := by
  unfold atI L2.ixN
  rw [if_pos (by omega)]
  by_cases h : (n : Int) < xs.length
  · rw [if_pos h]; rfl
  · rw [if_neg h, List.getElem?_eq_none (by omega)]; rfl
theorem atI_m1 {α : Type} {xs : List α} : atI xs (-1) = xs.getLast? := by
  unfold atI L2.ixN
  rw [if_neg (by omega)]
  by_cases h : -(xs.length : Int) ≤ -1
  · rw [if_pos h]
    show xs[(-1 + (xs.length : Int)).toNat]? = _
    rw [List.getLast?_eq_getElem?]
    congr 1
    omega
  · have : xs = [] := List.length_eq_zero_iff.mp (by omega)
    subst this
    rfl
theorem atI_get {α : Type} {xs : List α} {i : Int} (h0 : 0 ≤ i) : atI xs i = xs[i.toNat]? := by
  have h := atI_nat (xs := xs) (n := i.toNat)
  rwa [Int.toNat_of_nonneg h0] at h

theorem ix0 {x : D} {ds : List D} : atI (x :: ds) 0 = some x := by rw [show (0 : Int) = ((0 : Nat) : Int) from rfl, atI_nat]; rfl
theorem ix1 {d0 x : D} {ds : List D} : atI (d0 :: x :: ds) 1 = some x := by rw [show (1 : Int) = ((1 : Nat) : Int) from rfl, atI_nat]; rfl
theorem ix2 {d0 d1 x : D} {ds : List D} : atI (d0 :: d1 :: x :: ds) 2 = some x := by rw [show (2 : Int) = ((2 : Nat) : Int) from rfl, atI_nat]; rfl
theorem ix3 {d0 d1 d2 x : D} {ds : List D} : atI (d0 :: d1 :: d2 :: x :: ds) 3 = some x := by rw [show (3 : Int) = ((3 : Nat) : Int) from rfl, atI_nat]; rfl
theorem ix4 {d0 d1 d2 d3 x : D} {ds : List D} : atI (d0 :: d1 :: d2 :: d3 :: x :: ds) 4 = some x := by rw [show (4 : Int) = ((4 : Nat) : Int) from rfl, atI_nat]; rfl
theorem ix5 {d0 d1 d2 d3 d4 x : D} {ds : List D} : atI (d0 :: d1 :: d2 :: d3 :: d4 :: x :: ds) 5 = some x := by rw [show (5 : Int) = ((5 : Nat) : Int) from rfl, atI_nat]; rfl
theorem ix6 {d0 d1 d2 d3 d4 d5 x : D} {ds : List D} : atI (d0 :: d1 :: d2 :: d3 :: d4 :: d5 :: x :: ds) 6 = some x := by rw [show (6 : Int) = ((6 : Nat) : Int) from rfl, atI_nat]; rfl
theorem ix7 {d0 d1 d2 d3 d4 d5 d6 x : D} {ds : List D} : atI (d0 :: d1 :: d2 :: d3 :: d4 :: d5 :: d6 :: x :: ds) 7 = some x := by rw [show (7 : Int) = ((7 : Nat) : Int) from rfl, atI_nat]; rfl
/-! equality -/
theorem eqX_non : fEqX .non .non = some (.bl true) := rfl
theorem eqX_int {i j : Int} : fEqX (.int i) (.int j) = some (.bl (decide (i = j))) := by
  have e : eqD (.int i) (.int j) = some (PyData.eqv (.int i) (.int j)) := rfl
  unfold fEqX fEq
  rw [e]
  simp [PyData.eqv]
  by_cases h : i = j <;> simp [h]
theorem neX_int {i j : Int} : fNeX (.int i) (.int j) = some (.bl (!decide (i = j))) := by
  have e : eqD (.int i) (.int j) = some (PyData.eqv (.int i) (.int j)) := rfl
  unfold fNeX fNe
  rw [e]
  simp [PyData.eqv]
  by_cases h : i = j <;> simp [h]
theorem shaped_str {i : Str} (h : PyData.strOk i = true) : SeqAt.shaped (.str i) = true := by
  unfold SeqAt.shaped
  simp [PyData.canLay0, PyData.depth, h]
theorem eqX_str {i j : Str} (hi : PyData.strOk i = true) (hj : PyData.strOk j = true) : fEqX (.str i) (.str j) = some (.bl (decide (i = j))) := by
  unfold fEqX fEq eqD
  simp [toPy, shaped_str hi, shaped_str hj, PyData.eqv]
  by_cases h : i = j <;> simp [h]
theorem neX_str {i j : Str} (hi : PyData.strOk i = true) (hj : PyData.strOk j = true) : fNeX (.str i) (.str j) = some (.bl (!decide (i = j))) := by
  unfold fNeX fNe eqD
  simp [toPy, shaped_str hi, shaped_str hj, PyData.eqv]
  by_cases h : i = j <;> simp [h]
/-- data made of None, flags, integers, texts, tuples and lists: == answers -/
theorem eqX_of {a b : D} {x y : PyData} (ha : toPy a = some x) (hb : toPy b = some y) (sa : SeqAt.shaped x = true) (sb : SeqAt.shaped y = true) : fEqX a b = some (.bl (PyData.eqv x y)) := by
  unfold fEqX fEq eqD
  rw [ha, hb]
  simp [sa, sb]
theorem neX_of {a b : D} {x y : PyData} (ha : toPy a = some x) (hb : toPy b = some y) (sa : SeqAt.shaped x = true) (sb : SeqAt.shaped y = true) : fNeX a b = some (.bl (!PyData.eqv x y)) := by
  unfold fNeX fNe eqD
  rw [ha, hb]
  simp [sa, sb]
theorem toPyL_strs : ∀ xs : List Str, toPyL (xs.map .str) = some (xs.map .str)
  | [] => rfl
  | x :: xs => by
    rw [List.map_cons]
    unfold toPyL
    rw [toPyL_strs xs]
    rfl
theorem canLayAll0_strs : ∀ xs : List Str, (∀ x ∈ xs, PyData.strOk x = true) → PyData.canLayAll0 (xs.map .str) = true
  | [], _ => by simp [PyData.canLayAll0]
  | x :: xs, h => by
    rw [List.map_cons]
    simp [PyData.canLayAll0, PyData.canLay0, canLayAll0_strs xs fun y hy => h y (List.mem_cons_of_mem _ hy), h x List.mem_cons_self]
theorem depthAll_strs : ∀ xs : List Str, PyData.depthAll (xs.map .str) = 0
  | [] => by simp [PyData.depthAll]
  | x :: xs => by
    rw [List.map_cons]
    simp [PyData.depthAll, PyData.depth, depthAll_strs xs]
theorem shaped_tupS {xs : List Str} (h : ∀ x ∈ xs, PyData.strOk x = true) : SeqAt.shaped (.tuple (xs.map .str)) = true := by
  unfold SeqAt.shaped
  simp [PyData.canLay0, PyData.depth, depthAll_strs, canLayAll0_strs xs h]
theorem toPy_tupS {xs : List Str} : toPy (.tup (xs.map .str)) = some (.tuple (xs.map .str)) := by
  show (toPyL (xs.map .str)).map _ = _
  rw [toPyL_strs]
  rfl
theorem eqvAll_strs : ∀ xs ys : List Str, PyData.eqvAll (xs.map .str) (ys.map .str) = decide (xs = ys)
  | [], [] => by simp [PyData.eqvAll]
  | [], _ :: _ => by simp [PyData.eqvAll]
  | _ :: _, [] => by simp [PyData.eqvAll]
  | x :: xs, y :: ys => by
    rw [List.map_cons, List.map_cons]
    simp only [PyData.eqvAll, PyData.eqv, eqvAll_strs xs ys, List.cons.injEq, Bool.decide_and]
    rfl
theorem eqX_tupS {xs ys : List Str} (hx : ∀ x ∈ xs, PyData.strOk x = true) (hy : ∀ x ∈ ys, PyData.strOk x = true) : fEqX (.tup (xs.map .str)) (.tup (ys.map .str)) = some (.bl (decide (xs = ys))) := by
  rw [eqX_of toPy_tupS toPy_tupS (shaped_tupS hx) (shaped_tupS hy)]
  simp [PyData.eqv, eqvAll_strs]
theorem neX_tupS {xs ys : List Str} (hx : ∀ x ∈ xs, PyData.strOk x = true) (hy : ∀ x ∈ ys, PyData.strOk x = true) : fNeX (.tup (xs.map .str)) (.tup (ys.map .str)) = some (.bl (!decide (xs = ys))) := by
  rw [neX_of toPy_tupS toPy_tupS (shaped_tupS hx) (shaped_tupS hy)]
  simp [PyData.eqv, eqvAll_strs]
/-! dicts -/
theorem inDct_S {ds : List (Key × D)} {s : Str} : fIn (.str s) (.dct ds) = some (.bl (valD ds (.inr s)).isSome) := rfl
theorem ninDct_S {ds : List (Key × D)} {s : Str} : fNotIn (.str s) (.dct ds) = some (.bl (!(valD ds (.inr s)).isSome)) := rfl
theorem inTb_f {tab : List (Str × D)} {z : Str} : inTb tab false (.str z) = some (.bl (tab.lookup z).isSome) := by simp [inTb]
theorem inTb_t {tab : List (Str × D)} {z : Str} : inTb tab true (.str z) = some (.bl (!(tab.lookup z).isSome)) := by simp [inTb]
theorem ixTb_s {tab : List (Str × D)} {z : Str} : ixTb tab (.str z) = tab.lookup z := rfl
theorem flat_strs (xs : List Str) : (xs.map D.str).all flatD = true := by
  rw [List.all_map]
  exact List.all_eq_true.mpr fun _ _ => rfl
theorem inF_strs (s : Str) (xs : List Str) : inF (.str s) (xs.map .str) = decide (s ∈ xs) := by
  unfold inF
  rw [List.any_map]
  rw [Bool.eq_iff_iff, List.any_eq_true, decide_eq_true_iff]
  constructor
  · rintro ⟨x, hx, h⟩
    have : x = s := by simpa [eqF] using h
    exact this ▸ hx
  · intro h
    exact ⟨s, h, by simp [eqF]⟩
theorem in_tupS {s : Str} {xs : List Str} : fIn (.str s) (.tup (xs.map .str)) = some (.bl (decide (s ∈ xs))) := by
  show (inD _ _).map D.bl = _
  have e : inSeq (.str s) (.tup (xs.map .str)) = some (decide (s ∈ xs)) := by
    show (if flatD (.str s) && (xs.map D.str).all flatD then some (inF (.str s) (xs.map .str)) else none) = _
    rw [flat_strs, inF_strs]; rfl
  unfold inD
  rw [e]
  rfl
theorem nin_tupS {s : Str} {xs : List Str} : fNotIn (.str s) (.tup (xs.map .str)) = some (.bl (!decide (s ∈ xs))) := by
  show (inD _ _).map (fun k => D.bl (!k)) = _
  have e : inSeq (.str s) (.tup (xs.map .str)) = some (decide (s ∈ xs)) := by
    show (if flatD (.str s) && (xs.map D.str).all flatD then some (inF (.str s) (xs.map .str)) else none) = _
    rw [flat_strs, inF_strs]; rfl
  unfold inD
  rw [e]
  rfl
theorem in_lstS {s : Str} {xs : List Str} : fIn (.str s) (.lst (xs.map .str)) = some (.bl (decide (s ∈ xs))) := by
  show (inD _ _).map D.bl = _
  have e : inSeq (.str s) (.lst (xs.map .str)) = some (decide (s ∈ xs)) := by
    show (if flatD (.str s) && (xs.map D.str).all flatD then some (inF (.str s) (xs.map .str)) else none) = _
    rw [flat_strs, inF_strs]; rfl
  unfold inD
  rw [e]
  rfl
theorem nin_lstS {s : Str} {xs : List Str} : fNotIn (.str s) (.lst (xs.map .str)) = some (.bl (!decide (s ∈ xs))) := by
  show (inD _ _).map (fun k => D.bl (!k)) = _
  have e : inSeq (.str s) (.lst (xs.map .str)) = some (decide (s ∈ xs)) := by
    show (if flatD (.str s) && (xs.map D.str).all flatD then some (inF (.str s) (xs.map .str)) else none) = _
    rw [flat_strs, inF_strs]; rfl
  unfold inD
  rw [e]
  rfl
theorem blsD_map {α : Type} {f : α → Bool} : ∀ ds : List α, blsD (ds.map fun d => .bl (f d)) = some (ds.map f)
  | [] => rfl
  | d :: ds => by
    rw [List.map_cons]
    unfold blsD
    rw [blsD_map ds]
    rfl
theorem fAll_map {α : Type} {f : α → Bool} {ds : List α} : fAll [.lst (ds.map fun d => .bl (f d))] = some (.bl (ds.all f)) := by
  show (blsD (ds.map fun d => .bl (f d))).map _ = _
  rw [blsD_map]
  show some (D.bl ((ds.map f).all id)) = _
  rw [List.all_map]
  rfl
theorem fAny_map {α : Type} {f : α → Bool} {ds : List α} : fAny [.lst (ds.map fun d => .bl (f d))] = some (.bl (ds.any f)) := by
  show (blsD (ds.map fun d => .bl (f d))).map _ = _
  rw [blsD_map]
  show some (D.bl ((ds.map f).any id)) = _
  rw [List.any_map]
  rfl
theorem strsD_map : ∀ xs : List Str, strsD (xs.map .str) = some xs
  | [] => rfl
  | x :: xs => by
    rw [List.map_cons]
    unfold strsD
    rw [strsD_map xs]
    rfl
theorem fSetLen_tupS {xs : List Str} (hz : xs.length < 3000) : fSetLen (.tup (xs.map .str)) = some (.int (cntS xs xs.length)) := by
  show ((strsD (xs.map .str)).bind fun xs => if xs.length < 3000 then some (D.int (cntS xs xs.length)) else none) = _
  rw [strsD_map]
  simp [hz]
theorem cntS_nodup : ∀ (xs : List Str) (i : Nat), i ≤ xs.length → xs.Nodup → cntS xs i = i
  | xs, 0, _, _ => rfl
  | xs, i + 1, h, nd => by
    unfold cntS
    rw [if_neg]
    · rw [cntS_nodup xs i (by omega) nd]
    · intro e
      obtain ⟨y, hy, e⟩ := List.any_eq_true.mp e
      have e := eq_of_beq e
      obtain ⟨j, hj, e2⟩ := List.mem_iff_getElem.mp hy
      have hj2 : j < i := by have := hj; simp at this; omega
      rw [List.getElem_take] at e2
      rw [List.getD_eq_getElem?_getD, List.getElem?_eq_getElem (by omega)] at e
      exact List.pairwise_iff_getElem.mp nd j i (by omega) (by omega) hj2 (by simpa using e2.trans e)
theorem rng1_nat {n : Nat} (h : n < 1000000000) : rng1 (.int n) = some ((List.range n).map fun (i : Nat) => D.int (0 + i)) := by
  show (if (n : Int) < 1000000000 ∧ -1000000000 < (n : Int) then some (rngD 0 (n : Int).toNat) else none) = _
  rw [if_pos (by omega)]
  rfl
theorem fSorted_nil : fSorted [.dct []] = some (.lst []) := by
  show (none : Option D).or ((keysS []).bind fun xs => if xs.length < 64 then some (D.lst ((sortS xs).map .str)) else none) = _
  simp [keysS, sortS]
end EE
end

section
set_option Elab.async false
set_option linter.all false
set_option maxRecDepth 100000
set_option maxHeartbeats 4000000
namespace WK
open PySem PySem.Spec PyProof.Rows L2 EE
variable (T T' : Nat → Fn)
def b_is_integer (T T' : Nat → Fn) : M Fl := (mRet (mAndV (m1 (fIsi "int" cs) (mVar 0)) (mNotV (m1 (fIsi "bool" cs) (mVar 0)))))
def b_is_number (T T' : Nat → Fn) : M Fl := (mRet (mAndV (mFz (mCall 1 (T 0) (((mVar 0).bind fun d => M.pure (.v d)).bind fun d => (M.pure []).bind fun ds => M.pure (d :: ds)))) (mCh fLe fLe (mVar 1) (mVar 0) (mVar 2))))
def b_is_name (T T' : Nat → Fn) : M Fl := (mSeq (mIf (mOr (mNotB (mTst (m1 (fIsi "str" cs) (mVar 0)))) (mNotB (mTst (mCh fLe fLe (M.pure (.int 1)) (mN fLen ((mVar 0).bind fun d => (M.pure []).bind fun ds => M.pure (d :: ds))) (M.pure (.int 8)))))) (mRet (M.pure (.bl false))) mNx)
    (mRet (mN fAll ((mComp 2 ((mVar 0).bind fun d => M.of (itD d)) (fun d => mPut 1 (.imm d)) (M.pure true) (m2 fIn (mVar 1) (M.pure (.str c_LETTERS))) [1]).bind fun d => (M.pure []).bind fun ds => M.pure (d :: ds)))))
def b_is_unlike (T T' : Nat → Fn) : M Fl := (mRet (m2 fEqX (m1 fSetLen (mVar 0)) (mN fLen ((mVar 0).bind fun d => (M.pure []).bind fun ds => M.pure (d :: ds)))))
def b_is_names (T T' : Nat → Fn) : M Fl := (mSeq (mIf (mOr (mNotB (mTst (m1 (fIsi "tuple" cs) (mVar 0)))) (mTst (m2 fGt (mN fLen ((mVar 0).bind fun d => (M.pure []).bind fun ds => M.pure (d :: ds))) (mVar 1)))) (mRet (M.pure (.bl false))) mNx)
    (mRet (mAndV (mN fAll ((mComp 3 ((mVar 0).bind fun d => M.of (itD d)) (fun d => mPut 2 (.imm d)) (M.pure true) (mFz (mCall 1 (T 2) (((mVar 2).bind fun d => M.pure (.v d)).bind fun d => (M.pure []).bind fun ds => M.pure (d :: ds)))) [2]).bind fun d => (M.pure []).bind fun ds => M.pure (d :: ds))) (mFz (mCall 1 (T 3) (((mVar 0).bind fun d => M.pure (.v d)).bind fun d => (M.pure []).bind fun ds => M.pure (d :: ds)))))))
def b_is_words (T T' : Nat → Fn) : M Fl := (mSeq (mIf (mOr (mNotB (mTst (m1 (fIsi "tuple" cs) (mVar 0)))) (mTst (m2 fGt (mN fLen ((mVar 0).bind fun d => (M.pure []).bind fun ds => M.pure (d :: ds))) (mVar 1)))) (mRet (M.pure (.bl false))) mNx)
    (mRet (mN fAll ((mComp 3 ((mVar 0).bind fun d => M.of (itD d)) (fun d => mPut 2 (.imm d)) (M.pure true) (mFz (mCall 1 (T 2) (((mVar 2).bind fun d => M.pure (.v d)).bind fun d => (M.pure []).bind fun ds => M.pure (d :: ds)))) [2]).bind fun d => (M.pure []).bind fun ds => M.pure (d :: ds)))))
def b_is_expression (T T' : Nat → Fn) : M Fl := (mSeq (mIf (mTst (mFz (mCall 1 (T 2) (((mVar 0).bind fun d => M.pure (.v d)).bind fun d => (M.pure []).bind fun ds => M.pure (d :: ds))))) (mRet (M.pure (.bl true))) mNx)
    (mRet (mAndV (mFz (mCall 2 (T 5) (((mVar 0).bind fun d => M.pure (.v d)).bind fun d => (((M.pure (.int 1)).bind fun d => M.pure (.v d)).bind fun d => (M.pure []).bind fun ds => M.pure (d :: ds)).bind fun ds => M.pure (d :: ds)))) (m2 fEqX (mN fLen ((mVar 0).bind fun d => (M.pure []).bind fun ds => M.pure (d :: ds))) (M.pure (.int 1))))))
def b_is_expressions (T T' : Nat → Fn) : M Fl := (mSeq (mIf (mOr (mNotB (mTst (m1 (fIsi "tuple" cs) (mVar 0)))) (mTst (m2 fGt (mN fLen ((mVar 0).bind fun d => (M.pure []).bind fun ds => M.pure (d :: ds))) (M.pure (.int 4))))) (mRet (M.pure (.bl false))) mNx)
    (mRet (mN fAll ((mComp 2 ((mVar 0).bind fun d => M.of (itD d)) (fun d => mPut 1 (.imm d)) (M.pure true) (mFz (mCall 1 (T 6) (((mVar 1).bind fun d => M.pure (.v d)).bind fun d => (M.pure []).bind fun ds => M.pure (d :: ds)))) [1]).bind fun d => (M.pure []).bind fun ds => M.pure (d :: ds)))))
def b_is_test (T T' : Nat → Fn) : M Fl := (mSeq (mIf (mOr (mNotB (mTst (m1 (fIsi "tuple" cs) (mVar 1)))) (mTst (m2 fLt (mN fLen ((mVar 1).bind fun d => (M.pure []).bind fun ds => M.pure (d :: ds))) (M.pure (.int 2))))) (mRet (M.pure (.bl false))) mNx)
    (mSeq (mIf (mAnd (mTst (m2 fEqX (m2 fIx (mVar 1) (M.pure (.int 0))) (M.pure (.str "not")))) (mTst (m2 fEqX (mN fLen ((mVar 1).bind fun d => (M.pure []).bind fun ds => M.pure (d :: ds))) (M.pure (.int 2))))) (mRet (mAndV (m2 fGt (mVar 2) (M.pure (.int 0))) (mFz (mCall 3 (T 8) (((mVar 0).bind fun d => M.pure (.v d)).bind fun d => (((m2 fIx (mVar 1) (M.pure (.int 1))).bind fun d => M.pure (.v d)).bind fun d => (((m2 fSub (mVar 2) (M.pure (.int 1))).bind fun d => M.pure (.v d)).bind fun d => (M.pure []).bind fun ds => M.pure (d :: ds)).bind fun ds => M.pure (d :: ds)).bind fun ds => M.pure (d :: ds)))))) mNx)
    (mSeq (mIf (mOr (mTst (m2 fNeX (mN fLen ((mVar 1).bind fun d => (M.pure []).bind fun ds => M.pure (d :: ds))) (M.pure (.int 3)))) (mNotB (mTst (mFz (mCall 1 (T 6) (((m2 fIx (mVar 1) (M.pure (.int 1))).bind fun d => M.pure (.v d)).bind fun d => (M.pure []).bind fun ds => M.pure (d :: ds))))))) (mRet (M.pure (.bl false))) mNx)
    (mSeq (mIf (mTst (m2 fEqX (m2 fIx (mVar 1) (M.pure (.int 0))) (M.pure (.str "same")))) (mRet (mFz (mCall 1 (T 6) (((m2 fIx (mVar 1) (M.pure (.int 2))).bind fun d => M.pure (.v d)).bind fun d => (M.pure []).bind fun ds => M.pure (d :: ds))))) mNx)
    (mSeq (mIf (mOr (mTst (m2 fNeX (m2 fIx (mVar 1) (M.pure (.int 0))) (M.pure (.str "kind")))) (mNotB (mTst (mFz (mCall 1 (T 2) (((m2 fIx (mVar 1) (M.pure (.int 2))).bind fun d => M.pure (.v d)).bind fun d => (M.pure []).bind fun ds => M.pure (d :: ds))))))) (mRet (M.pure (.bl false))) mNx)
    (mRet (mOrV (m2 fIn (m2 fIx (mVar 1) (M.pure (.int 2))) (M.pure c_KINDS)) (m2 fIn (m2 fIx (mVar 1) (M.pure (.int 2))) (mVar 0)))))))))
def b_returns (T T' : Nat → Fn) : M Fl := (mSeq (mFor ((mVar 0).bind fun d => M.of (itD d)) (fun d => mPut 1 (.imm d)) (mSeq (mIf (mTst (m2 fEqX (m2 fIx (mVar 1) (M.pure (.int 0))) (M.pure (.str "return")))) (mRet (M.pure (.bl true))) mNx)
    (mIf (mTst (mN fAny ((mComp 3 ((mFz (mCall 1 (T 10) (((mVar 1).bind fun d => M.pure (.v d)).bind fun d => (M.pure []).bind fun ds => M.pure (d :: ds)))).bind fun d => M.of (itD d)) (fun d => mPut 2 (.imm d)) (M.pure true) (mFz (mCall 1 (T 9) (((mVar 2).bind fun d => M.pure (.v d)).bind fun d => (M.pure []).bind fun ds => M.pure (d :: ds)))) [2]).bind fun d => (M.pure []).bind fun ds => M.pure (d :: ds)))) (mRet (M.pure (.bl true))) mNx)))
    (mRet (M.pure (.bl false))))
def b_inner_blocks (T T' : Nat → Fn) : M Fl := (mSeq (mIf (mTst (m2 fEqX (m2 fIx (mVar 0) (M.pure (.int 0))) (M.pure (.str "if")))) (mRet (mN fLst ((m2 fIx (mVar 0) (M.pure (.int 2))).bind fun d => ((m2 fIx (mVar 0) (M.pure (.int 3))).bind fun d => (M.pure []).bind fun ds => M.pure (d :: ds)).bind fun ds => M.pure (d :: ds)))) mNx)
    (mSeq (mIf (mTst (m2 fEqX (m2 fIx (mVar 0) (M.pure (.int 0))) (M.pure (.str "loop")))) (mRet (mN fLst ((m2 fIx (mVar 0) (M.pure (.int 2))).bind fun d => (M.pure []).bind fun ds => M.pure (d :: ds)))) mNx)
    (mSeq (mIf (mTst (m2 fEqX (m2 fIx (mVar 0) (M.pure (.int 0))) (M.pure (.str "try")))) (mRet (mN fLst ((m2 fIx (mVar 0) (M.pure (.int 1))).bind fun d => ((m2 fIx (mVar 0) (M.pure (.int 3))).bind fun d => (M.pure []).bind fun ds => M.pure (d :: ds)).bind fun ds => M.pure (d :: ds)))) mNx)
    (mSeq (mIf (mTst (m2 fEqX (m2 fIx (mVar 0) (M.pure (.int 0))) (M.pure (.str "last")))) (mRet (mN fLst ((m2 fIx (mVar 0) (M.pure (.int 1))).bind fun d => ((m2 fIx (mVar 0) (M.pure (.int 2))).bind fun d => (M.pure []).bind fun ds => M.pure (d :: ds)).bind fun ds => M.pure (d :: ds)))) mNx)
    (mRet (mN fLst (M.pure [])))))))
def b_is_known (T T' : Nat → Fn) : M Fl := (mSeq (mIf (mNotB (mTst (mFz (mCall 1 (T 2) (((mVar 2).bind fun d => M.pure (.v d)).bind fun d => (M.pure []).bind fun ds => M.pure (d :: ds)))))) (mRet (M.pure (.bl false))) mNx)
    (mSeq (mIf (mTst (m2 fEqX (mVar 1) (M.pure (.str "shared")))) (mRet (m2 fIn (mVar 2) (m2 fIx (mVar 0) (M.pure (.int 0))))) mNx)
    (mSeq (mIf (mTst (m2 fEqX (mVar 1) (M.pure (.str "class")))) (mRet (m2 fIn (mVar 2) (m2 fIx (mVar 0) (M.pure (.int 1))))) mNx)
    (mSeq (mIf (mTst (m2 fEqX (mVar 1) (M.pure (.str "function")))) (mRet (m2 fIn (mVar 2) (m2 fIx (mVar 0) (M.pure (.int 2))))) mNx)
    (mRet (M.pure (.bl true)))))))
def b_is_part (T T' : Nat → Fn) : M Fl := (mSeq (mIf (mTst (m2 fEqX (mVar 1) (M.pure (.str "block")))) (mRet (mFz (mCall 3 (T 14) (((mVar 0).bind fun d => M.pure (.v d)).bind fun d => (((mVar 2).bind fun d => M.pure (.v d)).bind fun d => (((m2 fAdd (mVar 3) (M.pure (.int 1))).bind fun d => M.pure (.v d)).bind fun d => (M.pure []).bind fun ds => M.pure (d :: ds)).bind fun ds => M.pure (d :: ds)).bind fun ds => M.pure (d :: ds))))) mNx)
    (mSeq (mIf (mTst (m2 fEqX (mVar 1) (M.pure (.str "bare")))) (mRet (mAndV (mFz (mCall 3 (T 14) (((mVar 0).bind fun d => M.pure (.v d)).bind fun d => (((mVar 2).bind fun d => M.pure (.v d)).bind fun d => (((m2 fAdd (mVar 3) (M.pure (.int 1))).bind fun d => M.pure (.v d)).bind fun d => (M.pure []).bind fun ds => M.pure (d :: ds)).bind fun ds => M.pure (d :: ds)).bind fun ds => M.pure (d :: ds)))) (mNotV (mFz (mCall 1 (T 9) (((mVar 2).bind fun d => M.pure (.v d)).bind fun d => (M.pure []).bind fun ds => M.pure (d :: ds))))))) mNx)
    (mSeq (mIf (mTst (m2 fEqX (mVar 1) (M.pure (.str "expression")))) (mRet (mFz (mCall 1 (T 6) (((mVar 2).bind fun d => M.pure (.v d)).bind fun d => (M.pure []).bind fun ds => M.pure (d :: ds))))) mNx)
    (mSeq (mIf (mTst (m2 fEqX (mVar 1) (M.pure (.str "expressions")))) (mRet (mFz (mCall 1 (T 7) (((mVar 2).bind fun d => M.pure (.v d)).bind fun d => (M.pure []).bind fun ds => M.pure (d :: ds))))) mNx)
    (mSeq (mIf (mTst (m2 fEqX (mVar 1) (M.pure (.str "test")))) (mRet (mFz (mCall 3 (T 8) (((m2 fIx (mVar 0) (M.pure (.int 1))).bind fun d => M.pure (.v d)).bind fun d => (((mVar 2).bind fun d => M.pure (.v d)).bind fun d => (((M.pure (.int 3)).bind fun d => M.pure (.v d)).bind fun d => (M.pure []).bind fun ds => M.pure (d :: ds)).bind fun ds => M.pure (d :: ds)).bind fun ds => M.pure (d :: ds))))) mNx)
    (mSeq (mIf (mTst (m2 fEqX (mVar 1) (M.pure (.str "words")))) (mRet (mAndV (mFz (mCall 2 (T 4) (((mVar 2).bind fun d => M.pure (.v d)).bind fun d => (((M.pure (.int 3)).bind fun d => M.pure (.v d)).bind fun d => (M.pure []).bind fun ds => M.pure (d :: ds)).bind fun ds => M.pure (d :: ds)))) (m2 fGe (mN fLen ((mVar 2).bind fun d => (M.pure []).bind fun ds => M.pure (d :: ds))) (M.pure (.int 2))))) mNx)
    (mSeq (mIf (mTst (m2 fEqX (mVar 1) (M.pure (.str "price")))) (mRet (mFz (mCall 3 (T 1) (((mVar 2).bind fun d => M.pure (.v d)).bind fun d => (((M.pure (.int 0)).bind fun d => M.pure (.v d)).bind fun d => (((M.pure (.int 9)).bind fun d => M.pure (.v d)).bind fun d => (M.pure []).bind fun ds => M.pure (d :: ds)).bind fun ds => M.pure (d :: ds)).bind fun ds => M.pure (d :: ds))))) mNx)
    (mRet (mFz (mCall 3 (T 11) (((mVar 0).bind fun d => M.pure (.v d)).bind fun d => (((mVar 1).bind fun d => M.pure (.v d)).bind fun d => (((mVar 2).bind fun d => M.pure (.v d)).bind fun d => (M.pure []).bind fun ds => M.pure (d :: ds)).bind fun ds => M.pure (d :: ds)).bind fun ds => M.pure (d :: ds))))))))))))
def b_is_statement (T T' : Nat → Fn) : M Fl := (mSeq (mIf (mOr (mNotB (mTst (m1 (fIsi "tuple" cs) (mVar 1)))) (mOr (mTst (m2 fLt (mN fLen ((mVar 1).bind fun d => (M.pure []).bind fun ds => M.pure (d :: ds))) (M.pure (.int 2)))) (mNotB (mTst (mFz (mCall 1 (T 2) (((m2 fIx (mVar 1) (M.pure (.int 0))).bind fun d => M.pure (.v d)).bind fun d => (M.pure []).bind fun ds => M.pure (d :: ds)))))))) (mRet (M.pure (.bl false))) mNx)
    (mSeq (mIf (mTst (m1 (inTb c_SHAPES true) (m2 fIx (mVar 1) (M.pure (.int 0))))) (mRet (M.pure (.bl false))) mNx)
    (mSeq (mSet 3 (m1 (ixTb c_SHAPES) (m2 fIx (mVar 1) (M.pure (.int 0)))))
    (mSeq (mIf (mTst (m2 fNeX (mN fLen ((mVar 1).bind fun d => (M.pure []).bind fun ds => M.pure (d :: ds))) (m2 fAdd (mN fLen ((mVar 3).bind fun d => (M.pure []).bind fun ds => M.pure (d :: ds))) (M.pure (.int 1))))) (mRet (M.pure (.bl false))) mNx)
    (mSeq (mFor ((mVar 3).bind fun d => M.of (enD d)) (gTupM 2 (fun ds => match ds with | [] => M.bad | d :: ds => ((fun d => mPut 4 (.imm d)) d).bind fun _ => (fun ds => match ds with | [] => M.bad | d :: ds => ((fun d => mPut 5 (.imm d)) d).bind fun _ => (fun ds => match ds with | [] => M.pure () | _ => M.bad) ds) ds)) (mIf (mNotB (mTst (mFz (mCall 4 (T 12) (((mVar 0).bind fun d => M.pure (.v d)).bind fun d => (((mVar 5).bind fun d => M.pure (.v d)).bind fun d => (((m2 fIx (mVar 1) (m2 fAdd (mVar 4) (M.pure (.int 1)))).bind fun d => M.pure (.v d)).bind fun d => (((mVar 2).bind fun d => M.pure (.v d)).bind fun d => (M.pure []).bind fun ds => M.pure (d :: ds)).bind fun ds => M.pure (d :: ds)).bind fun ds => M.pure (d :: ds)).bind fun ds => M.pure (d :: ds)))))) (mRet (M.pure (.bl false))) mNx))
    (mRet (M.pure (.bl true))))))))
def b_is_block (T T' : Nat → Fn) : M Fl := (mSeq (mIf (mOr (mTst (m2 fGt (mVar 2) (M.pure (.int 6)))) (mOr (mNotB (mTst (m1 (fIsi "tuple" cs) (mVar 1)))) (mTst (m2 fGt (mN fLen ((mVar 1).bind fun d => (M.pure []).bind fun ds => M.pure (d :: ds))) (M.pure (.int 12)))))) (mRet (M.pure (.bl false))) mNx)
    (mRet (mN fAll ((mComp 4 ((mVar 1).bind fun d => M.of (itD d)) (fun d => mPut 3 (.imm d)) (M.pure true) (mFz (mCall 3 (T 13) (((mVar 0).bind fun d => M.pure (.v d)).bind fun d => (((mVar 3).bind fun d => M.pure (.v d)).bind fun d => (((mVar 2).bind fun d => M.pure (.v d)).bind fun d => (M.pure []).bind fun ds => M.pure (d :: ds)).bind fun ds => M.pure (d :: ds)).bind fun ds => M.pure (d :: ds)))) [3]).bind fun d => (M.pure []).bind fun ds => M.pure (d :: ds)))))
def b_class_line (T T' : Nat → Fn) : M Fl := (mSeq (mSetO 2 (mOLst (M.pure [])))
    (mSeq (whileM (mTst (m2 fNotN (mVar 1) (M.pure .non))) (mSeq (mIf (mTst (m2 fIn (mVar 1) (mPk 2))) (mRet (M.pure .non)) mNx)
    (mSeq (mDrop (mMeth 2 fIns0 ((M.pure (.int 0)).bind fun d => ((mVar 1).bind fun d => (M.pure []).bind fun ds => M.pure (d :: ds)).bind fun ds => M.pure (d :: ds))))
    (mSet 1 (m2 fIx (m2 fIx (mVar 0) (mVar 1)) (M.pure (.int 0)))))) 1000)
    (mRetO (mTake 2))))
def b_fields_by_line (T T' : Nat → Fn) : M Fl := (mSeq (mSetO 2 (mOLst (M.pure [])))
    (mSeq (mFor ((mVar 1).bind fun d => M.of (itD d)) (fun d => mPut 3 (.imm d)) (mDrop (mMeth 2 fExt ((m2 fIx (m2 fIx (mVar 0) (mVar 3)) (M.pure (.int 2))).bind fun d => (M.pure []).bind fun ds => M.pure (d :: ds)))))
    (mFrz 2 (mRet (mN fTupOf ((mVar 2).bind fun d => (M.pure []).bind fun ds => M.pure (d :: ds)))))))
def b_methods_by_line (T T' : Nat → Fn) : M Fl := (mSeq (mSetO 2 (M.pure (.dct [])))
    (mSeq (mFor ((mVar 1).bind fun d => M.of (itD d)) (fun d => mPut 3 (.imm d)) (mForD .items (sIx (sIx (sVar 0) (sVar 3)) (fun _ => some (.int 3))) (gTupM 2 (fun ds => match ds with | [] => M.bad | d :: ds => ((fun d => mPut 4 (.imm d)) d).bind fun _ => (fun ds => match ds with | [] => M.bad | d :: ds => ((fun d => mPut 5 (.imm d)) d).bind fun _ => (fun ds => match ds with | [] => M.pure () | _ => M.bad) ds) ds)) (mPutK 2 (mVar 5) (mVar 4))))
    (mRetO (mTake 2))))
def b_is_shared (T T' : Nat → Fn) : M Fl := (mSeq (mIf (mOr (mNotB (mTst (m1 (fIsi "dict" cs) (mVar 0)))) (mTst (m2 fGt (mN fLen ((mVar 0).bind fun d => (M.pure []).bind fun ds => M.pure (d :: ds))) (M.pure (.int 4))))) (mRet (M.pure (.bl false))) mNx)
    (mRet (mN fAll ((mCompD 3 .items (sVar 0) (gTupM 2 (fun ds => match ds with | [] => M.bad | d :: ds => ((fun d => mPut 1 (.imm d)) d).bind fun _ => (fun ds => match ds with | [] => M.bad | d :: ds => ((fun d => mPut 2 (.imm d)) d).bind fun _ => (fun ds => match ds with | [] => M.pure () | _ => M.bad) ds) ds)) (M.pure true) (mAndV (mFz (mCall 1 (T 2) (((mVar 1).bind fun d => M.pure (.v d)).bind fun d => (M.pure []).bind fun ds => M.pure (d :: ds)))) (mFz (mCall 1 (T 2) (((mVar 2).bind fun d => M.pure (.v d)).bind fun d => (M.pure []).bind fun ds => M.pure (d :: ds))))) [1, 2]).bind fun d => (M.pure []).bind fun ds => M.pure (d :: ds)))))
def b_is_methods (T T' : Nat → Fn) : M Fl := (mSeq (mIf (mNotB (mTst (m1 (fIsi "dict" cs) (mVar 0)))) (mRet (M.pure (.bl false))) mNx)
    (mRet (mN fAll ((mCompD 3 .items (sVar 0) (gTupM 2 (fun ds => match ds with | [] => M.bad | d :: ds => ((fun d => mPut 1 (.imm d)) d).bind fun _ => (fun ds => match ds with | [] => M.bad | d :: ds => ((fun d => mPut 2 (.imm d)) d).bind fun _ => (fun ds => match ds with | [] => M.pure () | _ => M.bad) ds) ds)) (M.pure true) (mAndV (mFz (mCall 1 (T 2) (((mVar 1).bind fun d => M.pure (.v d)).bind fun d => (M.pure []).bind fun ds => M.pure (d :: ds)))) (mFz (mCall 1 (T 2) (((mVar 2).bind fun d => M.pure (.v d)).bind fun d => (M.pure []).bind fun ds => M.pure (d :: ds))))) [1, 2]).bind fun d => (M.pure []).bind fun ds => M.pure (d :: ds)))))
def b_is_class_row (T T' : Nat → Fn) : M Fl := (mSeq (mIf (mOr (mNotB (mTst (m1 (fIsi "tuple" cs) (mVar 1)))) (mTst (m2 fNeX (mN fLen ((mVar 1).bind fun d => (M.pure []).bind fun ds => M.pure (d :: ds))) (M.pure (.int 4))))) (mRet (M.pure (.bl false))) mNx)
    (mSeq (mAsg (mVar 1) (gTupM 4 (fun ds => match ds with | [] => M.bad | d :: ds => ((fun d => mPut 2 (.imm d)) d).bind fun _ => (fun ds => match ds with | [] => M.bad | d :: ds => ((fun d => mPut 3 (.imm d)) d).bind fun _ => (fun ds => match ds with | [] => M.bad | d :: ds => ((fun d => mPut 4 (.imm d)) d).bind fun _ => (fun ds => match ds with | [] => M.bad | d :: ds => ((fun d => mPut 5 (.imm d)) d).bind fun _ => (fun ds => match ds with | [] => M.pure () | _ => M.bad) ds) ds) ds) ds)))
    (mSeq (mIf (mAnd (mTst (m2 fNotN (mVar 2) (M.pure .non))) (mNotB (mAnd (mTst (mFz (mCall 1 (T 2) (((mVar 2).bind fun d => M.pure (.v d)).bind fun d => (M.pure []).bind fun ds => M.pure (d :: ds))))) (mTst (m2 fIn (mVar 2) (mVar 0)))))) (mRet (M.pure (.bl false))) mNx)
    (mRet (mAndV (mFz (mCall 3 (T 1) (((mVar 3).bind fun d => M.pure (.v d)).bind fun d => (((M.pure (.int 1)).bind fun d => M.pure (.v d)).bind fun d => (((M.pure (.int 2)).bind fun d => M.pure (.v d)).bind fun d => (M.pure []).bind fun ds => M.pure (d :: ds)).bind fun ds => M.pure (d :: ds)).bind fun ds => M.pure (d :: ds)))) (mAndV (mFz (mCall 2 (T 4) (((mVar 4).bind fun d => M.pure (.v d)).bind fun d => (((M.pure (.int 3)).bind fun d => M.pure (.v d)).bind fun d => (M.pure []).bind fun ds => M.pure (d :: ds)).bind fun ds => M.pure (d :: ds)))) (mFz (mCall 1 (T 19) (((mVar 5).bind fun d => M.pure (.v d)).bind fun d => (M.pure []).bind fun ds => M.pure (d :: ds))))))))))
def b_is_classes (T T' : Nat → Fn) : M Fl := (mSeq (mIf (mOr (mNotB (mTst (m1 (fIsi "dict" cs) (mVar 0)))) (mTst (m2 fGt (mN fLen ((mVar 0).bind fun d => (M.pure []).bind fun ds => M.pure (d :: ds))) (M.pure (.int 6))))) (mRet (M.pure (.bl false))) mNx)
    (mSeq (mForD .items (sVar 0) (gTupM 2 (fun ds => match ds with | [] => M.bad | d :: ds => ((fun d => mPut 1 (.imm d)) d).bind fun _ => (fun ds => match ds with | [] => M.bad | d :: ds => ((fun d => mPut 2 (.imm d)) d).bind fun _ => (fun ds => match ds with | [] => M.pure () | _ => M.bad) ds) ds)) (mIf (mOr (mNotB (mTst (mFz (mCall 1 (T 2) (((mVar 1).bind fun d => M.pure (.v d)).bind fun d => (M.pure []).bind fun ds => M.pure (d :: ds)))))) (mOr (mTst (m2 fIn (mVar 1) (M.pure c_KINDS))) (mNotB (mTst (mFz (mCall 2 (T 20) (((mVar 0).bind fun d => M.pure (.v d)).bind fun d => (((mVar 2).bind fun d => M.pure (.v d)).bind fun d => (M.pure []).bind fun ds => M.pure (d :: ds)).bind fun ds => M.pure (d :: ds)))))))) (mRet (M.pure (.bl false))) mNx))
    (mSeq (mForD .keys (sVar 0) (fun d => mPut 1 (.imm d)) (mSeq (mSet 3 (mFz (mCall 2 (T 15) (((mVar 0).bind fun d => M.pure (.v d)).bind fun d => (((mVar 1).bind fun d => M.pure (.v d)).bind fun d => (M.pure []).bind fun ds => M.pure (d :: ds)).bind fun ds => M.pure (d :: ds)))))
    (mSeq (mIf (mTst (m2 fIsN (mVar 3) (M.pure .non))) (mRet (M.pure (.bl false))) mNx)
    (mSeq (mSet 4 (mFz (mCall 2 (T 16) (((mVar 0).bind fun d => M.pure (.v d)).bind fun d => (((mVar 3).bind fun d => M.pure (.v d)).bind fun d => (M.pure []).bind fun ds => M.pure (d :: ds)).bind fun ds => M.pure (d :: ds)))))
    (mIf (mOr (mTst (m2 fGt (mN fLen ((mVar 4).bind fun d => (M.pure []).bind fun ds => M.pure (d :: ds))) (M.pure (.int 4)))) (mNotB (mTst (mFz (mCall 1 (T 3) (((mVar 4).bind fun d => M.pure (.v d)).bind fun d => (M.pure []).bind fun ds => M.pure (d :: ds))))))) (mRet (M.pure (.bl false))) mNx)))))
    (mRet (M.pure (.bl true))))))
def b_is_function_row (T T' : Nat → Fn) : M Fl := (mSeq (mIf (mOr (mNotB (mTst (m1 (fIsi "tuple" cs) (mVar 0)))) (mTst (m2 fNeX (mN fLen ((mVar 0).bind fun d => (M.pure []).bind fun ds => M.pure (d :: ds))) (M.pure (.int 3))))) (mRet (M.pure (.bl false))) mNx)
    (mRet (mAndV (mFz (mCall 2 (T 4) (((m2 fIx (mVar 0) (M.pure (.int 0))).bind fun d => M.pure (.v d)).bind fun d => (((M.pure (.int 4)).bind fun d => M.pure (.v d)).bind fun d => (M.pure []).bind fun ds => M.pure (d :: ds)).bind fun ds => M.pure (d :: ds)))) (mFz (mCall 3 (T 1) (((m2 fIx (mVar 0) (M.pure (.int 1))).bind fun d => M.pure (.v d)).bind fun d => (((M.pure (.int 1)).bind fun d => M.pure (.v d)).bind fun d => (((M.pure (.int 2)).bind fun d => M.pure (.v d)).bind fun d => (M.pure []).bind fun ds => M.pure (d :: ds)).bind fun ds => M.pure (d :: ds)).bind fun ds => M.pure (d :: ds)))))))
def b_is_functions (T T' : Nat → Fn) : M Fl := (mSeq (mIf (mOr (mNotB (mTst (m1 (fIsi "dict" cs) (mVar 0)))) (mNotB (mTst (mCh fLe fLe (M.pure (.int 1)) (mN fLen ((mVar 0).bind fun d => (M.pure []).bind fun ds => M.pure (d :: ds))) (M.pure (.int 12)))))) (mRet (M.pure (.bl false))) mNx)
    (mRet (mN fAll ((mCompD 3 .items (sVar 0) (gTupM 2 (fun ds => match ds with | [] => M.bad | d :: ds => ((fun d => mPut 1 (.imm d)) d).bind fun _ => (fun ds => match ds with | [] => M.bad | d :: ds => ((fun d => mPut 2 (.imm d)) d).bind fun _ => (fun ds => match ds with | [] => M.pure () | _ => M.bad) ds) ds)) (M.pure true) (mAndV (mFz (mCall 1 (T 2) (((mVar 1).bind fun d => M.pure (.v d)).bind fun d => (M.pure []).bind fun ds => M.pure (d :: ds)))) (mFz (mCall 1 (T 22) (((mVar 2).bind fun d => M.pure (.v d)).bind fun d => (M.pure []).bind fun ds => M.pure (d :: ds))))) [1, 2]).bind fun d => (M.pure []).bind fun ds => M.pure (d :: ds)))))
def b_methods_fit (T T' : Nat → Fn) : M Fl := (mSeq (mForD .vals (sVar 0) (fun d => mPut 2 (.imm d)) (mForD .vals (sIx (sVar 2) (fun _ => some (.int 3))) (fun d => mPut 3 (.imm d)) (mIf (mOr (mTst (m2 fNotIn (mVar 3) (mVar 1))) (mTst (m2 fEqX (mN fLen ((m2 fIx (m2 fIx (mVar 1) (mVar 3)) (M.pure (.int 0))).bind fun d => (M.pure []).bind fun ds => M.pure (d :: ds))) (M.pure (.int 0))))) (mRet (M.pure (.bl false))) mNx)))
    (mRet (M.pure (.bl true))))
def b_check_program (T T' : Nat → Fn) : M Fl := (mSeq (mIf (mNotB (mTst (mFz (mCall 1 (T 18) (((mVar 0).bind fun d => M.pure (.v d)).bind fun d => (M.pure []).bind fun ds => M.pure (d :: ds)))))) (mRaise1 "BadProgram" "part" (M.pure (.str "shared"))) mNx)
    (mSeq (mIf (mNotB (mTst (mFz (mCall 1 (T 21) (((mVar 1).bind fun d => M.pure (.v d)).bind fun d => (M.pure []).bind fun ds => M.pure (d :: ds)))))) (mRaise1 "BadProgram" "part" (M.pure (.str "classes"))) mNx)
    (mSeq (mIf (mNotB (mTst (mFz (mCall 1 (T 23) (((mVar 2).bind fun d => M.pure (.v d)).bind fun d => (M.pure []).bind fun ds => M.pure (d :: ds)))))) (mRaise1 "BadProgram" "part" (M.pure (.str "functions"))) mNx)
    (mSeq (mIf (mNotB (mTst (mFz (mCall 2 (T 24) (((mVar 1).bind fun d => M.pure (.v d)).bind fun d => (((mVar 2).bind fun d => M.pure (.v d)).bind fun d => (M.pure []).bind fun ds => M.pure (d :: ds)).bind fun ds => M.pure (d :: ds)))))) (mRaise1 "BadProgram" "part" (M.pure (.str "methods"))) mNx)
    (mSeq (mSet 3 (mN fTup ((mVar 0).bind fun d => ((mVar 1).bind fun d => ((mVar 2).bind fun d => (M.pure []).bind fun ds => M.pure (d :: ds)).bind fun ds => M.pure (d :: ds)).bind fun ds => M.pure (d :: ds))))
    (mFor ((mN fSorted ((mVar 2).bind fun d => (M.pure []).bind fun ds => M.pure (d :: ds))).bind fun d => M.of (itD d)) (fun d => mPut 4 (.imm d)) (mIf (mNotB (mTst (mFz (mCall 3 (T 14) (((mVar 3).bind fun d => M.pure (.v d)).bind fun d => (((m2 fIx (m2 fIx (mVar 2) (mVar 4)) (M.pure (.int 2))).bind fun d => M.pure (.v d)).bind fun d => (((M.pure (.int 1)).bind fun d => M.pure (.v d)).bind fun d => (M.pure []).bind fun ds => M.pure (d :: ds)).bind fun ds => M.pure (d :: ds)).bind fun ds => M.pure (d :: ds)))))) (mRaise1 "BadProgram" "part" (m2 fAdd (M.pure (.str "block ")) (mVar 4))) mNx)))))))
def b_gather (T T' : Nat → Fn) : M Fl := (mIf (mTst (m1 (fIsi "str" cs) (mVar 0))) (mPutK 1 (M.pure (.bl true)) (mVar 0)) (mIf (mTst (m1 (fIsi "tuple" cs) (mVar 0))) (mFor ((mVar 0).bind fun d => M.of (itD d)) (fun d => mPut 2 (.imm d)) (mDrop (mFz (mCall 2 (T 26) (((mVar 2).bind fun d => M.pure (.v d)).bind fun d => ((mAg 1).bind fun d => (M.pure []).bind fun ds => M.pure (d :: ds)).bind fun ds => M.pure (d :: ds)))))) mNx))
def b_free_names (T T' : Nat → Fn) : M Fl := (mSeq (mSetO 2 (M.pure (.dct [])))
    (mSeq (mDrop (mFz (mCall 2 (T 26) (((mVar 0).bind fun d => M.pure (.v d)).bind fun d => ((mAg 2).bind fun d => (M.pure []).bind fun ds => M.pure (d :: ds)).bind fun ds => M.pure (d :: ds)))))
    (mSeq (mDrop (mFz (mCall 2 (T 26) (((mVar 1).bind fun d => M.pure (.v d)).bind fun d => ((mAg 2).bind fun d => (M.pure []).bind fun ds => M.pure (d :: ds)).bind fun ds => M.pure (d :: ds)))))
    (mRet (mComp 4 ((M.pure (.str c_LETTERS)).bind fun d => M.of (itD d)) (fun d => mPut 3 (.imm d)) (mTst (m2 fNotIn (m2 fAdd (M.pure (.str "z")) (mVar 3)) (mPk 2))) (m2 fAdd (M.pure (.str "z")) (mVar 3)) [3])))))
def b_plain_statement (T T' : Nat → Fn) : M Fl := (mSeq (mIf (mTst (m2 fEqX (m2 fIx (mVar 0) (M.pure (.int 0))) (M.pure (.str "if")))) (mSeq (mSet 2 (mFz (mCall 2 (T 29) (((m2 fIx (mVar 0) (M.pure (.int 2))).bind fun d => M.pure (.v d)).bind fun d => ((mAg 1).bind fun d => (M.pure []).bind fun ds => M.pure (d :: ds)).bind fun ds => M.pure (d :: ds)))))
    (mRet (mN fLst ((mN fTup ((M.pure (.str "if")).bind fun d => ((m2 fIx (mVar 0) (M.pure (.int 1))).bind fun d => ((mVar 2).bind fun d => ((mFz (mCall 2 (T 29) (((m2 fIx (mVar 0) (M.pure (.int 3))).bind fun d => M.pure (.v d)).bind fun d => ((mAg 1).bind fun d => (M.pure []).bind fun ds => M.pure (d :: ds)).bind fun ds => M.pure (d :: ds)))).bind fun d => (M.pure []).bind fun ds => M.pure (d :: ds)).bind fun ds => M.pure (d :: ds)).bind fun ds => M.pure (d :: ds)).bind fun ds => M.pure (d :: ds))).bind fun d => (M.pure []).bind fun ds => M.pure (d :: ds))))) mNx)
    (mSeq (mIf (mTst (m2 fEqX (m2 fIx (mVar 0) (M.pure (.int 0))) (M.pure (.str "loop")))) (mRet (mN fLst ((mN fTup ((M.pure (.str "loop")).bind fun d => ((m2 fIx (mVar 0) (M.pure (.int 1))).bind fun d => ((mFz (mCall 2 (T 29) (((m2 fIx (mVar 0) (M.pure (.int 2))).bind fun d => M.pure (.v d)).bind fun d => ((mAg 1).bind fun d => (M.pure []).bind fun ds => M.pure (d :: ds)).bind fun ds => M.pure (d :: ds)))).bind fun d => (M.pure []).bind fun ds => M.pure (d :: ds)).bind fun ds => M.pure (d :: ds)).bind fun ds => M.pure (d :: ds))).bind fun d => (M.pure []).bind fun ds => M.pure (d :: ds)))) mNx)
    (mSeq (mIf (mTst (m2 fEqX (m2 fIx (mVar 0) (M.pure (.int 0))) (M.pure (.str "try")))) (mSeq (mSet 2 (mFz (mCall 2 (T 29) (((m2 fIx (mVar 0) (M.pure (.int 1))).bind fun d => M.pure (.v d)).bind fun d => ((mAg 1).bind fun d => (M.pure []).bind fun ds => M.pure (d :: ds)).bind fun ds => M.pure (d :: ds)))))
    (mRet (mN fLst ((mN fTup ((M.pure (.str "try")).bind fun d => ((mVar 2).bind fun d => ((m2 fIx (mVar 0) (M.pure (.int 2))).bind fun d => ((mFz (mCall 2 (T 29) (((m2 fIx (mVar 0) (M.pure (.int 3))).bind fun d => M.pure (.v d)).bind fun d => ((mAg 1).bind fun d => (M.pure []).bind fun ds => M.pure (d :: ds)).bind fun ds => M.pure (d :: ds)))).bind fun d => (M.pure []).bind fun ds => M.pure (d :: ds)).bind fun ds => M.pure (d :: ds)).bind fun ds => M.pure (d :: ds)).bind fun ds => M.pure (d :: ds))).bind fun d => (M.pure []).bind fun ds => M.pure (d :: ds))))) mNx)
    (mSeq (mIf (mTst (m2 fNeX (m2 fIx (mVar 0) (M.pure (.int 0))) (M.pure (.str "last")))) (mRet (mN fLst ((mVar 0).bind fun d => (M.pure []).bind fun ds => M.pure (d :: ds)))) mNx)
    (mSeq (mIf (mTst (m2 fEqX (m1 (fun d => fLen [d]) (mPk 1)) (M.pure (.int 0)))) (mRaise1 "BadProgram" "part" (M.pure (.str "last"))) mNx)
    (mSeq (mSet 3 (mMeth 1 fPop0 ((M.pure (.int 0)).bind fun d => (M.pure []).bind fun ds => M.pure (d :: ds))))
    (mSeq (mSet 2 (mFz (mCall 2 (T 29) (((m2 fIx (mVar 0) (M.pure (.int 1))).bind fun d => M.pure (.v d)).bind fun d => ((mAg 1).bind fun d => (M.pure []).bind fun ds => M.pure (d :: ds)).bind fun ds => M.pure (d :: ds)))))
    (mSeq (mSet 4 (mFz (mCall 2 (T 29) (((m2 fIx (mVar 0) (M.pure (.int 2))).bind fun d => M.pure (.v d)).bind fun d => ((mAg 1).bind fun d => (M.pure []).bind fun ds => M.pure (d :: ds)).bind fun ds => M.pure (d :: ds)))))
    (mRet (mN fLst ((mN fTup ((M.pure (.str "try")).bind fun d => ((mVar 2).bind fun d => ((mVar 3).bind fun d => ((mN fTup ((mVar 4).bind fun d => (M.of (starD d)).bind fun l => ((mN fTup ((M.pure (.str "raise")).bind fun d => ((mVar 3).bind fun d => (M.pure []).bind fun ds => M.pure (d :: ds)).bind fun ds => M.pure (d :: ds))).bind fun d => (M.pure []).bind fun ds => M.pure (d :: ds)).bind fun ds => M.pure (l ++ ds))).bind fun d => (M.pure []).bind fun ds => M.pure (d :: ds)).bind fun ds => M.pure (d :: ds)).bind fun ds => M.pure (d :: ds)).bind fun ds => M.pure (d :: ds))).bind fun d => ((mVar 4).bind fun d => (M.of (starD d)).bind fun l => (M.pure []).bind fun ds => M.pure (l ++ ds)).bind fun ds => M.pure (d :: ds))))))))))))
def b_plain_rows (T T' : Nat → Fn) : M Fl := (mSeq (mSetO 2 (mOLst (M.pure [])))
    (mSeq (mFor ((mVar 0).bind fun d => M.of (itD d)) (fun d => mPut 3 (.imm d)) (mDrop (mMeth 2 fExt ((mFz (mCall 2 (T 28) (((mVar 3).bind fun d => M.pure (.v d)).bind fun d => ((mAg 1).bind fun d => (M.pure []).bind fun ds => M.pure (d :: ds)).bind fun ds => M.pure (d :: ds)))).bind fun d => (M.pure []).bind fun ds => M.pure (d :: ds)))))
    (mFrz 2 (mRet (mN fTupOf ((mVar 2).bind fun d => (M.pure []).bind fun ds => M.pure (d :: ds)))))))
def b_plain_block (T T' : Nat → Fn) : M Fl := (mRet (mFz (mCall 2 (T 29) (((mVar 1).bind fun d => M.pure (.v d)).bind fun d => (((mFz (mCall 2 (T 27) (((mVar 0).bind fun d => M.pure (.v d)).bind fun d => (((mVar 1).bind fun d => M.pure (.v d)).bind fun d => (M.pure []).bind fun ds => M.pure (d :: ds)).bind fun ds => M.pure (d :: ds)))).bind fun d => M.pure (.v d)).bind fun d => (M.pure []).bind fun ds => M.pure (d :: ds)).bind fun ds => M.pure (d :: ds)))))
def b_width (T T' : Nat → Fn) : M Fl := (mSeq (mSet 1 (M.pure (.int 0)))
    (mSeq (mFor ((mVar 0).bind fun d => M.of (itD d)) (fun d => mPut 2 (.imm d)) (mSeq (mAug 1 (M.pure (.int 1)))
    (mFor ((mFz (mCall 1 (T 32) (((mVar 2).bind fun d => M.pure (.v d)).bind fun d => (M.pure []).bind fun ds => M.pure (d :: ds)))).bind fun d => M.of (itD d)) (fun d => mPut 3 (.imm d)) (mAug 1 (mFz (mCall 1 (T 31) (((mVar 3).bind fun d => M.pure (.v d)).bind fun d => (M.pure []).bind fun ds => M.pure (d :: ds))))))))
    (mRet (mVar 1))))
def b_inner_blocks__2 (T T' : Nat → Fn) : M Fl := (mSeq (mIf (mTst (m2 fEqX (m2 fIx (mVar 0) (M.pure (.int 0))) (M.pure (.str "if")))) (mRet (mN fTup ((m2 fIx (mVar 0) (M.pure (.int 2))).bind fun d => ((m2 fIx (mVar 0) (M.pure (.int 3))).bind fun d => (M.pure []).bind fun ds => M.pure (d :: ds)).bind fun ds => M.pure (d :: ds)))) mNx)
    (mSeq (mIf (mTst (m2 fEqX (m2 fIx (mVar 0) (M.pure (.int 0))) (M.pure (.str "loop")))) (mRet (mN fTup ((m2 fIx (mVar 0) (M.pure (.int 2))).bind fun d => (M.pure []).bind fun ds => M.pure (d :: ds)))) mNx)
    (mSeq (mIf (mTst (m2 fEqX (m2 fIx (mVar 0) (M.pure (.int 0))) (M.pure (.str "try")))) (mRet (mN fTup ((m2 fIx (mVar 0) (M.pure (.int 1))).bind fun d => ((m2 fIx (mVar 0) (M.pure (.int 3))).bind fun d => (M.pure []).bind fun ds => M.pure (d :: ds)).bind fun ds => M.pure (d :: ds)))) mNx)
    (mRet (mN fTup (M.pure []))))))
def b_heads_of (T T' : Nat → Fn) : M Fl := (mSeq (mSet 3 (mFz (mCall 1 (T 32) (((mVar 0).bind fun d => M.pure (.v d)).bind fun d => (M.pure []).bind fun ds => M.pure (d :: ds)))))
    (mSeq (mIf (mTst (m2 fEqX (m2 fIx (mVar 0) (M.pure (.int 0))) (M.pure (.str "loop")))) (mSeq (mIf (mTst (m2 fEqX (mN fLen ((m2 fIx (mVar 3) (M.pure (.int 0))).bind fun d => (M.pure []).bind fun ds => M.pure (d :: ds))) (M.pure (.int 0)))) (mRet (mN fTup ((mVar 1).bind fun d => (M.pure []).bind fun ds => M.pure (d :: ds)))) mNx)
    (mRet (mN fTup ((m2 fAdd (mVar 1) (M.pure (.int 1))).bind fun d => (M.pure []).bind fun ds => M.pure (d :: ds))))) mNx)
    (mSeq (mSetO 4 (mOLst (M.pure [])))
    (mSeq (mSet 5 (m2 fAdd (mVar 1) (M.pure (.int 1))))
    (mSeq (mFor ((mVar 3).bind fun d => M.of (itD d)) (fun d => mPut 6 (.imm d)) (mSeq (mIf (mTst (m2 fEqX (mN fLen ((mVar 6).bind fun d => (M.pure []).bind fun ds => M.pure (d :: ds))) (M.pure (.int 0)))) (mDrop (mMeth 4 fApp ((mVar 2).bind fun d => (M.pure []).bind fun ds => M.pure (d :: ds)))) (mDrop (mMeth 4 fApp ((mVar 5).bind fun d => (M.pure []).bind fun ds => M.pure (d :: ds)))))
    (mAug 5 (mFz (mCall 1 (T 31) (((mVar 6).bind fun d => M.pure (.v d)).bind fun d => (M.pure []).bind fun ds => M.pure (d :: ds)))))))
    (mFrz 4 (mRet (mN fTupOf ((mVar 4).bind fun d => (M.pure []).bind fun ds => M.pure (d :: ds))))))))))
def b_lay (T T' : Nat → Fn) : M Fl := (mFor ((mVar 0).bind fun d => M.of (enD d)) (gTupM 2 (fun ds => match ds with | [] => M.bad | d :: ds => ((fun d => mPut 4 (.imm d)) d).bind fun _ => (fun ds => match ds with | [] => M.bad | d :: ds => ((fun d => mPut 5 (.imm d)) d).bind fun _ => (fun ds => match ds with | [] => M.pure () | _ => M.bad) ds) ds)) (mSeq (mSet 6 (m1 (fun d => fLen [d]) (mPk 3)))
    (mSeq (mSet 7 (mVar 1))
    (mSeq (mIf (mTst (m2 fLt (m2 fAdd (mVar 4) (M.pure (.int 1))) (mN fLen ((mVar 0).bind fun d => (M.pure []).bind fun ds => M.pure (d :: ds))))) (mSet 7 (m2 fAdd (mVar 6) (mFz (mCall 1 (T 31) (((mN fTup ((mVar 5).bind fun d => (M.pure []).bind fun ds => M.pure (d :: ds))).bind fun d => M.pure (.v d)).bind fun d => (M.pure []).bind fun ds => M.pure (d :: ds)))))) mNx)
    (mSeq (mDrop (mMeth 3 fApp ((mN fTup ((mVar 5).bind fun d => ((mVar 7).bind fun d => ((mFz (mCall 3 (T 33) (((mVar 5).bind fun d => M.pure (.v d)).bind fun d => (((mVar 6).bind fun d => M.pure (.v d)).bind fun d => (((mVar 7).bind fun d => M.pure (.v d)).bind fun d => (M.pure []).bind fun ds => M.pure (d :: ds)).bind fun ds => M.pure (d :: ds)).bind fun ds => M.pure (d :: ds)))).bind fun d => ((mVar 2).bind fun d => (M.pure []).bind fun ds => M.pure (d :: ds)).bind fun ds => M.pure (d :: ds)).bind fun ds => M.pure (d :: ds)).bind fun ds => M.pure (d :: ds))).bind fun d => (M.pure []).bind fun ds => M.pure (d :: ds))))
    (mIf (mTst (m2 fEqX (m2 fIx (mVar 5) (M.pure (.int 0))) (M.pure (.str "if")))) (mSeq (mDrop (mFz (mCall 4 (T 34) (((m2 fIx (mVar 5) (M.pure (.int 2))).bind fun d => M.pure (.v d)).bind fun d => (((mVar 7).bind fun d => M.pure (.v d)).bind fun d => (((mVar 2).bind fun d => M.pure (.v d)).bind fun d => ((mAg 3).bind fun d => (M.pure []).bind fun ds => M.pure (d :: ds)).bind fun ds => M.pure (d :: ds)).bind fun ds => M.pure (d :: ds)).bind fun ds => M.pure (d :: ds)))))
    (mDrop (mFz (mCall 4 (T 34) (((m2 fIx (mVar 5) (M.pure (.int 3))).bind fun d => M.pure (.v d)).bind fun d => (((mVar 7).bind fun d => M.pure (.v d)).bind fun d => (((mVar 2).bind fun d => M.pure (.v d)).bind fun d => ((mAg 3).bind fun d => (M.pure []).bind fun ds => M.pure (d :: ds)).bind fun ds => M.pure (d :: ds)).bind fun ds => M.pure (d :: ds)).bind fun ds => M.pure (d :: ds)))))) (mIf (mTst (m2 fEqX (m2 fIx (mVar 5) (M.pure (.int 0))) (M.pure (.str "loop")))) (mDrop (mFz (mCall 4 (T 34) (((m2 fIx (mVar 5) (M.pure (.int 2))).bind fun d => M.pure (.v d)).bind fun d => (((mVar 6).bind fun d => M.pure (.v d)).bind fun d => (((mVar 2).bind fun d => M.pure (.v d)).bind fun d => ((mAg 3).bind fun d => (M.pure []).bind fun ds => M.pure (d :: ds)).bind fun ds => M.pure (d :: ds)).bind fun ds => M.pure (d :: ds)).bind fun ds => M.pure (d :: ds))))) (mIf (mTst (m2 fEqX (m2 fIx (mVar 5) (M.pure (.int 0))) (M.pure (.str "try")))) (mSeq (mDrop (mFz (mCall 4 (T 34) (((m2 fIx (mVar 5) (M.pure (.int 1))).bind fun d => M.pure (.v d)).bind fun d => (((mVar 7).bind fun d => M.pure (.v d)).bind fun d => (((mVar 6).bind fun d => M.pure (.v d)).bind fun d => ((mAg 3).bind fun d => (M.pure []).bind fun ds => M.pure (d :: ds)).bind fun ds => M.pure (d :: ds)).bind fun ds => M.pure (d :: ds)).bind fun ds => M.pure (d :: ds)))))
    (mDrop (mFz (mCall 4 (T 34) (((m2 fIx (mVar 5) (M.pure (.int 3))).bind fun d => M.pure (.v d)).bind fun d => (((mVar 7).bind fun d => M.pure (.v d)).bind fun d => (((mVar 2).bind fun d => M.pure (.v d)).bind fun d => ((mAg 3).bind fun d => (M.pure []).bind fun ds => M.pure (d :: ds)).bind fun ds => M.pure (d :: ds)).bind fun ds => M.pure (d :: ds)).bind fun ds => M.pure (d :: ds)))))) mNx))))))))
def b_places_of (T T' : Nat → Fn) : M Fl := (mSeq (mSetO 1 (mOLst (M.pure [])))
    (mSeq (mDrop (mFz (mCall 4 (T 34) (((mVar 0).bind fun d => M.pure (.v d)).bind fun d => (((mFz (mCall 1 (T 31) (((mVar 0).bind fun d => M.pure (.v d)).bind fun d => (M.pure []).bind fun ds => M.pure (d :: ds)))).bind fun d => M.pure (.v d)).bind fun d => (((m1 fNeg (M.pure (.int 1))).bind fun d => M.pure (.v d)).bind fun d => ((mAg 1).bind fun d => (M.pure []).bind fun ds => M.pure (d :: ds)).bind fun ds => M.pure (d :: ds)).bind fun ds => M.pure (d :: ds)).bind fun ds => M.pure (d :: ds)))))
    (mFrz 1 (mRet (mN fTupOf ((mVar 1).bind fun d => (M.pure []).bind fun ds => M.pure (d :: ds)))))))
def b_copied_classes (T T' : Nat → Fn) : M Fl := (mRet (mDCompD 3 .items (sVar 0) (gTupM 2 (fun ds => match ds with | [] => M.bad | d :: ds => ((fun d => mPut 1 (.imm d)) d).bind fun _ => (fun ds => match ds with | [] => M.bad | d :: ds => ((fun d => mPut 2 (.imm d)) d).bind fun _ => (fun ds => match ds with | [] => M.pure () | _ => M.bad) ds) ds)) (M.pure true) (mVar 1) (mN fTup ((m2 fIx (mVar 2) (M.pure (.int 0))).bind fun d => ((m2 fIx (mVar 2) (M.pure (.int 1))).bind fun d => ((m2 fIx (mVar 2) (M.pure (.int 2))).bind fun d => ((mN fDctOf ((m2 fIx (mVar 2) (M.pure (.int 3))).bind fun d => (M.pure []).bind fun ds => M.pure (d :: ds))).bind fun d => (M.pure []).bind fun ds => M.pure (d :: ds)).bind fun ds => M.pure (d :: ds)).bind fun ds => M.pure (d :: ds)).bind fun ds => M.pure (d :: ds))) [1, 2]))
def b_fields_of (T T' : Nat → Fn) : M Fl := (mSeq (mIf (mOr (mNotB (mTst (mFz (mCall 1 (T 2) (((mVar 1).bind fun d => M.pure (.v d)).bind fun d => (M.pure []).bind fun ds => M.pure (d :: ds)))))) (mTst (m2 fNotIn (mVar 1) (m1 (fFld "Program" at_Program "class_rows") (mVar 0))))) (mRaise1 "NoName" "name" (mVar 1)) mNx)
    (mRet (m2 fIx (m1 (fFld "Program" at_Program "all_fields") (mVar 0)) (mVar 1))))
def b_method_of (T T' : Nat → Fn) : M Fl := (mSeq (mIf (mOr (mNotB (mTst (mFz (mCall 1 (T 2) (((mVar 1).bind fun d => M.pure (.v d)).bind fun d => (M.pure []).bind fun ds => M.pure (d :: ds)))))) (mTst (m2 fNotIn (mVar 1) (m1 (fFld "Program" at_Program "class_rows") (mVar 0))))) (mRaise1 "NoName" "name" (mVar 1)) mNx)
    (mSeq (mIf (mNotB (mTst (mFz (mCall 1 (T 2) (((mVar 2).bind fun d => M.pure (.v d)).bind fun d => (M.pure []).bind fun ds => M.pure (d :: ds)))))) (mRet (M.pure .non)) mNx)
    (mRet (m2 fGet (m1 isDD (m2 fIx (m1 (fFld "Program" at_Program "all_methods") (mVar 0)) (mVar 1))) (mVar 2)))))
def b__law_pot (T T' : Nat → Fn) : M Fl := (mSeq (mSetO 2 (mOComp 5 ((mVar 0).bind fun d => M.of (itD d)) (fun d => mPut 3 (.imm d)) (mTst (m2 fGe (mN fAbs ((mVar 3).bind fun d => (M.pure []).bind fun ds => M.pure (d :: ds))) (m2 fPow (M.pure (.int 10)) (M.pure (.int 18))))) (mN fAbs ((mVar 3).bind fun d => (M.pure []).bind fun ds => M.pure (d :: ds))) [3]))
    (mSeq (mSet 4 (M.pure (.int 17)))
    (mSeq (mFor ((mVar 0).bind fun d => M.of (itD d)) (fun d => mPut 3 (.imm d)) (mIf (mTst (m2 fLt (mN fAbs ((mVar 3).bind fun d => (M.pure []).bind fun ds => M.pure (d :: ds))) (m2 fPow (M.pure (.int 10)) (M.pure (.int 18))))) (mSet 4 (m2 fMod (mN fInt ((m2 fAdd (m2 fAdd (m2 fMul (mVar 4) (M.pure (.int 31))) (m2 fMul (mVar 3) (M.pure (.int 48271)))) (M.pure (.int 11))).bind fun d => (M.pure []).bind fun ds => M.pure (d :: ds))) (M.pure (.int 2147483629)))) mNx))
    (mRetO (mPotNew 2 4 1)))))
def b__law_name (T T' : Nat → Fn) : M Fl := (mSeq (mSet 1 (mN fLst ((M.pure (.str "a")).bind fun d => ((M.pure (.str "b")).bind fun d => ((M.pure (.str "x")).bind fun d => ((M.pure (.str "y")).bind fun d => ((M.pure (.str "za")).bind fun d => ((M.pure (.str "zb")).bind fun d => ((M.pure (.str "none")).bind fun d => ((M.pure (.str "word")).bind fun d => ((M.pure (.str "row")).bind fun d => ((M.pure (.str "kept")).bind fun d => ((M.pure (.str "not")).bind fun d => ((M.pure (.str "last")).bind fun d => (M.pure []).bind fun ds => M.pure (d :: ds)).bind fun ds => M.pure (d :: ds)).bind fun ds => M.pure (d :: ds)).bind fun ds => M.pure (d :: ds)).bind fun ds => M.pure (d :: ds)).bind fun ds => M.pure (d :: ds)).bind fun ds => M.pure (d :: ds)).bind fun ds => M.pure (d :: ds)).bind fun ds => M.pure (d :: ds)).bind fun ds => M.pure (d :: ds)).bind fun ds => M.pure (d :: ds)).bind fun ds => M.pure (d :: ds))))
    (mSeq (mSet 2 (mFz (mCall 2 (T 40) ((mAg 0).bind fun d => (((M.pure (.int 16)).bind fun d => M.pure (.v d)).bind fun d => (M.pure []).bind fun ds => M.pure (d :: ds)).bind fun ds => M.pure (d :: ds)))))
    (mSeq (mIf (mTst (m2 fLt (mVar 2) (M.pure (.int 12)))) (mRet (m2 fIx (mVar 1) (mVar 2))) mNx)
    (mSeq (mSet 3 (m2 fIx (mN fLst ((M.pure (.int 1)).bind fun d => ((M.pure (.int 3)).bind fun d => ((M.pure (.int 4)).bind fun d => ((M.pure (.int 5)).bind fun d => ((M.pure (.int 6)).bind fun d => ((M.pure (.int 7)).bind fun d => ((M.pure (.int 8)).bind fun d => ((M.pure (.int 8)).bind fun d => (M.pure []).bind fun ds => M.pure (d :: ds)).bind fun ds => M.pure (d :: ds)).bind fun ds => M.pure (d :: ds)).bind fun ds => M.pure (d :: ds)).bind fun ds => M.pure (d :: ds)).bind fun ds => M.pure (d :: ds)).bind fun ds => M.pure (d :: ds)).bind fun ds => M.pure (d :: ds))) (mFz (mCall 2 (T 40) ((mAg 0).bind fun d => (((M.pure (.int 8)).bind fun d => M.pure (.v d)).bind fun d => (M.pure []).bind fun ds => M.pure (d :: ds)).bind fun ds => M.pure (d :: ds))))))
    (mRet (m2 fJoin (m1 isStD (M.pure (.str ""))) (mComp 5 ((mVar 3).bind fun d => M.of (rng1 d)) (fun d => mPut 4 (.imm d)) (M.pure true) (m2 fIx (M.pure (.str "abcdefghijklmnopqrstuvwxyz")) (mFz (mCall 2 (T 40) ((mAg 0).bind fun d => (((M.pure (.int 26)).bind fun d => M.pure (.v d)).bind fun d => (M.pure []).bind fun ds => M.pure (d :: ds)).bind fun ds => M.pure (d :: ds))))) [4])))))))
def b__law_turned (T T' : Nat → Fn) : M Fl := (mSeq (mIf (mNotB (mTst (m1 (fIsi "dict" cs) (mVar 0)))) (mRet (mVar 0)) mNx)
    (mSeq (mSetO 1 (M.pure (.dct [])))
    (mSeq (mFor ((mN fListAll ((mVar 0).bind fun d => (M.pure []).bind fun ds => M.pure (d :: ds))).bind fun d => M.of (revD d)) (fun d => mPut 2 (.imm d)) (mSeq (mSet 3 (m2 fIx (mVar 0) (mVar 2)))
    (mSeq (mIf (mTst (m1 (fIsi "tuple" cs) (mVar 3))) (mSet 3 (mN fTupOf ((mComp 5 ((mVar 3).bind fun d => M.of (itD d)) (fun d => mPut 4 (.imm d)) (M.pure true) (mFz (mCall 1 (T 42) (((mVar 4).bind fun d => M.pure (.v d)).bind fun d => (M.pure []).bind fun ds => M.pure (d :: ds)))) [4]).bind fun d => (M.pure []).bind fun ds => M.pure (d :: ds)))) mNx)
    (mPutK 1 (mVar 3) (mVar 2)))))
    (mRetO (mTake 1)))))
def b__law_methods (T T' : Nat → Fn) : M Fl := (mSeq (mSetO 1 (M.pure (.dct [])))
    (mSeq (mFor ((mFz (mCall 2 (T 40) ((mAg 0).bind fun d => (((M.pure (.int 3)).bind fun d => M.pure (.v d)).bind fun d => (M.pure []).bind fun ds => M.pure (d :: ds)).bind fun ds => M.pure (d :: ds)))).bind fun d => M.of (rng1 d)) (fun d => mPut 2 (.imm d)) (mSeq (mSet 3 (mFz (mCall 1 (T 41) ((mAg 0).bind fun d => (M.pure []).bind fun ds => M.pure (d :: ds)))))
    (mPutK 1 (m2 fIx (mN fLst ((M.pure (.str "f")).bind fun d => ((M.pure (.str "g")).bind fun d => ((M.pure (.str "h")).bind fun d => (M.pure []).bind fun ds => M.pure (d :: ds)).bind fun ds => M.pure (d :: ds)).bind fun ds => M.pure (d :: ds))) (mFz (mCall 2 (T 40) ((mAg 0).bind fun d => (((M.pure (.int 3)).bind fun d => M.pure (.v d)).bind fun d => (M.pure []).bind fun ds => M.pure (d :: ds)).bind fun ds => M.pure (d :: ds))))) (mVar 3))))
    (mRetO (mTake 1))))
def b__law_classes (T T' : Nat → Fn) : M Fl := (mSeq (mSetO 1 (M.pure (.dct [])))
    (mSeq (mSetO 2 (mOLst (M.pure [])))
    (mSeq (mSetO 3 (M.pure (.dct [])))
    (mSeq (mFor ((mFz (mCall 2 (T 40) ((mAg 0).bind fun d => (((M.pure (.int 7)).bind fun d => M.pure (.v d)).bind fun d => (M.pure []).bind fun ds => M.pure (d :: ds)).bind fun ds => M.pure (d :: ds)))).bind fun d => M.of (rng1 d)) (fun d => mPut 4 (.imm d)) (mSeq (mSet 5 (mFz (mCall 1 (T 41) ((mAg 0).bind fun d => (M.pure []).bind fun ds => M.pure (d :: ds)))))
    (mSeq (mIf (mTst (m2 fIn (mVar 5) (mN fLst ((M.pure (.str "word")).bind fun d => ((M.pure (.str "row")).bind fun d => ((M.pure (.str "kept")).bind fun d => (M.pure []).bind fun ds => M.pure (d :: ds)).bind fun ds => M.pure (d :: ds)).bind fun ds => M.pure (d :: ds))))) (mSet 5 (m2 fAdd (mVar 5) (M.pure (.str "s")))) mNx)
    (mIf (mTst (m2 fNotIn (mVar 5) (mPk 1))) (mSeq (mSet 6 (M.pure .non))
    (mSeq (mSet 7 (mFz (mCall 2 (T 40) ((mAg 0).bind fun d => (((m2 fAdd (m1 (fun d => fLen [d]) (mPk 2)) (M.pure (.int 3))).bind fun d => M.pure (.v d)).bind fun d => (M.pure []).bind fun ds => M.pure (d :: ds)).bind fun ds => M.pure (d :: ds)))))
    (mSeq (mIf (mTst (m2 fLt (mVar 7) (m1 (fun d => fLen [d]) (mPk 2)))) (mSet 6 (mIxO 2 (mVar 7))) (mIf (mAnd (mTst (m2 fEqX (mVar 7) (m1 (fun d => fLen [d]) (mPk 2)))) (mTst (m2 fGt (m1 (fun d => fLen [d]) (mPk 2)) (M.pure (.int 0))))) (mSet 6 (mIxO 2 (m1 fNeg (M.pure (.int 1))))) mNx))
    (mSeq (mSet 8 (mN fTup (M.pure [])))
    (mSeq (mIf (mTst (m2 fNotN (mVar 6) (M.pure .non))) (mSet 8 (mIxO 3 (mVar 6))) mNx)
    (mSeq (mSet 9 (mN fTup (M.pure [])))
    (mSeq (mFor ((mFz (mCall 2 (T 40) ((mAg 0).bind fun d => (((M.pure (.int 4)).bind fun d => M.pure (.v d)).bind fun d => (M.pure []).bind fun ds => M.pure (d :: ds)).bind fun ds => M.pure (d :: ds)))).bind fun d => M.of (rng1 d)) (fun d => mPut 10 (.imm d)) (mSeq (mSet 11 (mFz (mCall 1 (T 41) ((mAg 0).bind fun d => (M.pure []).bind fun ds => M.pure (d :: ds)))))
    (mIf (mAnd (mTst (m2 fNotIn (mVar 11) (mVar 8))) (mAnd (mTst (m2 fNotIn (mVar 11) (mVar 9))) (mTst (m2 fLt (m2 fAdd (mN fLen ((mVar 8).bind fun d => (M.pure []).bind fun ds => M.pure (d :: ds))) (mN fLen ((mVar 9).bind fun d => (M.pure []).bind fun ds => M.pure (d :: ds)))) (M.pure (.int 4)))))) (mSet 9 (m2 fAdd (mVar 9) (mN fTup ((mVar 11).bind fun d => (M.pure []).bind fun ds => M.pure (d :: ds))))) mNx)))
    (mSeq (mDrop (mMeth 2 fApp ((mVar 5).bind fun d => (M.pure []).bind fun ds => M.pure (d :: ds))))
    (mSeq (mPutK 3 (m2 fAdd (mVar 8) (mVar 9)) (mVar 5))
    (mPutK 1 (mN fTup ((mVar 6).bind fun d => ((m2 fAdd (M.pure (.int 1)) (mFz (mCall 2 (T 40) ((mAg 0).bind fun d => (((M.pure (.int 2)).bind fun d => M.pure (.v d)).bind fun d => (M.pure []).bind fun ds => M.pure (d :: ds)).bind fun ds => M.pure (d :: ds))))).bind fun d => ((mVar 9).bind fun d => ((mFz (mCall 1 (T 43) ((mAg 0).bind fun d => (M.pure []).bind fun ds => M.pure (d :: ds)))).bind fun d => (M.pure []).bind fun ds => M.pure (d :: ds)).bind fun ds => M.pure (d :: ds)).bind fun ds => M.pure (d :: ds)).bind fun ds => M.pure (d :: ds))) (mVar 5))))))))))) mNx))))
    (mRetO (mTake 1))))))
def b__law_line (T T' : Nat → Fn) : M Fl := (mSeq (mSetO 2 (mOLst (M.pure [])))
    (mSeq (mFor ((M.pure (.int 7)).bind fun d => M.of (rng1 d)) (fun d => mPut 3 (.imm d)) (mIf (mTst (m2 fNotN (mVar 1) (M.pure .non))) (mSeq (mDrop (mMeth 2 fApp ((mVar 1).bind fun d => (M.pure []).bind fun ds => M.pure (d :: ds))))
    (mSet 1 (m2 fIx (m2 fIx (mVar 0) (mVar 1)) (M.pure (.int 0))))) mNx))
    (mRetO (mTake 2))))
def b__law_refused (T T' : Nat → Fn) : M Fl := (mSeq (mSetO 2 (mOLst (M.pure [])))
    (mSeq (mTryAs 3 m_NoName (mDrop (mFz (mCall 2 (T 37) (((mVar 0).bind fun d => M.pure (.v d)).bind fun d => (((mVar 1).bind fun d => M.pure (.v d)).bind fun d => (M.pure []).bind fun ds => M.pure (d :: ds)).bind fun ds => M.pure (d :: ds))))) (mDrop (mMeth 2 fApp ((mXf 3 "name" x_name).bind fun d => (M.pure []).bind fun ds => M.pure (d :: ds)))))
    (mSeq (mTryAs 3 m_NoName (mDrop (mFz (mCall 3 (T 38) (((mVar 0).bind fun d => M.pure (.v d)).bind fun d => (((mVar 1).bind fun d => M.pure (.v d)).bind fun d => (((M.pure (.str "a")).bind fun d => M.pure (.v d)).bind fun d => (M.pure []).bind fun ds => M.pure (d :: ds)).bind fun ds => M.pure (d :: ds)).bind fun ds => M.pure (d :: ds))))) (mDrop (mMeth 2 fApp ((mXf 3 "name" x_name).bind fun d => (M.pure []).bind fun ds => M.pure (d :: ds)))))
    (mRetO (mTake 2)))))
def b__law_right (T T' : Nat → Fn) : M Fl := (mSeq (mForD .keys (sVar 1) (fun d => mPut 3 (.imm d)) (mSeq (mSet 4 (mFz (mCall 2 (T 45) (((mVar 1).bind fun d => M.pure (.v d)).bind fun d => (((mVar 3).bind fun d => M.pure (.v d)).bind fun d => (M.pure []).bind fun ds => M.pure (d :: ds)).bind fun ds => M.pure (d :: ds)))))
    (mSeq (mSet 5 (mN fTup (M.pure [])))
    (mSeq (mFor ((mVar 4).bind fun d => M.of (itD d)) (fun d => mPut 6 (.imm d)) (mSet 5 (m2 fAdd (m2 fIx (m2 fIx (mVar 1) (mVar 6)) (M.pure (.int 2))) (mVar 5))))
    (mSeq (mSet 7 (mFz (mCall 2 (T 37) (((mVar 0).bind fun d => M.pure (.v d)).bind fun d => (((mVar 3).bind fun d => M.pure (.v d)).bind fun d => (M.pure []).bind fun ds => M.pure (d :: ds)).bind fun ds => M.pure (d :: ds)))))
    (mSeq (mIf (mOr (mNotB (mTst (m1 (fIsi "tuple" cs) (mVar 7)))) (mTst (m2 fNeX (mVar 7) (mVar 5)))) (mRet (M.pure (.bl false))) mNx)
    (mFor ((mVar 2).bind fun d => M.of (itD d)) (fun d => mPut 8 (.imm d)) (mSeq (mSet 9 (mComp 10 ((mVar 4).bind fun d => M.of (itD d)) (fun d => mPut 6 (.imm d)) (mTst (m2 fIn (mVar 8) (m2 fIx (m2 fIx (mVar 1) (mVar 6)) (M.pure (.int 3))))) (mVar 6) [6]))
    (mSeq (mSet 7 (mFz (mCall 3 (T 38) (((mVar 0).bind fun d => M.pure (.v d)).bind fun d => (((mVar 3).bind fun d => M.pure (.v d)).bind fun d => (((mVar 8).bind fun d => M.pure (.v d)).bind fun d => (M.pure []).bind fun ds => M.pure (d :: ds)).bind fun ds => M.pure (d :: ds)).bind fun ds => M.pure (d :: ds)))))
    (mSeq (mIf (mAnd (mTst (m2 fEqX (mN fLen ((mVar 9).bind fun d => (M.pure []).bind fun ds => M.pure (d :: ds))) (M.pure (.int 0)))) (mTst (m2 fNotN (mVar 7) (M.pure .non)))) (mRet (M.pure (.bl false))) mNx)
    (mIf (mAnd (mTst (m2 fGt (mN fLen ((mVar 9).bind fun d => (M.pure []).bind fun ds => M.pure (d :: ds))) (M.pure (.int 0)))) (mOr (mNotB (mTst (m1 (fIsi "str" cs) (mVar 7)))) (mTst (m2 fNeX (mVar 7) (m2 fIx (m2 fIx (m2 fIx (mVar 1) (m2 fIx (mVar 9) (M.pure (.int 0)))) (M.pure (.int 3))) (mVar 8)))))) (mRet (M.pure (.bl false))) mNx)))))))))))
    (mRet (M.pure (.bl true))))
def b_law (T T' : Nat → Fn) : M Fl := (mSeq (mSetO 1 (mCall 2 (T 39) (((mVar 0).bind fun d => M.pure (.v d)).bind fun d => (((M.pure (.int 0)).bind fun d => M.pure (.v d)).bind fun d => (M.pure []).bind fun ds => M.pure (d :: ds)).bind fun ds => M.pure (d :: ds))))
    (mSeq (mSet 2 (mFz (mCall 2 (T 40) ((mAg 1).bind fun d => (((M.pure (.int 2)).bind fun d => M.pure (.v d)).bind fun d => (M.pure []).bind fun ds => M.pure (d :: ds)).bind fun ds => M.pure (d :: ds)))))
    (mSeq (mSet 3 (mDisp ((mN fTup ((mN fTup ((M.pure (.str "a")).bind fun d => (M.pure []).bind fun ds => M.pure (d :: ds))).bind fun d => ((M.pure (.int 1)).bind fun d => ((mN fTup (M.pure [])).bind fun d => (M.pure []).bind fun ds => M.pure (d :: ds)).bind fun ds => M.pure (d :: ds)).bind fun ds => M.pure (d :: ds))).bind fun d => ((mN fTup ((mN fTup ((M.pure (.str "a")).bind fun d => ((M.pure (.str "b")).bind fun d => (M.pure []).bind fun ds => M.pure (d :: ds)).bind fun ds => M.pure (d :: ds))).bind fun d => ((M.pure (.int 2)).bind fun d => ((mN fTup (M.pure [])).bind fun d => (M.pure []).bind fun ds => M.pure (d :: ds)).bind fun ds => M.pure (d :: ds)).bind fun ds => M.pure (d :: ds))).bind fun d => ((mN fTup ((mN fTup ((M.pure (.str "x")).bind fun d => (M.pure []).bind fun ds => M.pure (d :: ds))).bind fun d => ((M.pure (.int 2)).bind fun d => ((mN fTup ((mN fTup ((M.pure (.str "return")).bind fun d => ((M.pure (.str "x")).bind fun d => (M.pure []).bind fun ds => M.pure (d :: ds)).bind fun ds => M.pure (d :: ds))).bind fun d => (M.pure []).bind fun ds => M.pure (d :: ds))).bind fun d => (M.pure []).bind fun ds => M.pure (d :: ds)).bind fun ds => M.pure (d :: ds)).bind fun ds => M.pure (d :: ds))).bind fun d => (M.pure []).bind fun kvs => M.pure ((.inr "h", d) :: kvs)).bind fun kvs => M.pure ((.inr "g", d) :: kvs)).bind fun kvs => M.pure ((.inr "f", d) :: kvs))))
    (mSeq (mSet 4 (mFz (mCall 1 (T 44) ((mAg 1).bind fun d => (M.pure []).bind fun ds => M.pure (d :: ds)))))
    (mSeq (mSet 5 (mFz (mCall 1 (T 44) ((mAg 1).bind fun d => (M.pure []).bind fun ds => M.pure (d :: ds)))))
    (mSeq (mSetO 6 (mOLst ((M.pure (.str "nothing")).bind fun d => (M.pure []).bind fun ds => M.pure (d :: ds))))
    (mSeq (mForD .keys (sVar 4) (fun d => mPut 7 (.imm d)) (mDrop (mMeth 6 fExt ((mN fSorted ((m2 fIx (m2 fIx (mVar 4) (mVar 7)) (M.pure (.int 3))).bind fun d => (M.pure []).bind fun ds => M.pure (d :: ds))).bind fun d => (M.pure []).bind fun ds => M.pure (d :: ds)))))
    (mSeq (mForD .keys (sVar 5) (fun d => mPut 7 (.imm d)) (mDrop (mMeth 6 fExt ((mN fSorted ((m2 fIx (m2 fIx (mVar 5) (mVar 7)) (M.pure (.int 3))).bind fun d => (M.pure []).bind fun ds => M.pure (d :: ds))).bind fun d => (M.pure []).bind fun ds => M.pure (d :: ds)))))
    (mSeq (mIf (mTst (m2 fEqX (mVar 2) (M.pure (.int 1)))) (mSet 4 (mFz (mCall 1 (T 42) (((mVar 4).bind fun d => M.pure (.v d)).bind fun d => (M.pure []).bind fun ds => M.pure (d :: ds))))) mNx)
    (mSeq (mSet 8 (mFzO (mMake "Program" 4 (T' 49) (((M.pure (.dct [])).bind fun d => M.pure (.v d)).bind fun d => (((mVar 4).bind fun d => M.pure (.v d)).bind fun d => (((mVar 3).bind fun d => M.pure (.v d)).bind fun d => (M.pure []).bind fun ds => M.pure (d :: ds)).bind fun ds => M.pure (d :: ds)).bind fun ds => M.pure (d :: ds)))))
    (mSeq (mSet 9 (mFzO (mMake "Program" 4 (T' 49) (((M.pure (.dct [])).bind fun d => M.pure (.v d)).bind fun d => (((mVar 5).bind fun d => M.pure (.v d)).bind fun d => (((mVar 3).bind fun d => M.pure (.v d)).bind fun d => (M.pure []).bind fun ds => M.pure (d :: ds)).bind fun ds => M.pure (d :: ds)).bind fun ds => M.pure (d :: ds)))))
    (mSeq (mFor ((M.pure (.int 2)).bind fun d => M.of (rng1 d)) (fun d => mPut 10 (.imm d)) (mFrz 6 (mIf (mOr (mNotB (mTst (mFz (mCall 3 (T 47) (((mVar 8).bind fun d => M.pure (.v d)).bind fun d => (((mVar 4).bind fun d => M.pure (.v d)).bind fun d => (((mVar 6).bind fun d => M.pure (.v d)).bind fun d => (M.pure []).bind fun ds => M.pure (d :: ds)).bind fun ds => M.pure (d :: ds)).bind fun ds => M.pure (d :: ds)))))) (mNotB (mTst (mFz (mCall 3 (T 47) (((mVar 9).bind fun d => M.pure (.v d)).bind fun d => (((mVar 5).bind fun d => M.pure (.v d)).bind fun d => (((mVar 6).bind fun d => M.pure (.v d)).bind fun d => (M.pure []).bind fun ds => M.pure (d :: ds)).bind fun ds => M.pure (d :: ds)).bind fun ds => M.pure (d :: ds))))))) (mRet (M.pure (.bl false))) mNx)))
    (mSeq (mSetO 11 (mOLst ((M.pure .non).bind fun d => ((M.pure (.bl true)).bind fun d => ((M.pure (.int 0)).bind fun d => ((M.pure (.str "")).bind fun d => ((M.pure (.str "A")).bind fun d => ((M.pure (.str "abcdefghi")).bind fun d => ((M.pure (.str "word")).bind fun d => ((M.pure (.str "f")).bind fun d => ((mN fTup (M.pure [])).bind fun d => ((mN fTup ((M.pure (.str "a")).bind fun d => (M.pure []).bind fun ds => M.pure (d :: ds))).bind fun d => ((mN fLst (M.pure [])).bind fun d => ((M.pure (.dct [])).bind fun d => ((M.pure (.str "nothing")).bind fun d => ((mFz (mCall 1 (T 41) ((mAg 1).bind fun d => (M.pure []).bind fun ds => M.pure (d :: ds)))).bind fun d => (M.pure []).bind fun ds => M.pure (d :: ds)).bind fun ds => M.pure (d :: ds)).bind fun ds => M.pure (d :: ds)).bind fun ds => M.pure (d :: ds)).bind fun ds => M.pure (d :: ds)).bind fun ds => M.pure (d :: ds)).bind fun ds => M.pure (d :: ds)).bind fun ds => M.pure (d :: ds)).bind fun ds => M.pure (d :: ds)).bind fun ds => M.pure (d :: ds)).bind fun ds => M.pure (d :: ds)).bind fun ds => M.pure (d :: ds)).bind fun ds => M.pure (d :: ds)).bind fun ds => M.pure (d :: ds))))
    (mSeq (mDrop (mMeth 11 fExt ((mN fLst ((M.pure (.str "a1")).bind fun d => ((M.pure (.str "a_b")).bind fun d => ((M.pure (.str "1")).bind fun d => ((M.pure (.str "a\n")).bind fun d => ((M.pure (.str "-")).bind fun d => (M.pure []).bind fun ds => M.pure (d :: ds)).bind fun ds => M.pure (d :: ds)).bind fun ds => M.pure (d :: ds)).bind fun ds => M.pure (d :: ds)).bind fun ds => M.pure (d :: ds))).bind fun d => (M.pure []).bind fun ds => M.pure (d :: ds))))
    (mFrz 11 (mSeq (mFor ((mVar 11).bind fun d => M.of (itD d)) (fun d => mPut 12 (.imm d)) (mIf (mAnd (mTst (m1 (fIsi "str" cs) (mVar 12))) (mTst (m2 fIn (mVar 12) (mVar 4)))) (mIf (mTst (m2 fNeX (mFz (mCall 2 (T 46) (((mVar 8).bind fun d => M.pure (.v d)).bind fun d => (((mVar 12).bind fun d => M.pure (.v d)).bind fun d => (M.pure []).bind fun ds => M.pure (d :: ds)).bind fun ds => M.pure (d :: ds)))) (mN fLst (M.pure [])))) (mRet (M.pure (.bl false))) mNx) (mIf (mTst (m2 fNeX (mFz (mCall 2 (T 46) (((mVar 8).bind fun d => M.pure (.v d)).bind fun d => (((mVar 12).bind fun d => M.pure (.v d)).bind fun d => (M.pure []).bind fun ds => M.pure (d :: ds)).bind fun ds => M.pure (d :: ds)))) (mN fLst ((mVar 12).bind fun d => ((mVar 12).bind fun d => (M.pure []).bind fun ds => M.pure (d :: ds)).bind fun ds => M.pure (d :: ds))))) (mRet (M.pure (.bl false))) mNx)))
    (mSeq (mSet 13 (m2 fAdd (mFz (mCall 2 (T 46) (((mVar 8).bind fun d => M.pure (.v d)).bind fun d => (((M.pure (.bl true)).bind fun d => M.pure (.v d)).bind fun d => (M.pure []).bind fun ds => M.pure (d :: ds)).bind fun ds => M.pure (d :: ds)))) (mFz (mCall 2 (T 46) (((mVar 8).bind fun d => M.pure (.v d)).bind fun d => (((M.pure (.int 0)).bind fun d => M.pure (.v d)).bind fun d => (M.pure []).bind fun ds => M.pure (d :: ds)).bind fun ds => M.pure (d :: ds))))))
    (mRet (m2 fEqX (mN fLen ((mComp 14 ((mVar 13).bind fun d => M.of (itD d)) (fun d => mPut 12 (.imm d)) (mTst (m1 (fIsi "bool" cs) (mVar 12))) (mVar 12) [12]).bind fun d => (M.pure []).bind fun ds => M.pure (d :: ds))) (M.pure (.int 2)))))))))))))))))))))
def b_Program_init_ (T T' : Nat → Fn) : M Fl := (mSeq (mDrop (mFz (mCall 3 (T 25) (((mVar 1).bind fun d => M.pure (.v d)).bind fun d => (((mVar 2).bind fun d => M.pure (.v d)).bind fun d => (((mVar 3).bind fun d => M.pure (.v d)).bind fun d => (M.pure []).bind fun ds => M.pure (d :: ds)).bind fun ds => M.pure (d :: ds)).bind fun ds => M.pure (d :: ds)))))
    (mDrop (mFz (mSelf 0 "Program" "fill" 4 (T 50) (((mVar 1).bind fun d => M.pure (.v d)).bind fun d => (((mVar 2).bind fun d => M.pure (.v d)).bind fun d => (((mVar 3).bind fun d => M.pure (.v d)).bind fun d => (M.pure []).bind fun ds => M.pure (d :: ds)).bind fun ds => M.pure (d :: ds)).bind fun ds => M.pure (d :: ds))))))
def b_Program_fill (T T' : Nat → Fn) : M Fl := (mSeq (mFldI 0 "Program" at_Program "shared_words" ((mN fDctOf ((mVar 1).bind fun d => (M.pure []).bind fun ds => M.pure (d :: ds))).bind fun d => M.pure (.imm d)))
    (mSeq (mFldI 0 "Program" at_Program "shared_names" ((mN fTupOf ((mN fSorted ((mVar 1).bind fun d => (M.pure []).bind fun ds => M.pure (d :: ds))).bind fun d => (M.pure []).bind fun ds => M.pure (d :: ds))).bind fun d => M.pure (.imm d)))
    (mSeq (mFldI 0 "Program" at_Program "class_rows" (mCall 1 (T 36) (((mVar 2).bind fun d => M.pure (.v d)).bind fun d => (M.pure []).bind fun ds => M.pure (d :: ds))))
    (mSeq (mFldI 0 "Program" at_Program "function_rows" ((mN fDctOf ((mVar 3).bind fun d => (M.pure []).bind fun ds => M.pure (d :: ds))).bind fun d => M.pure (.imm d)))
    (mSeq (mFldI 0 "Program" at_Program "all_fields" (M.pure (.dct [])))
    (mSeq (mFldI 0 "Program" at_Program "all_methods" (M.pure (.dct [])))
    (mSeq (mForD .keys (sVar 2) (fun d => mPut 4 (.imm d)) (mSeq (mSet 5 (mFz (mCall 2 (T 15) (((mVar 2).bind fun d => M.pure (.v d)).bind fun d => (((mVar 4).bind fun d => M.pure (.v d)).bind fun d => (M.pure []).bind fun ds => M.pure (d :: ds)).bind fun ds => M.pure (d :: ds)))))
    (mSeq (mPutF 0 "Program" at_Program "all_fields" (mFz (mCall 2 (T 16) (((mVar 2).bind fun d => M.pure (.v d)).bind fun d => (((mVar 5).bind fun d => M.pure (.v d)).bind fun d => (M.pure []).bind fun ds => M.pure (d :: ds)).bind fun ds => M.pure (d :: ds)))) (sVar 4))
    (mPutF 0 "Program" at_Program "all_methods" (mFz (mCall 2 (T 17) (((mVar 2).bind fun d => M.pure (.v d)).bind fun d => (((mVar 5).bind fun d => M.pure (.v d)).bind fun d => (M.pure []).bind fun ds => M.pure (d :: ds)).bind fun ds => M.pure (d :: ds)))) (sVar 4)))))
    (mSeq (mFldI 0 "Program" at_Program "plain_blocks" (M.pure (.dct [])))
    (mSeq (mFldI 0 "Program" at_Program "place_rows" (M.pure (.dct [])))
    (mFor ((mN fSorted ((mVar 3).bind fun d => (M.pure []).bind fun ds => M.pure (d :: ds))).bind fun d => M.of (itD d)) (fun d => mPut 4 (.imm d)) (mSeq (mSet 6 (mFz (mCall 2 (T 30) (((m2 fIx (m2 fIx (mVar 3) (mVar 4)) (M.pure (.int 0))).bind fun d => M.pure (.v d)).bind fun d => (((m2 fIx (m2 fIx (mVar 3) (mVar 4)) (M.pure (.int 2))).bind fun d => M.pure (.v d)).bind fun d => (M.pure []).bind fun ds => M.pure (d :: ds)).bind fun ds => M.pure (d :: ds)))))
    (mSeq (mPutF 0 "Program" at_Program "plain_blocks" (mVar 6) (sVar 4))
    (mPutF 0 "Program" at_Program "place_rows" (mFz (mCall 1 (T 35) (((mVar 6).bind fun d => M.pure (.v d)).bind fun d => (M.pure []).bind fun ds => M.pure (d :: ds)))) (sVar 4))))))))))))))
section
variable [XAd]
structure Gs (P : Program) (w : World) (K : PySem.W.Frag) (mg : Str → Option Value) (base : Heap) (j : Nat) (T T' : Nat → Fn) : Prop where
  g_is_integer : GFn P w K mg base "is_integer" 1 (j + 1) (T 0)
  g_is_number : GFn P w K mg base "is_number" 3 (j + 1) (T 1)
  g_is_name : GFn P w K mg base "is_name" 1 (j + 1) (T 2)
  g_is_unlike : GFn P w K mg base "is_unlike" 1 (j + 1) (T 3)
  g_is_names : GFn P w K mg base "is_names" 2 (j + 1) (T 4)
  g_is_words : GFn P w K mg base "is_words" 2 (j + 1) (T 5)
  g_is_expression : GFn P w K mg base "is_expression" 1 (j + 1) (T 6)
  g_is_expressions : GFn P w K mg base "is_expressions" 1 (j + 1) (T 7)
  g_is_test : GFn P w K mg base "is_test" 3 (j + 1) (T 8)
  g_returns : GFn P w K mg base "returns" 1 (j + 1) (T 9)
  g_inner_blocks_blocks : GFn P w K mg base "inner_blocks_blocks" 1 (j + 1) (T 10)
  g_is_known : GFn P w K mg base "is_known" 3 (j + 1) (T 11)
  g_is_part : GFn P w K mg base "is_part" 4 (j + 1) (T 12)
  g_is_statement : GFn P w K mg base "is_statement" 3 (j + 1) (T 13)
  g_is_block : GFn P w K mg base "is_block" 3 (j + 1) (T 14)
  g_class_line : GFn P w K mg base "class_line" 2 (j + 1) (T 15)
  g_fields_by_line : GFn P w K mg base "fields_by_line" 2 (j + 1) (T 16)
  g_methods_by_line : GFn P w K mg base "methods_by_line" 2 (j + 1) (T 17)
  g_is_shared : GFn P w K mg base "is_shared" 1 (j + 1) (T 18)
  g_is_methods : GFn P w K mg base "is_methods" 1 (j + 1) (T 19)
  g_is_class_row : GFn P w K mg base "is_class_row" 2 (j + 1) (T 20)
  g_is_classes : GFn P w K mg base "is_classes" 1 (j + 1) (T 21)
  g_is_function_row : GFn P w K mg base "is_function_row" 1 (j + 1) (T 22)
  g_is_functions : GFn P w K mg base "is_functions" 1 (j + 1) (T 23)
  g_methods_fit : GFn P w K mg base "methods_fit" 2 (j + 1) (T 24)
  g_check_program : GFn P w K mg base "check_program" 3 (j + 1) (T 25)
  g_gather : GFn P w K mg base "gather" 2 (j + 1) (T 26)
  g_free_names : GFn P w K mg base "free_names" 2 (j + 1) (T 27)
  g_plain_statement : GFn P w K mg base "plain_statement" 2 (j + 1) (T 28)
  g_plain_rows : GFn P w K mg base "plain_rows" 2 (j + 1) (T 29)
  g_plain_block : GFn P w K mg base "plain_block" 2 (j + 1) (T 30)
  g_width : GFn P w K mg base "width" 1 (j + 1) (T 31)
  g_inner_blocks_places : GFn P w K mg base "inner_blocks_places" 1 (j + 1) (T 32)
  g_inner_blocks : GFn P w K mg base "inner_blocks" 1 (j + 1) (T 32)
  g_heads_of : GFn P w K mg base "heads_of" 3 (j + 1) (T 33)
  g_lay : GFn P w K mg base "lay" 4 (j + 1) (T 34)
  g_places_of : GFn P w K mg base "places_of" 1 (j + 1) (T 35)
  g_copied_classes : GFn P w K mg base "copied_classes" 1 (j + 1) (T 36)
  g_fields_of : GFn P w K mg base "fields_of" 2 (j + 1) (T 37)
  g_method_of : GFn P w K mg base "method_of" 3 (j + 1) (T 38)
  g__law_pot : GFn P w K mg base "_law_pot" 2 (j + 1) (T 39)
  g__law_take : GFn P w K mg base "_law_take" 2 (j + 1) (T 40)
  g__law_name : GFn P w K mg base "_law_name" 1 (j + 1) (T 41)
  g__law_turned : GFn P w K mg base "_law_turned" 1 (j + 1) (T 42)
  g__law_methods : GFn P w K mg base "_law_methods" 1 (j + 1) (T 43)
  g__law_classes : GFn P w K mg base "_law_classes" 1 (j + 1) (T 44)
  g__law_line : GFn P w K mg base "_law_line" 2 (j + 1) (T 45)
  g__law_refused : GFn P w K mg base "_law_refused" 2 (j + 1) (T 46)
  g__law_right : GFn P w K mg base "_law_right" 3 (j + 1) (T 47)
  g_law : GFn P w K mg base "law" 1 (j + 1) (T 48)
  m_Program_fill : MethF P w K mg base "Program" "fill" 4 (j + 1) (T 50)
  k_Program : MakeF P w K mg base "Program" 4 j (T' 49)
structure Fx (P : Program) (w : World) (K : PySem.W.Frag) (mg : Str → Option Value) (base : Heap) (j : Nat) (T T' : Nat → Fn) : Prop where
  G : Gs P w K mg base j T T'
  hk2 : 2 ≤ j + 1
  b_abs : mg "abs" = none
  b_all : mg "all" = none
  b_any : mg "any" = none
  b_bool : mg "bool" = none
  b_dict : mg "dict" = none
  b_enumerate : mg "enumerate" = none
  b_int : mg "int" = none
  b_isinstance : mg "isinstance" = none
  b_len : mg "len" = none
  b_list : mg "list" = none
  b_range : mg "range" = none
  b_reversed : mg "reversed" = none
  b_set : mg "set" = none
  b_sorted : mg "sorted" = none
  b_str : mg "str" = none
  b_tuple : mg "tuple" = none
  s_LETTERS : ∃ t, mg "LETTERS" = some (.str c_LETTERS t)
  g_KINDS : mg "KINDS" = some (.ref (He.ga K "KINDS"))
  r_KINDS : ∀ B, Rep K B c_KINDS (.ref (He.ga K "KINDS"))
  g_SHAPES : mg "SHAPES" = some (.ref (He.ga K "SHAPES"))
  t_SHAPES : TabK K w "SHAPES" c_SHAPES
  i_ : ∀ c ∈ cs, InsK K c
  a_Program : AtK K "Program" at_Program
  e_BadProgram : ExcF P w K mg base 1 "BadProgram" "part"
  e_NoName : ExcF P w K mg base 1 "NoName" "name"
  m_NoName : ExmK K "NoName" m_NoName
  gm_NoName : mg "NoName" = some (.ref (He.ga K "NoName"))
  x_name : ∀ c ∈ x_name, XfC K (He.ga K c) ∧ PySem.W.findIn K (.ref (He.ga K c)) "name" = some none
variable {P : Program} {w : World} {K : PySem.W.Frag} {mg : Str → Option Value} {base : Heap} {j : Nat} {T T' : Nat → Fn} {fa : Addr} {cdv : Value} {A : Around} {outer : List Env} {s : Shared} {H : Hp} {E : XK}
abbrev n_is_integer : List Str := ["thing"]
theorem d_is_integer (C : CxOk (cxOf (L2.CX P w) P w K mg base n_is_integer "is_integer" (defScope (top 2)) fa cdv A outer s H E) ⟨fun cls d _ H => E cls d H, []⟩ P w K mg base (j + 1)) (f : Fx P w K mg base j T T') : DSs (cxOf (L2.CX P w) P w K mg base n_is_integer "is_integer" (defScope (top 2)) fa cdv A outer s H E) ⟨fun cls d _ H => E cls d H, []⟩ (defBody (top 2)) (b_is_integer T T') := by
  have hN : n_is_integer.Nodup := by decide +kernel
  exact (dss_one (ds_ret (de_and (de_isi "int" cs f.i_ rfl f.b_isinstance rfl f.b_int (dp_of_de (de_var 0))) (de_one (de_not (de_isi "bool" cs f.i_ rfl f.b_isinstance rfl f.b_bool (dp_of_de (de_var 0))))))))
abbrev n_is_number : List Str := ["thing", "low", "high"]
theorem d_is_number (C : CxOk (cxOf (L2.CX P w) P w K mg base n_is_number "is_number" (defScope (top 3)) fa cdv A outer s H E) ⟨fun cls d _ H => E cls d H, []⟩ P w K mg base (j + 1)) (f : Fx P w K mg base j T T') : DSs (cxOf (L2.CX P w) P w K mg base n_is_number "is_number" (defScope (top 3)) fa cdv A outer s H E) ⟨fun cls d _ H => E cls d H, []⟩ (defBody (top 3)) (b_is_number T T') := by
  have hN : n_is_number.Nodup := by decide +kernel
  exact (dss_one (ds_ret (de_and (de_fz (do_call C f.G.g_is_integer (Nat.le_refl _) (dag_cons (ag_de (de_var 0)) dag_nil))) (de_one (de_chain op_le op_le o_le o_le (de_var 1) (de_var 0) (de_var 2))))))
abbrev n_is_name : List Str := ["thing", "sign"]
theorem d_is_name (C : CxOk (cxOf (L2.CX P w) P w K mg base n_is_name "is_name" (defScope (top 4)) fa cdv A outer s H E) ⟨fun cls d _ H => E cls d H, []⟩ P w K mg base (j + 1)) (f : Fx P w K mg base j T T') : DSs (cxOf (L2.CX P w) P w K mg base n_is_name "is_name" (defScope (top 4)) fa cdv A outer s H E) ⟨fun cls d _ H => E cls d H, []⟩ (defBody (top 4)) (b_is_name T T') := by
  have hN : n_is_name.Nodup := by decide +kernel
  exact (dss_cons (ds_if (dt_w (dw_or (dt_not (dt_of_de (de_isi "str" cs f.i_ rfl f.b_isinstance rfl f.b_str (dp_of_de (de_var 0))))) (dw_or1 (dt_not (dt_chain op_le op_le o_le o_le de_int (de_callB cr_len o_len rfl f.b_len bt_len (da_cons (de_var 0) da_nil)) de_int))))) (dss_one (ds_ret de_bl)) dss_nil)
    (dss_one (ds_ret (de_callB (cr_all (CxOk.calm C)) o_all rfl f.b_all bt_all (da_cons (de_comp (n := 2) (own := [("sign", 1)]) (CxOk.calm C) hN (di_seq (de_var 0)) (by rfl) (fun s H Cc cl fp => (dg_name 1 hN)) (fun s H Cc cl fp => dts_nil) (fun s H Cc cl fp => (de_cmp (op_inAll (CxOk.hu1 (CxOk.blk (n := 2) (vs := [1]) C))) o_in (de_var 1) (de_gstr f.s_LETTERS)))) da_nil)))))
abbrev n_is_unlike : List Str := ["row"]
theorem d_is_unlike (C : CxOk (cxOf (L2.CX P w) P w K mg base n_is_unlike "is_unlike" (defScope (top 5)) fa cdv A outer s H E) ⟨fun cls d _ H => E cls d H, []⟩ P w K mg base (j + 1)) (f : Fx P w K mg base j T T') : DSs (cxOf (L2.CX P w) P w K mg base n_is_unlike "is_unlike" (defScope (top 5)) fa cdv A outer s H E) ⟨fun cls d _ H => E cls d H, []⟩ (defBody (top 5)) (b_is_unlike T T') := by
  have hN : n_is_unlike.Nodup := by decide +kernel
  exact (dss_one (ds_ret (de_cmp (op_eqX (CxOk.hu64 C)) o_eqX (de_setLen (CxOk.calm C) rfl f.b_len rfl f.b_set (de_var 0)) (de_callB cr_len o_len rfl f.b_len bt_len (da_cons (de_var 0) da_nil)))))
abbrev n_is_names : List Str := ["thing", "most", "name"]
theorem d_is_names (C : CxOk (cxOf (L2.CX P w) P w K mg base n_is_names "is_names" (defScope (top 6)) fa cdv A outer s H E) ⟨fun cls d _ H => E cls d H, []⟩ P w K mg base (j + 1)) (f : Fx P w K mg base j T T') : DSs (cxOf (L2.CX P w) P w K mg base n_is_names "is_names" (defScope (top 6)) fa cdv A outer s H E) ⟨fun cls d _ H => E cls d H, []⟩ (defBody (top 6)) (b_is_names T T') := by
  have hN : n_is_names.Nodup := by decide +kernel
  exact (dss_cons (ds_if (dt_w (dw_or (dt_not (dt_of_de (de_isi "tuple" cs f.i_ rfl f.b_isinstance rfl f.b_tuple (dp_of_de (de_var 0))))) (dw_or1 (dt_cmp op_gt o_gt (de_callB cr_len o_len rfl f.b_len bt_len (da_cons (de_var 0) da_nil)) (de_var 1))))) (dss_one (ds_ret de_bl)) dss_nil)
    (dss_one (ds_ret (de_and (de_callB (cr_all (CxOk.calm C)) o_all rfl f.b_all bt_all (da_cons (de_comp (n := 3) (own := [("name", 2)]) (CxOk.calm C) hN (di_seq (de_var 0)) (by rfl) (fun s H Cc cl fp => (dg_name 2 hN)) (fun s H Cc cl fp => dts_nil) (fun s H Cc cl fp => (de_fz (do_call (CxOk.blk (n := 3) (vs := [2]) C) f.G.g_is_name (Nat.le_refl _) (dag_cons (ag_de (de_var 2)) dag_nil))))) da_nil)) (de_one (de_fz (do_call C f.G.g_is_unlike (Nat.le_refl _) (dag_cons (ag_de (de_var 0)) dag_nil))))))))
abbrev n_is_words : List Str := ["thing", "most", "word"]
theorem d_is_words (C : CxOk (cxOf (L2.CX P w) P w K mg base n_is_words "is_words" (defScope (top 7)) fa cdv A outer s H E) ⟨fun cls d _ H => E cls d H, []⟩ P w K mg base (j + 1)) (f : Fx P w K mg base j T T') : DSs (cxOf (L2.CX P w) P w K mg base n_is_words "is_words" (defScope (top 7)) fa cdv A outer s H E) ⟨fun cls d _ H => E cls d H, []⟩ (defBody (top 7)) (b_is_words T T') := by
  have hN : n_is_words.Nodup := by decide +kernel
  exact (dss_cons (ds_if (dt_w (dw_or (dt_not (dt_of_de (de_isi "tuple" cs f.i_ rfl f.b_isinstance rfl f.b_tuple (dp_of_de (de_var 0))))) (dw_or1 (dt_cmp op_gt o_gt (de_callB cr_len o_len rfl f.b_len bt_len (da_cons (de_var 0) da_nil)) (de_var 1))))) (dss_one (ds_ret de_bl)) dss_nil)
    (dss_one (ds_ret (de_callB (cr_all (CxOk.calm C)) o_all rfl f.b_all bt_all (da_cons (de_comp (n := 3) (own := [("word", 2)]) (CxOk.calm C) hN (di_seq (de_var 0)) (by rfl) (fun s H Cc cl fp => (dg_name 2 hN)) (fun s H Cc cl fp => dts_nil) (fun s H Cc cl fp => (de_fz (do_call (CxOk.blk (n := 3) (vs := [2]) C) f.G.g_is_name (Nat.le_refl _) (dag_cons (ag_de (de_var 2)) dag_nil))))) da_nil)))))
abbrev n_is_expression : List Str := ["thing"]
theorem d_is_expression (C : CxOk (cxOf (L2.CX P w) P w K mg base n_is_expression "is_expression" (defScope (top 11)) fa cdv A outer s H E) ⟨fun cls d _ H => E cls d H, []⟩ P w K mg base (j + 1)) (f : Fx P w K mg base j T T') : DSs (cxOf (L2.CX P w) P w K mg base n_is_expression "is_expression" (defScope (top 11)) fa cdv A outer s H E) ⟨fun cls d _ H => E cls d H, []⟩ (defBody (top 11)) (b_is_expression T T') := by
  have hN : n_is_expression.Nodup := by decide +kernel
  exact (dss_cons (ds_if (dt_of_de (de_fz (do_call C f.G.g_is_name (Nat.le_refl _) (dag_cons (ag_de (de_var 0)) dag_nil)))) (dss_one (ds_ret de_bl)) dss_nil)
    (dss_one (ds_ret (de_and (de_fz (do_call C f.G.g_is_words (Nat.le_refl _) (dag_cons (ag_de (de_var 0)) (dag_cons (ag_de de_int) dag_nil)))) (de_one (de_cmp (op_eqX (CxOk.hu64 C)) o_eqX (de_callB cr_len o_len rfl f.b_len bt_len (da_cons (de_var 0) da_nil)) de_int))))))
abbrev n_is_expressions : List Str := ["thing", "part"]
theorem d_is_expressions (C : CxOk (cxOf (L2.CX P w) P w K mg base n_is_expressions "is_expressions" (defScope (top 12)) fa cdv A outer s H E) ⟨fun cls d _ H => E cls d H, []⟩ P w K mg base (j + 1)) (f : Fx P w K mg base j T T') : DSs (cxOf (L2.CX P w) P w K mg base n_is_expressions "is_expressions" (defScope (top 12)) fa cdv A outer s H E) ⟨fun cls d _ H => E cls d H, []⟩ (defBody (top 12)) (b_is_expressions T T') := by
  have hN : n_is_expressions.Nodup := by decide +kernel
  exact (dss_cons (ds_if (dt_w (dw_or (dt_not (dt_of_de (de_isi "tuple" cs f.i_ rfl f.b_isinstance rfl f.b_tuple (dp_of_de (de_var 0))))) (dw_or1 (dt_cmp op_gt o_gt (de_callB cr_len o_len rfl f.b_len bt_len (da_cons (de_var 0) da_nil)) de_int)))) (dss_one (ds_ret de_bl)) dss_nil)
    (dss_one (ds_ret (de_callB (cr_all (CxOk.calm C)) o_all rfl f.b_all bt_all (da_cons (de_comp (n := 2) (own := [("part", 1)]) (CxOk.calm C) hN (di_seq (de_var 0)) (by rfl) (fun s H Cc cl fp => (dg_name 1 hN)) (fun s H Cc cl fp => dts_nil) (fun s H Cc cl fp => (de_fz (do_call (CxOk.blk (n := 2) (vs := [1]) C) f.G.g_is_expression (Nat.le_refl _) (dag_cons (ag_de (de_var 1)) dag_nil))))) da_nil)))))
abbrev n_is_test : List Str := ["classes", "thing", "nots"]
theorem d_is_test (C : CxOk (cxOf (L2.CX P w) P w K mg base n_is_test "is_test" (defScope (top 13)) fa cdv A outer s H E) ⟨fun cls d _ H => E cls d H, []⟩ P w K mg base (j + 1)) (f : Fx P w K mg base j T T') : DSs (cxOf (L2.CX P w) P w K mg base n_is_test "is_test" (defScope (top 13)) fa cdv A outer s H E) ⟨fun cls d _ H => E cls d H, []⟩ (defBody (top 13)) (b_is_test T T') := by
  have hN : n_is_test.Nodup := by decide +kernel
  exact (dss_cons (ds_if (dt_w (dw_or (dt_not (dt_of_de (de_isi "tuple" cs f.i_ rfl f.b_isinstance rfl f.b_tuple (dp_of_de (de_var 1))))) (dw_or1 (dt_cmp op_lt o_lt (de_callB cr_len o_len rfl f.b_len bt_len (da_cons (de_var 1) da_nil)) de_int)))) (dss_one (ds_ret de_bl)) dss_nil)
    (dss_cons (ds_if (dt_w (dw_and (dt_cmp (op_eqX (CxOk.hu64 C)) o_eqX (de_ix (ix_all (CxOk.hu1 C)) o_ix (de_var 1) de_int) de_str) (dw_and1 (dt_cmp (op_eqX (CxOk.hu64 C)) o_eqX (de_callB cr_len o_len rfl f.b_len bt_len (da_cons (de_var 1) da_nil)) de_int)))) (dss_one (ds_ret (de_and (de_cmp op_gt o_gt (de_var 2) de_int) (de_one (de_fz (do_call C f.G.g_is_test (Nat.le_refl _) (dag_cons (ag_de (de_var 0)) (dag_cons (ag_de (de_ix (ix_all (CxOk.hu1 C)) o_ix (de_var 1) de_int)) (dag_cons (ag_de (de_op op_sub o_sub (de_var 2) de_int)) dag_nil))))))))) dss_nil)
    (dss_cons (ds_if (dt_w (dw_or (dt_cmp (op_neX (CxOk.hu64 C)) o_neX (de_callB cr_len o_len rfl f.b_len bt_len (da_cons (de_var 1) da_nil)) de_int) (dw_or1 (dt_not (dt_of_de (de_fz (do_call C f.G.g_is_expression (Nat.le_refl _) (dag_cons (ag_de (de_ix (ix_all (CxOk.hu1 C)) o_ix (de_var 1) de_int)) dag_nil)))))))) (dss_one (ds_ret de_bl)) dss_nil)
    (dss_cons (ds_if (dt_cmp (op_eqX (CxOk.hu64 C)) o_eqX (de_ix (ix_all (CxOk.hu1 C)) o_ix (de_var 1) de_int) de_str) (dss_one (ds_ret (de_fz (do_call C f.G.g_is_expression (Nat.le_refl _) (dag_cons (ag_de (de_ix (ix_all (CxOk.hu1 C)) o_ix (de_var 1) de_int)) dag_nil))))) dss_nil)
    (dss_cons (ds_if (dt_w (dw_or (dt_cmp (op_neX (CxOk.hu64 C)) o_neX (de_ix (ix_all (CxOk.hu1 C)) o_ix (de_var 1) de_int) de_str) (dw_or1 (dt_not (dt_of_de (de_fz (do_call C f.G.g_is_name (Nat.le_refl _) (dag_cons (ag_de (de_ix (ix_all (CxOk.hu1 C)) o_ix (de_var 1) de_int)) dag_nil)))))))) (dss_one (ds_ret de_bl)) dss_nil)
    (dss_one (ds_ret (de_or (de_cmp (op_inAll (CxOk.hu1 C)) o_in (de_ix (ix_all (CxOk.hu1 C)) o_ix (de_var 1) de_int) (de_gref f.g_KINDS f.r_KINDS)) (de_one (de_cmp (op_inAll (CxOk.hu1 C)) o_in (de_ix (ix_all (CxOk.hu1 C)) o_ix (de_var 1) de_int) (de_var 0)))))))))))
abbrev n_returns : List Str := ["block", "statement", "inner"]
theorem d_returns (C : CxOk (cxOf (L2.CX P w) P w K mg base n_returns "returns" (defScope (top 14)) fa cdv A outer s H E) ⟨fun cls d _ H => E cls d H, []⟩ P w K mg base (j + 1)) (f : Fx P w K mg base j T T') : DSs (cxOf (L2.CX P w) P w K mg base n_returns "returns" (defScope (top 14)) fa cdv A outer s H E) ⟨fun cls d _ H => E cls d H, []⟩ (defBody (top 14)) (b_returns T T') := by
  have hN : n_returns.Nodup := by decide +kernel
  exact (dss_cons (ds_for PassesOwn.leaving (CxOk.calm C) (di_seq (de_var 0)) (dg_name 1 hN (hp := (by decide : (1 : Nat) ∉ ([] : List Nat)))) (dss_cons (ds_if (dt_cmp (op_eqX (CxOk.hu64 C)) o_eqX (de_ix (ix_all (CxOk.hu1 C)) o_ix (de_var 1) de_int) de_str) (dss_one (ds_ret de_bl)) dss_nil)
    (dss_one (ds_if (dt_of_de (de_callB (cr_any (CxOk.calm C)) o_any rfl f.b_any bt_any (da_cons (de_comp (n := 3) (own := [("inner", 2)]) (CxOk.calm C) hN (di_seq (de_fz (do_call C f.G.g_inner_blocks_blocks (Nat.le_refl _) (dag_cons (ag_de (de_var 1)) dag_nil)))) (by rfl) (fun s H Cc cl fp => (dg_name 2 hN)) (fun s H Cc cl fp => dts_nil) (fun s H Cc cl fp => (de_fz (do_call (CxOk.blk (n := 3) (vs := [2]) C) f.G.g_returns (Nat.le_refl _) (dag_cons (ag_de (de_var 2)) dag_nil))))) da_nil))) (dss_one (ds_ret de_bl)) dss_nil))))
    (dss_one (ds_ret de_bl)))
abbrev n_inner_blocks : List Str := ["statement"]
theorem d_inner_blocks (C : CxOk (cxOf (L2.CX P w) P w K mg base n_inner_blocks "inner_blocks" (defScope (top 15)) fa cdv A outer s H E) ⟨fun cls d _ H => E cls d H, []⟩ P w K mg base (j + 1)) (f : Fx P w K mg base j T T') : DSs (cxOf (L2.CX P w) P w K mg base n_inner_blocks "inner_blocks" (defScope (top 15)) fa cdv A outer s H E) ⟨fun cls d _ H => E cls d H, []⟩ (defBody (top 15)) (b_inner_blocks T T') := by
  have hN : n_inner_blocks.Nodup := by decide +kernel
  exact (dss_cons (ds_if (dt_cmp (op_eqX (CxOk.hu64 C)) o_eqX (de_ix (ix_all (CxOk.hu1 C)) o_ix (de_var 0) de_int) de_str) (dss_one (ds_ret (de_lst (da_cons (de_ix (ix_all (CxOk.hu1 C)) o_ix (de_var 0) de_int) (da_cons (de_ix (ix_all (CxOk.hu1 C)) o_ix (de_var 0) de_int) da_nil))))) dss_nil)
    (dss_cons (ds_if (dt_cmp (op_eqX (CxOk.hu64 C)) o_eqX (de_ix (ix_all (CxOk.hu1 C)) o_ix (de_var 0) de_int) de_str) (dss_one (ds_ret (de_lst (da_cons (de_ix (ix_all (CxOk.hu1 C)) o_ix (de_var 0) de_int) da_nil)))) dss_nil)
    (dss_cons (ds_if (dt_cmp (op_eqX (CxOk.hu64 C)) o_eqX (de_ix (ix_all (CxOk.hu1 C)) o_ix (de_var 0) de_int) de_str) (dss_one (ds_ret (de_lst (da_cons (de_ix (ix_all (CxOk.hu1 C)) o_ix (de_var 0) de_int) (da_cons (de_ix (ix_all (CxOk.hu1 C)) o_ix (de_var 0) de_int) da_nil))))) dss_nil)
    (dss_cons (ds_if (dt_cmp (op_eqX (CxOk.hu64 C)) o_eqX (de_ix (ix_all (CxOk.hu1 C)) o_ix (de_var 0) de_int) de_str) (dss_one (ds_ret (de_lst (da_cons (de_ix (ix_all (CxOk.hu1 C)) o_ix (de_var 0) de_int) (da_cons (de_ix (ix_all (CxOk.hu1 C)) o_ix (de_var 0) de_int) da_nil))))) dss_nil)
    (dss_one (ds_ret (de_lst da_nil)))))))
abbrev n_is_known : List Str := ["known", "kind", "part"]
theorem d_is_known (C : CxOk (cxOf (L2.CX P w) P w K mg base n_is_known "is_known" (defScope (top 17)) fa cdv A outer s H E) ⟨fun cls d _ H => E cls d H, []⟩ P w K mg base (j + 1)) (f : Fx P w K mg base j T T') : DSs (cxOf (L2.CX P w) P w K mg base n_is_known "is_known" (defScope (top 17)) fa cdv A outer s H E) ⟨fun cls d _ H => E cls d H, []⟩ (defBody (top 17)) (b_is_known T T') := by
  have hN : n_is_known.Nodup := by decide +kernel
  exact (dss_cons (ds_if (dt_not (dt_of_de (de_fz (do_call C f.G.g_is_name (Nat.le_refl _) (dag_cons (ag_de (de_var 2)) dag_nil))))) (dss_one (ds_ret de_bl)) dss_nil)
    (dss_cons (ds_if (dt_cmp (op_eqX (CxOk.hu64 C)) o_eqX (de_var 1) de_str) (dss_one (ds_ret (de_cmp (op_inAll (CxOk.hu1 C)) o_in (de_var 2) (de_ix (ix_all (CxOk.hu1 C)) o_ix (de_var 0) de_int)))) dss_nil)
    (dss_cons (ds_if (dt_cmp (op_eqX (CxOk.hu64 C)) o_eqX (de_var 1) de_str) (dss_one (ds_ret (de_cmp (op_inAll (CxOk.hu1 C)) o_in (de_var 2) (de_ix (ix_all (CxOk.hu1 C)) o_ix (de_var 0) de_int)))) dss_nil)
    (dss_cons (ds_if (dt_cmp (op_eqX (CxOk.hu64 C)) o_eqX (de_var 1) de_str) (dss_one (ds_ret (de_cmp (op_inAll (CxOk.hu1 C)) o_in (de_var 2) (de_ix (ix_all (CxOk.hu1 C)) o_ix (de_var 0) de_int)))) dss_nil)
    (dss_one (ds_ret de_bl))))))
abbrev n_is_part : List Str := ["known", "kind", "part", "depth"]
theorem d_is_part (C : CxOk (cxOf (L2.CX P w) P w K mg base n_is_part "is_part" (defScope (top 18)) fa cdv A outer s H E) ⟨fun cls d _ H => E cls d H, []⟩ P w K mg base (j + 1)) (f : Fx P w K mg base j T T') : DSs (cxOf (L2.CX P w) P w K mg base n_is_part "is_part" (defScope (top 18)) fa cdv A outer s H E) ⟨fun cls d _ H => E cls d H, []⟩ (defBody (top 18)) (b_is_part T T') := by
  have hN : n_is_part.Nodup := by decide +kernel
  exact (dss_cons (ds_if (dt_cmp (op_eqX (CxOk.hu64 C)) o_eqX (de_var 1) de_str) (dss_one (ds_ret (de_fz (do_call C f.G.g_is_block (Nat.le_refl _) (dag_cons (ag_de (de_var 0)) (dag_cons (ag_de (de_var 2)) (dag_cons (ag_de (de_op op_addAll o_add (de_var 3) de_int)) dag_nil))))))) dss_nil)
    (dss_cons (ds_if (dt_cmp (op_eqX (CxOk.hu64 C)) o_eqX (de_var 1) de_str) (dss_one (ds_ret (de_and (de_fz (do_call C f.G.g_is_block (Nat.le_refl _) (dag_cons (ag_de (de_var 0)) (dag_cons (ag_de (de_var 2)) (dag_cons (ag_de (de_op op_addAll o_add (de_var 3) de_int)) dag_nil))))) (de_one (de_not (de_fz (do_call C f.G.g_returns (Nat.le_refl _) (dag_cons (ag_de (de_var 2)) dag_nil)))))))) dss_nil)
    (dss_cons (ds_if (dt_cmp (op_eqX (CxOk.hu64 C)) o_eqX (de_var 1) de_str) (dss_one (ds_ret (de_fz (do_call C f.G.g_is_expression (Nat.le_refl _) (dag_cons (ag_de (de_var 2)) dag_nil))))) dss_nil)
    (dss_cons (ds_if (dt_cmp (op_eqX (CxOk.hu64 C)) o_eqX (de_var 1) de_str) (dss_one (ds_ret (de_fz (do_call C f.G.g_is_expressions (Nat.le_refl _) (dag_cons (ag_de (de_var 2)) dag_nil))))) dss_nil)
    (dss_cons (ds_if (dt_cmp (op_eqX (CxOk.hu64 C)) o_eqX (de_var 1) de_str) (dss_one (ds_ret (de_fz (do_call C f.G.g_is_test (Nat.le_refl _) (dag_cons (ag_de (de_ix (ix_all (CxOk.hu1 C)) o_ix (de_var 0) de_int)) (dag_cons (ag_de (de_var 2)) (dag_cons (ag_de de_int) dag_nil))))))) dss_nil)
    (dss_cons (ds_if (dt_cmp (op_eqX (CxOk.hu64 C)) o_eqX (de_var 1) de_str) (dss_one (ds_ret (de_and (de_fz (do_call C f.G.g_is_names (Nat.le_refl _) (dag_cons (ag_de (de_var 2)) (dag_cons (ag_de de_int) dag_nil)))) (de_one (de_cmp op_ge o_ge (de_callB cr_len o_len rfl f.b_len bt_len (da_cons (de_var 2) da_nil)) de_int))))) dss_nil)
    (dss_cons (ds_if (dt_cmp (op_eqX (CxOk.hu64 C)) o_eqX (de_var 1) de_str) (dss_one (ds_ret (de_fz (do_call C f.G.g_is_number (Nat.le_refl _) (dag_cons (ag_de (de_var 2)) (dag_cons (ag_de de_int) (dag_cons (ag_de de_int) dag_nil))))))) dss_nil)
    (dss_one (ds_ret (de_fz (do_call C f.G.g_is_known (Nat.le_refl _) (dag_cons (ag_de (de_var 0)) (dag_cons (ag_de (de_var 1)) (dag_cons (ag_de (de_var 2)) dag_nil))))))))))))))
abbrev n_is_statement : List Str := ["known", "thing", "depth", "shape", "at", "kind"]
theorem d_is_statement (C : CxOk (cxOf (L2.CX P w) P w K mg base n_is_statement "is_statement" (defScope (top 19)) fa cdv A outer s H E) ⟨fun cls d _ H => E cls d H, []⟩ P w K mg base (j + 1)) (f : Fx P w K mg base j T T') : DSs (cxOf (L2.CX P w) P w K mg base n_is_statement "is_statement" (defScope (top 19)) fa cdv A outer s H E) ⟨fun cls d _ H => E cls d H, []⟩ (defBody (top 19)) (b_is_statement T T') := by
  have hN : n_is_statement.Nodup := by decide +kernel
  exact (dss_cons (ds_if (dt_w (dw_or (dt_not (dt_of_de (de_isi "tuple" cs f.i_ rfl f.b_isinstance rfl f.b_tuple (dp_of_de (de_var 1))))) (dw_or (dt_cmp op_lt o_lt (de_callB cr_len o_len rfl f.b_len bt_len (da_cons (de_var 1) da_nil)) de_int) (dw_or1 (dt_not (dt_of_de (de_fz (do_call C f.G.g_is_name (Nat.le_refl _) (dag_cons (ag_de (de_ix (ix_all (CxOk.hu1 C)) o_ix (de_var 1) de_int)) dag_nil))))))))) (dss_one (ds_ret de_bl)) dss_nil)
    (dss_cons (ds_if (dt_notInTb f.t_SHAPES f.g_SHAPES (de_ix (ix_all (CxOk.hu1 C)) o_ix (de_var 1) de_int)) (dss_one (ds_ret de_bl)) dss_nil)
    (dss_cons (ds_set 3 hN (de_ixTb f.t_SHAPES f.g_SHAPES (de_ix (ix_all (CxOk.hu1 C)) o_ix (de_var 1) de_int)) (hp := (by decide : (3 : Nat) ∉ ([] : List Nat))))
    (dss_cons (ds_if (dt_cmp (op_neX (CxOk.hu64 C)) o_neX (de_callB cr_len o_len rfl f.b_len bt_len (da_cons (de_var 1) da_nil)) (de_op op_addAll o_add (de_callB cr_len o_len rfl f.b_len bt_len (da_cons (de_var 3) da_nil)) de_int)) (dss_one (ds_ret de_bl)) dss_nil)
    (dss_cons (ds_for PassesOwn.leaving (CxOk.calm C) (di_enum (de_var 3) rfl f.b_enumerate) (dg_tup (CxOk.calm C) (dgs_cons (dg_name 4 hN (hp := (by decide : (4 : Nat) ∉ ([] : List Nat)))) (dgs_cons (dg_name 5 hN (hp := (by decide : (5 : Nat) ∉ ([] : List Nat)))) dgs_nil))) (dss_one (ds_if (dt_not (dt_of_de (de_fz (do_call C f.G.g_is_part (Nat.le_refl _) (dag_cons (ag_de (de_var 0)) (dag_cons (ag_de (de_var 5)) (dag_cons (ag_de (de_ix (ix_all (CxOk.hu1 C)) o_ix (de_var 1) (de_op op_addAll o_add (de_var 4) de_int))) (dag_cons (ag_de (de_var 2)) dag_nil)))))))) (dss_one (ds_ret de_bl)) dss_nil)))
    (dss_one (ds_ret de_bl)))))))
abbrev n_is_block : List Str := ["known", "thing", "depth", "statement"]
theorem d_is_block (C : CxOk (cxOf (L2.CX P w) P w K mg base n_is_block "is_block" (defScope (top 20)) fa cdv A outer s H E) ⟨fun cls d _ H => E cls d H, []⟩ P w K mg base (j + 1)) (f : Fx P w K mg base j T T') : DSs (cxOf (L2.CX P w) P w K mg base n_is_block "is_block" (defScope (top 20)) fa cdv A outer s H E) ⟨fun cls d _ H => E cls d H, []⟩ (defBody (top 20)) (b_is_block T T') := by
  have hN : n_is_block.Nodup := by decide +kernel
  exact (dss_cons (ds_if (dt_w (dw_or (dt_cmp op_gt o_gt (de_var 2) de_int) (dw_or (dt_not (dt_of_de (de_isi "tuple" cs f.i_ rfl f.b_isinstance rfl f.b_tuple (dp_of_de (de_var 1))))) (dw_or1 (dt_cmp op_gt o_gt (de_callB cr_len o_len rfl f.b_len bt_len (da_cons (de_var 1) da_nil)) de_int))))) (dss_one (ds_ret de_bl)) dss_nil)
    (dss_one (ds_ret (de_callB (cr_all (CxOk.calm C)) o_all rfl f.b_all bt_all (da_cons (de_comp (n := 4) (own := [("statement", 3)]) (CxOk.calm C) hN (di_seq (de_var 1)) (by rfl) (fun s H Cc cl fp => (dg_name 3 hN)) (fun s H Cc cl fp => dts_nil) (fun s H Cc cl fp => (de_fz (do_call (CxOk.blk (n := 4) (vs := [3]) C) f.G.g_is_statement (Nat.le_refl _) (dag_cons (ag_de (de_var 0)) (dag_cons (ag_de (de_var 3)) (dag_cons (ag_de (de_var 2)) dag_nil))))))) da_nil)))))
abbrev n_class_line : List Str := ["classes", "name", "line"]
theorem d_class_line (C : CxOk (cxOf (L2.CX P w) P w K mg base n_class_line "class_line" (defScope (top 26)) fa cdv A outer s H E) ⟨fun cls d _ H => E cls d H, []⟩ P w K mg base (j + 1)) (f : Fx P w K mg base j T T') : DSs (cxOf (L2.CX P w) P w K mg base n_class_line "class_line" (defScope (top 26)) fa cdv A outer s H E) ⟨fun cls d _ H => E cls d H, []⟩ (defBody (top 26)) (b_class_line T T') := by
  have hN : n_class_line.Nodup := by decide +kernel
  exact (dss_cons (ds_setO 2 hN (do_lst da_nil) (hp := (by decide : (2 : Nat) ∉ ([] : List Nat))))
    (dss_cons (ds_while 1000 PassesOwn.leaving (dt_cmp op_notN o_notN (de_var 1) de_non) (dss_cons (ds_if (dt_cmpP (op_inAll (CxOk.hu1 C)) o_in fIn_flat (de_var 1) (dp_var 2)) (dss_one (ds_ret de_non)) dss_nil)
    (dss_cons (ds_expr (de_meth PySem.F.slot_list_insert PySem.F.type_list_insert mt_insert o_ins0 2 (da_cons de_int (da_cons (de_var 1) da_nil))))
    (dss_one (ds_set 1 hN (de_ix (ix_all (CxOk.hu1 C)) o_ix (de_ix (ix_all (CxOk.hu1 C)) o_ix (de_var 0) (de_var 1)) de_int) (hp := (by decide : (1 : Nat) ∉ ([] : List Nat))))))))
    (dss_one (ds_retO (do_var 2)))))
abbrev n_fields_by_line : List Str := ["classes", "line", "fields", "name"]
theorem d_fields_by_line (C : CxOk (cxOf (L2.CX P w) P w K mg base n_fields_by_line "fields_by_line" (defScope (top 27)) fa cdv A outer s H E) ⟨fun cls d _ H => E cls d H, []⟩ P w K mg base (j + 1)) (f : Fx P w K mg base j T T') : DSs (cxOf (L2.CX P w) P w K mg base n_fields_by_line "fields_by_line" (defScope (top 27)) fa cdv A outer s H E) ⟨fun cls d _ H => E cls d H, []⟩ (defBody (top 27)) (b_fields_by_line T T') := by
  have hN : n_fields_by_line.Nodup := by decide +kernel
  exact (dss_cons (ds_setO 2 hN (do_lst da_nil) (hp := (by decide : (2 : Nat) ∉ ([] : List Nat))))
    (dss_cons (ds_for PassesOwn.leaving (CxOk.calm C) (di_seq (de_var 1)) (dg_name 3 hN (hp := (by decide : (3 : Nat) ∉ ([] : List Nat)))) (dss_one (ds_expr (de_meth PySem.F.slot_list_extend PySem.F.type_list_extend mt_ext o_ext 2 (da_cons (de_ix (ix_all (CxOk.hu1 C)) o_ix (de_ix (ix_all (CxOk.hu1 C)) o_ix (de_var 0) (de_var 3)) de_int) da_nil)))))
    (dss_frz 2 (dss_one (ds_ret (de_callTy call_tuple_of o_tupOf rfl f.b_tuple bt_tuple (da_cons (de_var 2) da_nil)))))))
abbrev n_methods_by_line : List Str := ["classes", "line", "methods", "name", "method", "function"]
theorem d_methods_by_line (C : CxOk (cxOf (L2.CX P w) P w K mg base n_methods_by_line "methods_by_line" (defScope (top 28)) fa cdv A outer s H E) ⟨fun cls d _ H => E cls d H, []⟩ P w K mg base (j + 1)) (f : Fx P w K mg base j T T') : DSs (cxOf (L2.CX P w) P w K mg base n_methods_by_line "methods_by_line" (defScope (top 28)) fa cdv A outer s H E) ⟨fun cls d _ H => E cls d H, []⟩ (defBody (top 28)) (b_methods_by_line T T') := by
  have hN : n_methods_by_line.Nodup := by decide +kernel
  exact (dss_cons (ds_setO 2 hN do_dnew (hp := (by decide : (2 : Nat) ∉ ([] : List Nat))))
    (dss_cons (ds_for PassesOwn.leaving (CxOk.calm C) (di_seq (de_var 1)) (dg_name 3 hN (hp := (by decide : (3 : Nat) ∉ ([] : List Nat)))) (dss_one (ds_forD PassesOwn.leaving (CxOk.calm C) (dwk_items (dv_ix (CxOk.hu1 C) (dv_ix (CxOk.hu1 C) (dv_var 0) (dv_var 3)) dv_int)) (dg_tup (CxOk.calm C) (dgs_cons (dg_name 4 hN (hp := (by decide : (4 : Nat) ∉ ([] : List Nat)))) (dgs_cons (dg_name 5 hN (hp := (by decide : (5 : Nat) ∉ ([] : List Nat)))) dgs_nil))) (dss_one (ds_putK 2 (CxOk.hu1 C) (de_var 5) (de_var 4))))))
    (dss_one (ds_retO (do_var 2)))))
abbrev n_is_shared : List Str := ["thing", "name", "word"]
theorem d_is_shared (C : CxOk (cxOf (L2.CX P w) P w K mg base n_is_shared "is_shared" (defScope (top 29)) fa cdv A outer s H E) ⟨fun cls d _ H => E cls d H, []⟩ P w K mg base (j + 1)) (f : Fx P w K mg base j T T') : DSs (cxOf (L2.CX P w) P w K mg base n_is_shared "is_shared" (defScope (top 29)) fa cdv A outer s H E) ⟨fun cls d _ H => E cls d H, []⟩ (defBody (top 29)) (b_is_shared T T') := by
  have hN : n_is_shared.Nodup := by decide +kernel
  exact (dss_cons (ds_if (dt_w (dw_or (dt_not (dt_of_de (de_isi "dict" cs f.i_ rfl f.b_isinstance rfl f.b_dict (dp_of_de (de_var 0))))) (dw_or1 (dt_cmp op_gt o_gt (de_callB cr_len o_len rfl f.b_len bt_len (da_cons (de_var 0) da_nil)) de_int)))) (dss_one (ds_ret de_bl)) dss_nil)
    (dss_one (ds_ret (de_callB (cr_all (CxOk.calm C)) o_all rfl f.b_all bt_all (da_cons (de_compD (n := 3) (own := [("name", 1), ("word", 2)]) (CxOk.calm C) hN (dwk_items (dv_var 0)) (by rfl) (fun s H Cc cl fp => (dg_tup (CxOk.calm (CxOk.blk (n := 3) (vs := [1, 2]) C)) (dgs_cons (dg_name 1 hN) (dgs_cons (dg_name 2 hN) dgs_nil)))) (fun s H Cc cl fp => dts_nil) (fun s H Cc cl fp => (de_and (de_fz (do_call (CxOk.blk (n := 3) (vs := [1, 2]) C) f.G.g_is_name (Nat.le_refl _) (dag_cons (ag_de (de_var 1)) dag_nil))) (de_one (de_fz (do_call (CxOk.blk (n := 3) (vs := [1, 2]) C) f.G.g_is_name (Nat.le_refl _) (dag_cons (ag_de (de_var 2)) dag_nil))))))) da_nil)))))
abbrev n_is_methods : List Str := ["thing", "name", "function"]
theorem d_is_methods (C : CxOk (cxOf (L2.CX P w) P w K mg base n_is_methods "is_methods" (defScope (top 30)) fa cdv A outer s H E) ⟨fun cls d _ H => E cls d H, []⟩ P w K mg base (j + 1)) (f : Fx P w K mg base j T T') : DSs (cxOf (L2.CX P w) P w K mg base n_is_methods "is_methods" (defScope (top 30)) fa cdv A outer s H E) ⟨fun cls d _ H => E cls d H, []⟩ (defBody (top 30)) (b_is_methods T T') := by
  have hN : n_is_methods.Nodup := by decide +kernel
  exact (dss_cons (ds_if (dt_not (dt_of_de (de_isi "dict" cs f.i_ rfl f.b_isinstance rfl f.b_dict (dp_of_de (de_var 0))))) (dss_one (ds_ret de_bl)) dss_nil)
    (dss_one (ds_ret (de_callB (cr_all (CxOk.calm C)) o_all rfl f.b_all bt_all (da_cons (de_compD (n := 3) (own := [("name", 1), ("function", 2)]) (CxOk.calm C) hN (dwk_items (dv_var 0)) (by rfl) (fun s H Cc cl fp => (dg_tup (CxOk.calm (CxOk.blk (n := 3) (vs := [1, 2]) C)) (dgs_cons (dg_name 1 hN) (dgs_cons (dg_name 2 hN) dgs_nil)))) (fun s H Cc cl fp => dts_nil) (fun s H Cc cl fp => (de_and (de_fz (do_call (CxOk.blk (n := 3) (vs := [1, 2]) C) f.G.g_is_name (Nat.le_refl _) (dag_cons (ag_de (de_var 1)) dag_nil))) (de_one (de_fz (do_call (CxOk.blk (n := 3) (vs := [1, 2]) C) f.G.g_is_name (Nat.le_refl _) (dag_cons (ag_de (de_var 2)) dag_nil))))))) da_nil)))))
abbrev n_is_class_row : List Str := ["classes", "row", "parent", "level", "fields", "methods"]
theorem d_is_class_row (C : CxOk (cxOf (L2.CX P w) P w K mg base n_is_class_row "is_class_row" (defScope (top 31)) fa cdv A outer s H E) ⟨fun cls d _ H => E cls d H, []⟩ P w K mg base (j + 1)) (f : Fx P w K mg base j T T') : DSs (cxOf (L2.CX P w) P w K mg base n_is_class_row "is_class_row" (defScope (top 31)) fa cdv A outer s H E) ⟨fun cls d _ H => E cls d H, []⟩ (defBody (top 31)) (b_is_class_row T T') := by
  have hN : n_is_class_row.Nodup := by decide +kernel
  exact (dss_cons (ds_if (dt_w (dw_or (dt_not (dt_of_de (de_isi "tuple" cs f.i_ rfl f.b_isinstance rfl f.b_tuple (dp_of_de (de_var 1))))) (dw_or1 (dt_cmp (op_neX (CxOk.hu64 C)) o_neX (de_callB cr_len o_len rfl f.b_len bt_len (da_cons (de_var 1) da_nil)) de_int)))) (dss_one (ds_ret de_bl)) dss_nil)
    (dss_cons (ds_asg (de_var 1) (dg_tup (CxOk.calm C) (dgs_cons (dg_name 2 hN (hp := (by decide : (2 : Nat) ∉ ([] : List Nat)))) (dgs_cons (dg_name 3 hN (hp := (by decide : (3 : Nat) ∉ ([] : List Nat)))) (dgs_cons (dg_name 4 hN (hp := (by decide : (4 : Nat) ∉ ([] : List Nat)))) (dgs_cons (dg_name 5 hN (hp := (by decide : (5 : Nat) ∉ ([] : List Nat)))) dgs_nil))))))
    (dss_cons (ds_if (dt_w (dw_and (dt_cmp op_notN o_notN (de_var 2) de_non) (dw_and1 (dt_not (dt_w (dw_and (dt_of_de (de_fz (do_call C f.G.g_is_name (Nat.le_refl _) (dag_cons (ag_de (de_var 2)) dag_nil)))) (dw_and1 (dt_cmp (op_inAll (CxOk.hu1 C)) o_in (de_var 2) (de_var 0))))))))) (dss_one (ds_ret de_bl)) dss_nil)
    (dss_one (ds_ret (de_and (de_fz (do_call C f.G.g_is_number (Nat.le_refl _) (dag_cons (ag_de (de_var 3)) (dag_cons (ag_de de_int) (dag_cons (ag_de de_int) dag_nil))))) (de_and (de_fz (do_call C f.G.g_is_names (Nat.le_refl _) (dag_cons (ag_de (de_var 4)) (dag_cons (ag_de de_int) dag_nil)))) (de_one (de_fz (do_call C f.G.g_is_methods (Nat.le_refl _) (dag_cons (ag_de (de_var 5)) dag_nil)))))))))))
abbrev n_is_classes : List Str := ["thing", "name", "row", "line", "fields"]
theorem d_is_classes (C : CxOk (cxOf (L2.CX P w) P w K mg base n_is_classes "is_classes" (defScope (top 32)) fa cdv A outer s H E) ⟨fun cls d _ H => E cls d H, []⟩ P w K mg base (j + 1)) (f : Fx P w K mg base j T T') : DSs (cxOf (L2.CX P w) P w K mg base n_is_classes "is_classes" (defScope (top 32)) fa cdv A outer s H E) ⟨fun cls d _ H => E cls d H, []⟩ (defBody (top 32)) (b_is_classes T T') := by
  have hN : n_is_classes.Nodup := by decide +kernel
  exact (dss_cons (ds_if (dt_w (dw_or (dt_not (dt_of_de (de_isi "dict" cs f.i_ rfl f.b_isinstance rfl f.b_dict (dp_of_de (de_var 0))))) (dw_or1 (dt_cmp op_gt o_gt (de_callB cr_len o_len rfl f.b_len bt_len (da_cons (de_var 0) da_nil)) de_int)))) (dss_one (ds_ret de_bl)) dss_nil)
    (dss_cons (ds_forD PassesOwn.leaving (CxOk.calm C) (dwk_items (dv_var 0)) (dg_tup (CxOk.calm C) (dgs_cons (dg_name 1 hN (hp := (by decide : (1 : Nat) ∉ ([] : List Nat)))) (dgs_cons (dg_name 2 hN (hp := (by decide : (2 : Nat) ∉ ([] : List Nat)))) dgs_nil))) (dss_one (ds_if (dt_w (dw_or (dt_not (dt_of_de (de_fz (do_call C f.G.g_is_name (Nat.le_refl _) (dag_cons (ag_de (de_var 1)) dag_nil))))) (dw_or (dt_cmp (op_inAll (CxOk.hu1 C)) o_in (de_var 1) (de_gref f.g_KINDS f.r_KINDS)) (dw_or1 (dt_not (dt_of_de (de_fz (do_call C f.G.g_is_class_row (Nat.le_refl _) (dag_cons (ag_de (de_var 0)) (dag_cons (ag_de (de_var 2)) dag_nil)))))))))) (dss_one (ds_ret de_bl)) dss_nil)))
    (dss_cons (ds_forD PassesOwn.leaving (CxOk.calm C) (dwk_keys (dv_var 0)) (dg_name 1 hN (hp := (by decide : (1 : Nat) ∉ ([] : List Nat)))) (dss_cons (ds_set 3 hN (de_fz (do_call C f.G.g_class_line (Nat.le_refl _) (dag_cons (ag_de (de_var 0)) (dag_cons (ag_de (de_var 1)) dag_nil)))) (hp := (by decide : (3 : Nat) ∉ ([] : List Nat))))
    (dss_cons (ds_if (dt_cmp op_isN o_isN (de_var 3) de_non) (dss_one (ds_ret de_bl)) dss_nil)
    (dss_cons (ds_set 4 hN (de_fz (do_call C f.G.g_fields_by_line (Nat.le_refl _) (dag_cons (ag_de (de_var 0)) (dag_cons (ag_de (de_var 3)) dag_nil)))) (hp := (by decide : (4 : Nat) ∉ ([] : List Nat))))
    (dss_one (ds_if (dt_w (dw_or (dt_cmp op_gt o_gt (de_callB cr_len o_len rfl f.b_len bt_len (da_cons (de_var 4) da_nil)) de_int) (dw_or1 (dt_not (dt_of_de (de_fz (do_call C f.G.g_is_unlike (Nat.le_refl _) (dag_cons (ag_de (de_var 4)) dag_nil)))))))) (dss_one (ds_ret de_bl)) dss_nil))))))
    (dss_one (ds_ret de_bl)))))
abbrev n_is_function_row : List Str := ["row"]
theorem d_is_function_row (C : CxOk (cxOf (L2.CX P w) P w K mg base n_is_function_row "is_function_row" (defScope (top 33)) fa cdv A outer s H E) ⟨fun cls d _ H => E cls d H, []⟩ P w K mg base (j + 1)) (f : Fx P w K mg base j T T') : DSs (cxOf (L2.CX P w) P w K mg base n_is_function_row "is_function_row" (defScope (top 33)) fa cdv A outer s H E) ⟨fun cls d _ H => E cls d H, []⟩ (defBody (top 33)) (b_is_function_row T T') := by
  have hN : n_is_function_row.Nodup := by decide +kernel
  exact (dss_cons (ds_if (dt_w (dw_or (dt_not (dt_of_de (de_isi "tuple" cs f.i_ rfl f.b_isinstance rfl f.b_tuple (dp_of_de (de_var 0))))) (dw_or1 (dt_cmp (op_neX (CxOk.hu64 C)) o_neX (de_callB cr_len o_len rfl f.b_len bt_len (da_cons (de_var 0) da_nil)) de_int)))) (dss_one (ds_ret de_bl)) dss_nil)
    (dss_one (ds_ret (de_and (de_fz (do_call C f.G.g_is_names (Nat.le_refl _) (dag_cons (ag_de (de_ix (ix_all (CxOk.hu1 C)) o_ix (de_var 0) de_int)) (dag_cons (ag_de de_int) dag_nil)))) (de_one (de_fz (do_call C f.G.g_is_number (Nat.le_refl _) (dag_cons (ag_de (de_ix (ix_all (CxOk.hu1 C)) o_ix (de_var 0) de_int)) (dag_cons (ag_de de_int) (dag_cons (ag_de de_int) dag_nil))))))))))
abbrev n_is_functions : List Str := ["thing", "name", "row"]
theorem d_is_functions (C : CxOk (cxOf (L2.CX P w) P w K mg base n_is_functions "is_functions" (defScope (top 34)) fa cdv A outer s H E) ⟨fun cls d _ H => E cls d H, []⟩ P w K mg base (j + 1)) (f : Fx P w K mg base j T T') : DSs (cxOf (L2.CX P w) P w K mg base n_is_functions "is_functions" (defScope (top 34)) fa cdv A outer s H E) ⟨fun cls d _ H => E cls d H, []⟩ (defBody (top 34)) (b_is_functions T T') := by
  have hN : n_is_functions.Nodup := by decide +kernel
  exact (dss_cons (ds_if (dt_w (dw_or (dt_not (dt_of_de (de_isi "dict" cs f.i_ rfl f.b_isinstance rfl f.b_dict (dp_of_de (de_var 0))))) (dw_or1 (dt_not (dt_chain op_le op_le o_le o_le de_int (de_callB cr_len o_len rfl f.b_len bt_len (da_cons (de_var 0) da_nil)) de_int))))) (dss_one (ds_ret de_bl)) dss_nil)
    (dss_one (ds_ret (de_callB (cr_all (CxOk.calm C)) o_all rfl f.b_all bt_all (da_cons (de_compD (n := 3) (own := [("name", 1), ("row", 2)]) (CxOk.calm C) hN (dwk_items (dv_var 0)) (by rfl) (fun s H Cc cl fp => (dg_tup (CxOk.calm (CxOk.blk (n := 3) (vs := [1, 2]) C)) (dgs_cons (dg_name 1 hN) (dgs_cons (dg_name 2 hN) dgs_nil)))) (fun s H Cc cl fp => dts_nil) (fun s H Cc cl fp => (de_and (de_fz (do_call (CxOk.blk (n := 3) (vs := [1, 2]) C) f.G.g_is_name (Nat.le_refl _) (dag_cons (ag_de (de_var 1)) dag_nil))) (de_one (de_fz (do_call (CxOk.blk (n := 3) (vs := [1, 2]) C) f.G.g_is_function_row (Nat.le_refl _) (dag_cons (ag_de (de_var 2)) dag_nil))))))) da_nil)))))
abbrev n_methods_fit : List Str := ["classes", "functions", "row", "function"]
theorem d_methods_fit (C : CxOk (cxOf (L2.CX P w) P w K mg base n_methods_fit "methods_fit" (defScope (top 35)) fa cdv A outer s H E) ⟨fun cls d _ H => E cls d H, []⟩ P w K mg base (j + 1)) (f : Fx P w K mg base j T T') : DSs (cxOf (L2.CX P w) P w K mg base n_methods_fit "methods_fit" (defScope (top 35)) fa cdv A outer s H E) ⟨fun cls d _ H => E cls d H, []⟩ (defBody (top 35)) (b_methods_fit T T') := by
  have hN : n_methods_fit.Nodup := by decide +kernel
  exact (dss_cons (ds_forD PassesOwn.leaving (CxOk.calm C) (dwk_vals (dv_var 0)) (dg_name 2 hN (hp := (by decide : (2 : Nat) ∉ ([] : List Nat)))) (dss_one (ds_forD PassesOwn.leaving (CxOk.calm C) (dwk_vals (dv_ix (CxOk.hu1 C) (dv_var 2) dv_int)) (dg_name 3 hN (hp := (by decide : (3 : Nat) ∉ ([] : List Nat)))) (dss_one (ds_if (dt_w (dw_or (dt_cmp (op_notInAll (CxOk.hu1 C)) o_notIn (de_var 3) (de_var 1)) (dw_or1 (dt_cmp (op_eqX (CxOk.hu64 C)) o_eqX (de_callB cr_len o_len rfl f.b_len bt_len (da_cons (de_ix (ix_all (CxOk.hu1 C)) o_ix (de_ix (ix_all (CxOk.hu1 C)) o_ix (de_var 1) (de_var 3)) de_int) da_nil)) de_int)))) (dss_one (ds_ret de_bl)) dss_nil)))))
    (dss_one (ds_ret de_bl)))
abbrev n_check_program : List Str := ["shared", "classes", "functions", "known", "name"]
theorem d_check_program (C : CxOk (cxOf (L2.CX P w) P w K mg base n_check_program "check_program" (defScope (top 36)) fa cdv A outer s H E) ⟨fun cls d _ H => E cls d H, []⟩ P w K mg base (j + 1)) (f : Fx P w K mg base j T T') : DSs (cxOf (L2.CX P w) P w K mg base n_check_program "check_program" (defScope (top 36)) fa cdv A outer s H E) ⟨fun cls d _ H => E cls d H, []⟩ (defBody (top 36)) (b_check_program T T') := by
  have hN : n_check_program.Nodup := by decide +kernel
  exact (dss_cons (ds_if (dt_not (dt_of_de (de_fz (do_call C f.G.g_is_shared (Nat.le_refl _) (dag_cons (ag_de (de_var 0)) dag_nil))))) (dss_one (ds_raise1 C f.e_BadProgram f.hk2 de_str)) dss_nil)
    (dss_cons (ds_if (dt_not (dt_of_de (de_fz (do_call C f.G.g_is_classes (Nat.le_refl _) (dag_cons (ag_de (de_var 1)) dag_nil))))) (dss_one (ds_raise1 C f.e_BadProgram f.hk2 de_str)) dss_nil)
    (dss_cons (ds_if (dt_not (dt_of_de (de_fz (do_call C f.G.g_is_functions (Nat.le_refl _) (dag_cons (ag_de (de_var 2)) dag_nil))))) (dss_one (ds_raise1 C f.e_BadProgram f.hk2 de_str)) dss_nil)
    (dss_cons (ds_if (dt_not (dt_of_de (de_fz (do_call C f.G.g_methods_fit (Nat.le_refl _) (dag_cons (ag_de (de_var 1)) (dag_cons (ag_de (de_var 2)) dag_nil)))))) (dss_one (ds_raise1 C f.e_BadProgram f.hk2 de_str)) dss_nil)
    (dss_cons (ds_set 3 hN (de_tup (da_cons (de_var 0) (da_cons (de_var 1) (da_cons (de_var 2) da_nil)))) (hp := (by decide : (3 : Nat) ∉ ([] : List Nat))))
    (dss_one (ds_for PassesOwn.leaving (CxOk.calm C) (di_seq (de_callB (cr_sort (CxOk.calm C)) o_sorted rfl f.b_sorted bt_sorted (da_cons (de_var 2) da_nil))) (dg_name 4 hN (hp := (by decide : (4 : Nat) ∉ ([] : List Nat)))) (dss_one (ds_if (dt_not (dt_of_de (de_fz (do_call C f.G.g_is_block (Nat.le_refl _) (dag_cons (ag_de (de_var 3)) (dag_cons (ag_de (de_ix (ix_all (CxOk.hu1 C)) o_ix (de_ix (ix_all (CxOk.hu1 C)) o_ix (de_var 2) (de_var 4)) de_int)) (dag_cons (ag_de de_int) dag_nil))))))) (dss_one (ds_raise1 C f.e_BadProgram f.hk2 (de_op op_addAll o_add de_str (de_var 4)))) dss_nil)))))))))
abbrev n_gather : List Str := ["thing", "found", "part"]
theorem d_gather (C : CxOk (cxOf (L2.CX P w) P w K mg base n_gather "gather" (defScope (top 38)) fa cdv A outer s H E) ⟨fun cls d _ H => E cls d H, [1]⟩ P w K mg base (j + 1)) (f : Fx P w K mg base j T T') : DSs (cxOf (L2.CX P w) P w K mg base n_gather "gather" (defScope (top 38)) fa cdv A outer s H E) ⟨fun cls d _ H => E cls d H, [1]⟩ (defBody (top 38)) (b_gather T T') := by
  have hN : n_gather.Nodup := by decide +kernel
  exact (dss_one (ds_if (dt_of_de (de_isi "str" cs f.i_ rfl f.b_isinstance rfl f.b_str (dp_of_de (de_var 0)))) (dss_one (ds_putK 1 (CxOk.hu1 C) de_bl (de_var 0))) (dss_one (ds_if (dt_of_de (de_isi "tuple" cs f.i_ rfl f.b_isinstance rfl f.b_tuple (dp_of_de (de_var 0)))) (dss_one (ds_for PassesOwn.leaving (CxOk.calm C) (di_seq (de_var 0)) (dg_name 2 hN (hp := (by decide : (2 : Nat) ∉ ([1] : List Nat)))) (dss_one (ds_expr (de_fz (do_call C f.G.g_gather (Nat.le_refl _) (dag_cons (ag_de (de_var 2)) (dag_cons (ag_var 1) dag_nil)))))))) dss_nil))))
abbrev n_free_names : List Str := ["parameters", "block", "found", "sign"]
theorem d_free_names (C : CxOk (cxOf (L2.CX P w) P w K mg base n_free_names "free_names" (defScope (top 39)) fa cdv A outer s H E) ⟨fun cls d _ H => E cls d H, []⟩ P w K mg base (j + 1)) (f : Fx P w K mg base j T T') : DSs (cxOf (L2.CX P w) P w K mg base n_free_names "free_names" (defScope (top 39)) fa cdv A outer s H E) ⟨fun cls d _ H => E cls d H, []⟩ (defBody (top 39)) (b_free_names T T') := by
  have hN : n_free_names.Nodup := by decide +kernel
  exact (dss_cons (ds_setO 2 hN do_dnew (hp := (by decide : (2 : Nat) ∉ ([] : List Nat))))
    (dss_cons (ds_expr (de_fz (do_call C f.G.g_gather (Nat.le_refl _) (dag_cons (ag_de (de_var 0)) (dag_cons (ag_var 2) dag_nil)))))
    (dss_cons (ds_expr (de_fz (do_call C f.G.g_gather (Nat.le_refl _) (dag_cons (ag_de (de_var 1)) (dag_cons (ag_var 2) dag_nil)))))
    (dss_one (ds_ret (de_comp (n := 4) (own := [("sign", 3)]) (CxOk.calm C) hN (di_seq (de_gstr f.s_LETTERS)) (by rfl) (fun s H Cc cl fp => (dg_name 3 hN)) (fun s H Cc cl fp => (dts_one (dt_cmpP (op_notInAll (CxOk.hu1 (CxOk.blk (n := 4) (vs := [3]) C))) o_notIn fNotIn_flat (de_op op_addAll o_add de_str (de_var 3)) (dp_var 2)))) (fun s H Cc cl fp => (de_op op_addAll o_add de_str (de_var 3)))))))))
abbrev n_plain_statement : List Str := ["statement", "names", "first", "name", "second"]
theorem d_plain_statement (C : CxOk (cxOf (L2.CX P w) P w K mg base n_plain_statement "plain_statement" (defScope (top 40)) fa cdv A outer s H E) ⟨fun cls d _ H => E cls d H, [1]⟩ P w K mg base (j + 1)) (f : Fx P w K mg base j T T') : DSs (cxOf (L2.CX P w) P w K mg base n_plain_statement "plain_statement" (defScope (top 40)) fa cdv A outer s H E) ⟨fun cls d _ H => E cls d H, [1]⟩ (defBody (top 40)) (b_plain_statement T T') := by
  have hN : n_plain_statement.Nodup := by decide +kernel
  exact (dss_cons (ds_if (dt_cmp (op_eqX (CxOk.hu64 C)) o_eqX (de_ix (ix_all (CxOk.hu1 C)) o_ix (de_var 0) de_int) de_str) (dss_cons (ds_set 2 hN (de_fz (do_call C f.G.g_plain_rows (Nat.le_refl _) (dag_cons (ag_de (de_ix (ix_all (CxOk.hu1 C)) o_ix (de_var 0) de_int)) (dag_cons (ag_var 1) dag_nil)))) (hp := (by decide : (2 : Nat) ∉ ([1] : List Nat))))
    (dss_one (ds_ret (de_lst (da_cons (de_tup (da_cons de_str (da_cons (de_ix (ix_all (CxOk.hu1 C)) o_ix (de_var 0) de_int) (da_cons (de_var 2) (da_cons (de_fz (do_call C f.G.g_plain_rows (Nat.le_refl _) (dag_cons (ag_de (de_ix (ix_all (CxOk.hu1 C)) o_ix (de_var 0) de_int)) (dag_cons (ag_var 1) dag_nil)))) da_nil))))) da_nil))))) dss_nil)
    (dss_cons (ds_if (dt_cmp (op_eqX (CxOk.hu64 C)) o_eqX (de_ix (ix_all (CxOk.hu1 C)) o_ix (de_var 0) de_int) de_str) (dss_one (ds_ret (de_lst (da_cons (de_tup (da_cons de_str (da_cons (de_ix (ix_all (CxOk.hu1 C)) o_ix (de_var 0) de_int) (da_cons (de_fz (do_call C f.G.g_plain_rows (Nat.le_refl _) (dag_cons (ag_de (de_ix (ix_all (CxOk.hu1 C)) o_ix (de_var 0) de_int)) (dag_cons (ag_var 1) dag_nil)))) da_nil)))) da_nil)))) dss_nil)
    (dss_cons (ds_if (dt_cmp (op_eqX (CxOk.hu64 C)) o_eqX (de_ix (ix_all (CxOk.hu1 C)) o_ix (de_var 0) de_int) de_str) (dss_cons (ds_set 2 hN (de_fz (do_call C f.G.g_plain_rows (Nat.le_refl _) (dag_cons (ag_de (de_ix (ix_all (CxOk.hu1 C)) o_ix (de_var 0) de_int)) (dag_cons (ag_var 1) dag_nil)))) (hp := (by decide : (2 : Nat) ∉ ([1] : List Nat))))
    (dss_one (ds_ret (de_lst (da_cons (de_tup (da_cons de_str (da_cons (de_var 2) (da_cons (de_ix (ix_all (CxOk.hu1 C)) o_ix (de_var 0) de_int) (da_cons (de_fz (do_call C f.G.g_plain_rows (Nat.le_refl _) (dag_cons (ag_de (de_ix (ix_all (CxOk.hu1 C)) o_ix (de_var 0) de_int)) (dag_cons (ag_var 1) dag_nil)))) da_nil))))) da_nil))))) dss_nil)
    (dss_cons (ds_if (dt_cmp (op_neX (CxOk.hu64 C)) o_neX (de_ix (ix_all (CxOk.hu1 C)) o_ix (de_var 0) de_int) de_str) (dss_one (ds_ret (de_lst (da_cons (de_var 0) da_nil)))) dss_nil)
    (dss_cons (ds_if (dt_cmp (op_eqX (CxOk.hu64 C)) o_eqX (de_callP cr_len o_len fLen_flat rfl f.b_len bt_len (dp_var 1)) de_int) (dss_one (ds_raise1 C f.e_BadProgram f.hk2 de_str)) dss_nil)
    (dss_cons (ds_set 3 hN (de_meth PySem.F.slot_list_pop PySem.F.type_list_pop (MtM.r mt_popAt) o_pop0 1 (da_cons de_int da_nil)) (hp := (by decide : (3 : Nat) ∉ ([1] : List Nat))))
    (dss_cons (ds_set 2 hN (de_fz (do_call C f.G.g_plain_rows (Nat.le_refl _) (dag_cons (ag_de (de_ix (ix_all (CxOk.hu1 C)) o_ix (de_var 0) de_int)) (dag_cons (ag_var 1) dag_nil)))) (hp := (by decide : (2 : Nat) ∉ ([1] : List Nat))))
    (dss_cons (ds_set 4 hN (de_fz (do_call C f.G.g_plain_rows (Nat.le_refl _) (dag_cons (ag_de (de_ix (ix_all (CxOk.hu1 C)) o_ix (de_var 0) de_int)) (dag_cons (ag_var 1) dag_nil)))) (hp := (by decide : (4 : Nat) ∉ ([1] : List Nat))))
    (dss_one (ds_ret (de_lst (da_cons (de_tup (da_cons de_str (da_cons (de_var 2) (da_cons (de_var 3) (da_cons (de_tup (da_star (de_var 4) (da_cons (de_tup (da_cons de_str (da_cons (de_var 3) da_nil))) da_nil))) da_nil))))) (da_star (de_var 4) da_nil)))))))))))))
abbrev n_plain_rows : List Str := ["block", "names", "rows", "statement"]
theorem d_plain_rows (C : CxOk (cxOf (L2.CX P w) P w K mg base n_plain_rows "plain_rows" (defScope (top 41)) fa cdv A outer s H E) ⟨fun cls d _ H => E cls d H, [1]⟩ P w K mg base (j + 1)) (f : Fx P w K mg base j T T') : DSs (cxOf (L2.CX P w) P w K mg base n_plain_rows "plain_rows" (defScope (top 41)) fa cdv A outer s H E) ⟨fun cls d _ H => E cls d H, [1]⟩ (defBody (top 41)) (b_plain_rows T T') := by
  have hN : n_plain_rows.Nodup := by decide +kernel
  exact (dss_cons (ds_setO 2 hN (do_lst da_nil) (hp := (by decide : (2 : Nat) ∉ ([1] : List Nat))))
    (dss_cons (ds_for PassesOwn.leaving (CxOk.calm C) (di_seq (de_var 0)) (dg_name 3 hN (hp := (by decide : (3 : Nat) ∉ ([1] : List Nat)))) (dss_one (ds_expr (de_meth PySem.F.slot_list_extend PySem.F.type_list_extend mt_ext o_ext 2 (da_cons (de_fz (do_call C f.G.g_plain_statement (Nat.le_refl _) (dag_cons (ag_de (de_var 3)) (dag_cons (ag_var 1) dag_nil)))) da_nil)))))
    (dss_frz 2 (dss_one (ds_ret (de_callTy call_tuple_of o_tupOf rfl f.b_tuple bt_tuple (da_cons (de_var 2) da_nil)))))))
abbrev n_plain_block : List Str := ["parameters", "block"]
theorem d_plain_block (C : CxOk (cxOf (L2.CX P w) P w K mg base n_plain_block "plain_block" (defScope (top 42)) fa cdv A outer s H E) ⟨fun cls d _ H => E cls d H, []⟩ P w K mg base (j + 1)) (f : Fx P w K mg base j T T') : DSs (cxOf (L2.CX P w) P w K mg base n_plain_block "plain_block" (defScope (top 42)) fa cdv A outer s H E) ⟨fun cls d _ H => E cls d H, []⟩ (defBody (top 42)) (b_plain_block T T') := by
  have hN : n_plain_block.Nodup := by decide +kernel
  exact (dss_one (ds_ret (de_fz (do_call C f.G.g_plain_rows (Nat.le_refl _) (dag_cons (ag_de (de_var 1)) (dag_cons (ag_de (de_fz (do_call C f.G.g_free_names (Nat.le_refl _) (dag_cons (ag_de (de_var 0)) (dag_cons (ag_de (de_var 1)) dag_nil))))) dag_nil))))))
abbrev n_width : List Str := ["block", "total", "statement", "inner"]
theorem d_width (C : CxOk (cxOf (L2.CX P w) P w K mg base n_width "width" (defScope (top 44)) fa cdv A outer s H E) ⟨fun cls d _ H => E cls d H, []⟩ P w K mg base (j + 1)) (f : Fx P w K mg base j T T') : DSs (cxOf (L2.CX P w) P w K mg base n_width "width" (defScope (top 44)) fa cdv A outer s H E) ⟨fun cls d _ H => E cls d H, []⟩ (defBody (top 44)) (b_width T T') := by
  have hN : n_width.Nodup := by decide +kernel
  exact (dss_cons (ds_set 1 hN de_int (hp := (by decide : (1 : Nat) ∉ ([] : List Nat))))
    (dss_cons (ds_for PassesOwn.leaving (CxOk.calm C) (di_seq (de_var 0)) (dg_name 2 hN (hp := (by decide : (2 : Nat) ∉ ([] : List Nat)))) (dss_cons (ds_aug 1 hN de_int (hp := (by decide : (1 : Nat) ∉ ([] : List Nat))))
    (dss_one (ds_for PassesOwn.leaving (CxOk.calm C) (di_seq (de_fz (do_call C f.G.g_inner_blocks_places (Nat.le_refl _) (dag_cons (ag_de (de_var 2)) dag_nil)))) (dg_name 3 hN (hp := (by decide : (3 : Nat) ∉ ([] : List Nat)))) (dss_one (ds_aug 1 hN (de_fz (do_call C f.G.g_width (Nat.le_refl _) (dag_cons (ag_de (de_var 3)) dag_nil))) (hp := (by decide : (1 : Nat) ∉ ([] : List Nat)))))))))
    (dss_one (ds_ret (de_var 1)))))
abbrev n_inner_blocks__2 : List Str := ["statement"]
theorem d_inner_blocks__2 (C : CxOk (cxOf (L2.CX P w) P w K mg base n_inner_blocks__2 "inner_blocks" (defScope (top 45)) fa cdv A outer s H E) ⟨fun cls d _ H => E cls d H, []⟩ P w K mg base (j + 1)) (f : Fx P w K mg base j T T') : DSs (cxOf (L2.CX P w) P w K mg base n_inner_blocks__2 "inner_blocks" (defScope (top 45)) fa cdv A outer s H E) ⟨fun cls d _ H => E cls d H, []⟩ (defBody (top 45)) (b_inner_blocks__2 T T') := by
  have hN : n_inner_blocks__2.Nodup := by decide +kernel
  exact (dss_cons (ds_if (dt_cmp (op_eqX (CxOk.hu64 C)) o_eqX (de_ix (ix_all (CxOk.hu1 C)) o_ix (de_var 0) de_int) de_str) (dss_one (ds_ret (de_tup (da_cons (de_ix (ix_all (CxOk.hu1 C)) o_ix (de_var 0) de_int) (da_cons (de_ix (ix_all (CxOk.hu1 C)) o_ix (de_var 0) de_int) da_nil))))) dss_nil)
    (dss_cons (ds_if (dt_cmp (op_eqX (CxOk.hu64 C)) o_eqX (de_ix (ix_all (CxOk.hu1 C)) o_ix (de_var 0) de_int) de_str) (dss_one (ds_ret (de_tup (da_cons (de_ix (ix_all (CxOk.hu1 C)) o_ix (de_var 0) de_int) da_nil)))) dss_nil)
    (dss_cons (ds_if (dt_cmp (op_eqX (CxOk.hu64 C)) o_eqX (de_ix (ix_all (CxOk.hu1 C)) o_ix (de_var 0) de_int) de_str) (dss_one (ds_ret (de_tup (da_cons (de_ix (ix_all (CxOk.hu1 C)) o_ix (de_var 0) de_int) (da_cons (de_ix (ix_all (CxOk.hu1 C)) o_ix (de_var 0) de_int) da_nil))))) dss_nil)
    (dss_one (ds_ret (de_tup da_nil))))))
abbrev n_heads_of : List Str := ["statement", "place", "follows", "blocks", "heads", "start", "block"]
theorem d_heads_of (C : CxOk (cxOf (L2.CX P w) P w K mg base n_heads_of "heads_of" (defScope (top 47)) fa cdv A outer s H E) ⟨fun cls d _ H => E cls d H, []⟩ P w K mg base (j + 1)) (f : Fx P w K mg base j T T') : DSs (cxOf (L2.CX P w) P w K mg base n_heads_of "heads_of" (defScope (top 47)) fa cdv A outer s H E) ⟨fun cls d _ H => E cls d H, []⟩ (defBody (top 47)) (b_heads_of T T') := by
  have hN : n_heads_of.Nodup := by decide +kernel
  exact (dss_cons (ds_set 3 hN (de_fz (do_call C f.G.g_inner_blocks_places (Nat.le_refl _) (dag_cons (ag_de (de_var 0)) dag_nil))) (hp := (by decide : (3 : Nat) ∉ ([] : List Nat))))
    (dss_cons (ds_if (dt_cmp (op_eqX (CxOk.hu64 C)) o_eqX (de_ix (ix_all (CxOk.hu1 C)) o_ix (de_var 0) de_int) de_str) (dss_cons (ds_if (dt_cmp (op_eqX (CxOk.hu64 C)) o_eqX (de_callB cr_len o_len rfl f.b_len bt_len (da_cons (de_ix (ix_all (CxOk.hu1 C)) o_ix (de_var 3) de_int) da_nil)) de_int) (dss_one (ds_ret (de_tup (da_cons (de_var 1) da_nil)))) dss_nil)
    (dss_one (ds_ret (de_tup (da_cons (de_op op_addAll o_add (de_var 1) de_int) da_nil))))) dss_nil)
    (dss_cons (ds_setO 4 hN (do_lst da_nil) (hp := (by decide : (4 : Nat) ∉ ([] : List Nat))))
    (dss_cons (ds_set 5 hN (de_op op_addAll o_add (de_var 1) de_int) (hp := (by decide : (5 : Nat) ∉ ([] : List Nat))))
    (dss_cons (ds_for PassesOwn.leaving (CxOk.calm C) (di_seq (de_var 3)) (dg_name 6 hN (hp := (by decide : (6 : Nat) ∉ ([] : List Nat)))) (dss_cons (ds_if (dt_cmp (op_eqX (CxOk.hu64 C)) o_eqX (de_callB cr_len o_len rfl f.b_len bt_len (da_cons (de_var 6) da_nil)) de_int) (dss_one (ds_expr (de_meth PySem.F.slot_list_append PySem.F.type_list_append (MtM.r mt_append) o_app 4 (da_cons (de_var 2) da_nil)))) (dss_one (ds_expr (de_meth PySem.F.slot_list_append PySem.F.type_list_append (MtM.r mt_append) o_app 4 (da_cons (de_var 5) da_nil)))))
    (dss_one (ds_aug 5 hN (de_fz (do_call C f.G.g_width (Nat.le_refl _) (dag_cons (ag_de (de_var 6)) dag_nil))) (hp := (by decide : (5 : Nat) ∉ ([] : List Nat)))))))
    (dss_frz 4 (dss_one (ds_ret (de_callTy call_tuple_of o_tupOf rfl f.b_tuple bt_tuple (da_cons (de_var 4) da_nil))))))))))
abbrev n_lay : List Str := ["block", "behind", "guard", "rows", "index", "statement", "place", "follows"]
theorem d_lay (C : CxOk (cxOf (L2.CX P w) P w K mg base n_lay "lay" (defScope (top 48)) fa cdv A outer s H E) ⟨fun cls d _ H => E cls d H, [3]⟩ P w K mg base (j + 1)) (f : Fx P w K mg base j T T') : DSs (cxOf (L2.CX P w) P w K mg base n_lay "lay" (defScope (top 48)) fa cdv A outer s H E) ⟨fun cls d _ H => E cls d H, [3]⟩ (defBody (top 48)) (b_lay T T') := by
  have hN : n_lay.Nodup := by decide +kernel
  exact (dss_one (ds_for PassesOwn.leaving (CxOk.calm C) (di_enum (de_var 0) rfl f.b_enumerate) (dg_tup (CxOk.calm C) (dgs_cons (dg_name 4 hN (hp := (by decide : (4 : Nat) ∉ ([3] : List Nat)))) (dgs_cons (dg_name 5 hN (hp := (by decide : (5 : Nat) ∉ ([3] : List Nat)))) dgs_nil))) (dss_cons (ds_set 6 hN (de_callP cr_len o_len fLen_flat rfl f.b_len bt_len (dp_var 3)) (hp := (by decide : (6 : Nat) ∉ ([3] : List Nat))))
    (dss_cons (ds_set 7 hN (de_var 1) (hp := (by decide : (7 : Nat) ∉ ([3] : List Nat))))
    (dss_cons (ds_if (dt_cmp op_lt o_lt (de_op op_addAll o_add (de_var 4) de_int) (de_callB cr_len o_len rfl f.b_len bt_len (da_cons (de_var 0) da_nil))) (dss_one (ds_set 7 hN (de_op op_addAll o_add (de_var 6) (de_fz (do_call C f.G.g_width (Nat.le_refl _) (dag_cons (ag_de (de_tup (da_cons (de_var 5) da_nil))) dag_nil)))) (hp := (by decide : (7 : Nat) ∉ ([3] : List Nat))))) dss_nil)
    (dss_cons (ds_expr (de_meth PySem.F.slot_list_append PySem.F.type_list_append (MtM.r mt_append) o_app 3 (da_cons (de_tup (da_cons (de_var 5) (da_cons (de_var 7) (da_cons (de_fz (do_call C f.G.g_heads_of (Nat.le_refl _) (dag_cons (ag_de (de_var 5)) (dag_cons (ag_de (de_var 6)) (dag_cons (ag_de (de_var 7)) dag_nil))))) (da_cons (de_var 2) da_nil))))) da_nil)))
    (dss_one (ds_if (dt_cmp (op_eqX (CxOk.hu64 C)) o_eqX (de_ix (ix_all (CxOk.hu1 C)) o_ix (de_var 5) de_int) de_str) (dss_cons (ds_expr (de_fz (do_call C f.G.g_lay (Nat.le_refl _) (dag_cons (ag_de (de_ix (ix_all (CxOk.hu1 C)) o_ix (de_var 5) de_int)) (dag_cons (ag_de (de_var 7)) (dag_cons (ag_de (de_var 2)) (dag_cons (ag_var 3) dag_nil)))))))
    (dss_one (ds_expr (de_fz (do_call C f.G.g_lay (Nat.le_refl _) (dag_cons (ag_de (de_ix (ix_all (CxOk.hu1 C)) o_ix (de_var 5) de_int)) (dag_cons (ag_de (de_var 7)) (dag_cons (ag_de (de_var 2)) (dag_cons (ag_var 3) dag_nil))))))))) (dss_one (ds_if (dt_cmp (op_eqX (CxOk.hu64 C)) o_eqX (de_ix (ix_all (CxOk.hu1 C)) o_ix (de_var 5) de_int) de_str) (dss_one (ds_expr (de_fz (do_call C f.G.g_lay (Nat.le_refl _) (dag_cons (ag_de (de_ix (ix_all (CxOk.hu1 C)) o_ix (de_var 5) de_int)) (dag_cons (ag_de (de_var 6)) (dag_cons (ag_de (de_var 2)) (dag_cons (ag_var 3) dag_nil)))))))) (dss_one (ds_if (dt_cmp (op_eqX (CxOk.hu64 C)) o_eqX (de_ix (ix_all (CxOk.hu1 C)) o_ix (de_var 5) de_int) de_str) (dss_cons (ds_expr (de_fz (do_call C f.G.g_lay (Nat.le_refl _) (dag_cons (ag_de (de_ix (ix_all (CxOk.hu1 C)) o_ix (de_var 5) de_int)) (dag_cons (ag_de (de_var 7)) (dag_cons (ag_de (de_var 6)) (dag_cons (ag_var 3) dag_nil)))))))
    (dss_one (ds_expr (de_fz (do_call C f.G.g_lay (Nat.le_refl _) (dag_cons (ag_de (de_ix (ix_all (CxOk.hu1 C)) o_ix (de_var 5) de_int)) (dag_cons (ag_de (de_var 7)) (dag_cons (ag_de (de_var 2)) (dag_cons (ag_var 3) dag_nil))))))))) dss_nil))))))))))))
abbrev n_places_of : List Str := ["block", "rows"]
theorem d_places_of (C : CxOk (cxOf (L2.CX P w) P w K mg base n_places_of "places_of" (defScope (top 49)) fa cdv A outer s H E) ⟨fun cls d _ H => E cls d H, []⟩ P w K mg base (j + 1)) (f : Fx P w K mg base j T T') : DSs (cxOf (L2.CX P w) P w K mg base n_places_of "places_of" (defScope (top 49)) fa cdv A outer s H E) ⟨fun cls d _ H => E cls d H, []⟩ (defBody (top 49)) (b_places_of T T') := by
  have hN : n_places_of.Nodup := by decide +kernel
  exact (dss_cons (ds_setO 1 hN (do_lst da_nil) (hp := (by decide : (1 : Nat) ∉ ([] : List Nat))))
    (dss_cons (ds_expr (de_fz (do_call C f.G.g_lay (Nat.le_refl _) (dag_cons (ag_de (de_var 0)) (dag_cons (ag_de (de_fz (do_call C f.G.g_width (Nat.le_refl _) (dag_cons (ag_de (de_var 0)) dag_nil)))) (dag_cons (ag_de (de_un un_neg o_neg de_int)) (dag_cons (ag_var 1) dag_nil)))))))
    (dss_frz 1 (dss_one (ds_ret (de_callTy call_tuple_of o_tupOf rfl f.b_tuple bt_tuple (da_cons (de_var 1) da_nil)))))))
abbrev n_copied_classes : List Str := ["classes", "name", "row"]
theorem d_copied_classes (C : CxOk (cxOf (L2.CX P w) P w K mg base n_copied_classes "copied_classes" (defScope (top 51)) fa cdv A outer s H E) ⟨fun cls d _ H => E cls d H, []⟩ P w K mg base (j + 1)) (f : Fx P w K mg base j T T') : DSs (cxOf (L2.CX P w) P w K mg base n_copied_classes "copied_classes" (defScope (top 51)) fa cdv A outer s H E) ⟨fun cls d _ H => E cls d H, []⟩ (defBody (top 51)) (b_copied_classes T T') := by
  have hN : n_copied_classes.Nodup := by decide +kernel
  exact (dss_one (ds_ret (de_dcompD (n := 3) (own := [("name", 1), ("row", 2)]) (CxOk.calm C) hN (dwk_items (dv_var 0)) (by rfl) (fun s H Cc cl fp => (dg_tup (CxOk.calm (CxOk.blk (n := 3) (vs := [1, 2]) C)) (dgs_cons (dg_name 1 hN) (dgs_cons (dg_name 2 hN) dgs_nil)))) (fun s H Cc cl fp => dts_nil) (fun s H Cc cl fp => (de_var 1)) (fun s H Cc cl fp => (de_tup (da_cons (de_ix (ix_all (CxOk.hu1 (CxOk.blk (n := 3) (vs := [1, 2]) C))) o_ix (de_var 2) de_int) (da_cons (de_ix (ix_all (CxOk.hu1 (CxOk.blk (n := 3) (vs := [1, 2]) C))) o_ix (de_var 2) de_int) (da_cons (de_ix (ix_all (CxOk.hu1 (CxOk.blk (n := 3) (vs := [1, 2]) C))) o_ix (de_var 2) de_int) (da_cons (de_callTy call_dictD o_dctOf rfl f.b_dict bt_dict (da_cons (de_ix (ix_all (CxOk.hu1 (CxOk.blk (n := 3) (vs := [1, 2]) C))) o_ix (de_var 2) de_int) da_nil)) da_nil)))))))))
abbrev n_fields_of : List Str := ["program", "name"]
theorem d_fields_of (C : CxOk (cxOf (L2.CX P w) P w K mg base n_fields_of "fields_of" (defScope (top 53)) fa cdv A outer s H E) ⟨fun cls d _ H => E cls d H, []⟩ P w K mg base (j + 1)) (f : Fx P w K mg base j T T') : DSs (cxOf (L2.CX P w) P w K mg base n_fields_of "fields_of" (defScope (top 53)) fa cdv A outer s H E) ⟨fun cls d _ H => E cls d H, []⟩ (defBody (top 53)) (b_fields_of T T') := by
  have hN : n_fields_of.Nodup := by decide +kernel
  exact (dss_cons (ds_if (dt_w (dw_or (dt_not (dt_of_de (de_fz (do_call C f.G.g_is_name (Nat.le_refl _) (dag_cons (ag_de (de_var 1)) dag_nil))))) (dw_or1 (dt_cmp (op_notInAll (CxOk.hu1 C)) o_notIn (de_var 1) (de_fld (c := "Program") f.a_Program (de_var 0)))))) (dss_one (ds_raise1 C f.e_NoName f.hk2 (de_var 1))) dss_nil)
    (dss_one (ds_ret (de_ix (ix_all (CxOk.hu1 C)) o_ix (de_fld (c := "Program") f.a_Program (de_var 0)) (de_var 1)))))
abbrev n_method_of : List Str := ["program", "name", "method"]
theorem d_method_of (C : CxOk (cxOf (L2.CX P w) P w K mg base n_method_of "method_of" (defScope (top 54)) fa cdv A outer s H E) ⟨fun cls d _ H => E cls d H, []⟩ P w K mg base (j + 1)) (f : Fx P w K mg base j T T') : DSs (cxOf (L2.CX P w) P w K mg base n_method_of "method_of" (defScope (top 54)) fa cdv A outer s H E) ⟨fun cls d _ H => E cls d H, []⟩ (defBody (top 54)) (b_method_of T T') := by
  have hN : n_method_of.Nodup := by decide +kernel
  exact (dss_cons (ds_if (dt_w (dw_or (dt_not (dt_of_de (de_fz (do_call C f.G.g_is_name (Nat.le_refl _) (dag_cons (ag_de (de_var 1)) dag_nil))))) (dw_or1 (dt_cmp (op_notInAll (CxOk.hu1 C)) o_notIn (de_var 1) (de_fld (c := "Program") f.a_Program (de_var 0)))))) (dss_one (ds_raise1 C f.e_NoName f.hk2 (de_var 1))) dss_nil)
    (dss_cons (ds_if (dt_not (dt_of_de (de_fz (do_call C f.G.g_is_name (Nat.le_refl _) (dag_cons (ag_de (de_var 2)) dag_nil))))) (dss_one (ds_ret de_non)) dss_nil)
    (dss_one (ds_ret (de_get (CxOk.hu1 C) (de_ix (ix_all (CxOk.hu1 C)) o_ix (de_fld (c := "Program") f.a_Program (de_var 0)) (de_var 1)) (de_var 2) ⟨rfl, rfl, rfl, rfl⟩)))))
abbrev n__law_pot : List Str := ["script", "most", "great", "cell", "seed"]
theorem d__law_pot (C : CxOk (cxOf (L2.CX P w) P w K mg base n__law_pot "_law_pot" (defScope (top 56)) fa cdv A outer s H E) ⟨fun cls d _ H => E cls d H, []⟩ P w K mg base (j + 1)) (f : Fx P w K mg base j T T') : DSs (cxOf (L2.CX P w) P w K mg base n__law_pot "_law_pot" (defScope (top 56)) fa cdv A outer s H E) ⟨fun cls d _ H => E cls d H, []⟩ (defBody (top 56)) (b__law_pot T T') := by
  have hN : n__law_pot.Nodup := by decide +kernel
  exact (dss_cons (ds_setLcO 2 (n := 5) (own := [("cell", 3)]) (CxOk.calm C) hN (di_seq (de_var 0)) (by rfl) (fun s H Cc cl fp => (dg_name 3 hN)) (fun s H Cc cl fp => (dts_one (dt_cmp op_ge o_ge (de_callB call_abs o_abs rfl f.b_abs bt_abs (da_cons (de_var 3) da_nil)) (de_op op_pow o_pow de_int de_int)))) (fun s H Cc cl fp => (de_callB call_abs o_abs rfl f.b_abs bt_abs (da_cons (de_var 3) da_nil)))  (by decide : (2 : Nat) ∉ ([] : List Nat)))
    (dss_cons (ds_set 4 hN de_int (hp := (by decide : (4 : Nat) ∉ ([] : List Nat))))
    (dss_cons (ds_for PassesOwn.leaving (CxOk.calm C) (di_seq (de_var 0)) (dg_name 3 hN (hp := (by decide : (3 : Nat) ∉ ([] : List Nat)))) (dss_one (ds_if (dt_cmp op_lt o_lt (de_callB call_abs o_abs rfl f.b_abs bt_abs (da_cons (de_var 3) da_nil)) (de_op op_pow o_pow de_int de_int)) (dss_one (ds_set 4 hN (de_op op_mod o_mod (de_callTy call_int1 o_int rfl f.b_int bt_int (da_cons (de_op op_addAll o_add (de_op op_addAll o_add (de_op op_mul o_mul (de_var 4) de_int) (de_op op_mul o_mul (de_var 3) de_int)) de_int) da_nil)) de_int) (hp := (by decide : (4 : Nat) ∉ ([] : List Nat))))) dss_nil)))
    (dss_one (ds_retO (do_potNew 2 4 1))))))
abbrev n__law_name : List Str := ["pot", "menu", "at", "size", "k"]
theorem d__law_name (C : CxOk (cxOf (L2.CX P w) P w K mg base n__law_name "_law_name" (defScope (top 58)) fa cdv A outer s H E) ⟨fun cls d _ H => E cls d H, [0]⟩ P w K mg base (j + 1)) (f : Fx P w K mg base j T T') : DSs (cxOf (L2.CX P w) P w K mg base n__law_name "_law_name" (defScope (top 58)) fa cdv A outer s H E) ⟨fun cls d _ H => E cls d H, [0]⟩ (defBody (top 58)) (b__law_name T T') := by
  have hN : n__law_name.Nodup := by decide +kernel
  exact (dss_cons (ds_set 1 hN (de_lst (da_cons de_str (da_cons de_str (da_cons de_str (da_cons de_str (da_cons de_str (da_cons de_str (da_cons de_str (da_cons de_str (da_cons de_str (da_cons de_str (da_cons de_str (da_cons de_str da_nil))))))))))))) (hp := (by decide : (1 : Nat) ∉ ([0] : List Nat))))
    (dss_cons (ds_set 2 hN (de_fz (do_call C f.G.g__law_take (Nat.le_refl _) (dag_cons (ag_var 0) (dag_cons (ag_de de_int) dag_nil)))) (hp := (by decide : (2 : Nat) ∉ ([0] : List Nat))))
    (dss_cons (ds_if (dt_cmp op_lt o_lt (de_var 2) de_int) (dss_one (ds_ret (de_ix (ix_all (CxOk.hu1 C)) o_ix (de_var 1) (de_var 2)))) dss_nil)
    (dss_cons (ds_set 3 hN (de_ix (ix_all (CxOk.hu1 C)) o_ix (de_lst (da_cons de_int (da_cons de_int (da_cons de_int (da_cons de_int (da_cons de_int (da_cons de_int (da_cons de_int (da_cons de_int da_nil))))))))) (de_fz (do_call C f.G.g__law_take (Nat.le_refl _) (dag_cons (ag_var 0) (dag_cons (ag_de de_int) dag_nil))))) (hp := (by decide : (3 : Nat) ∉ ([0] : List Nat))))
    (dss_one (ds_ret (de_join de_str (de_comp (n := 5) (own := [("k", 4)]) (CxOk.calm C) hN (di_rng1 (de_var 3) rfl f.b_range) (by rfl) (fun s H Cc cl fp => (dg_name 4 hN)) (fun s H Cc cl fp => dts_nil) (fun s H Cc cl fp => (de_ix (ix_all (CxOk.hu1 (CxOk.blk (n := 5) (vs := [4]) C))) o_ix de_str (de_fz (do_call (CxOk.blk (n := 5) (vs := [4]) C) f.G.g__law_take (Nat.le_refl _) (dag_cons (ag_var 0) (dag_cons (ag_de de_int) dag_nil))))))))))))))
abbrev n__law_turned : List Str := ["thing", "turned", "name", "row", "part"]
theorem d__law_turned (C : CxOk (cxOf (L2.CX P w) P w K mg base n__law_turned "_law_turned" (defScope (top 59)) fa cdv A outer s H E) ⟨fun cls d _ H => E cls d H, []⟩ P w K mg base (j + 1)) (f : Fx P w K mg base j T T') : DSs (cxOf (L2.CX P w) P w K mg base n__law_turned "_law_turned" (defScope (top 59)) fa cdv A outer s H E) ⟨fun cls d _ H => E cls d H, []⟩ (defBody (top 59)) (b__law_turned T T') := by
  have hN : n__law_turned.Nodup := by decide +kernel
  exact (dss_cons (ds_if (dt_not (dt_of_de (de_isi "dict" cs f.i_ rfl f.b_isinstance rfl f.b_dict (dp_of_de (de_var 0))))) (dss_one (ds_ret (de_var 0))) dss_nil)
    (dss_cons (ds_setO 1 hN do_dnew (hp := (by decide : (1 : Nat) ∉ ([] : List Nat))))
    (dss_cons (ds_for PassesOwn.leaving (CxOk.calm C) (di_rev (de_callTy (cr_list (CxOk.calm C)) o_listAll rfl f.b_list bt_list (da_cons (de_var 0) da_nil)) rfl f.b_reversed) (dg_name 2 hN (hp := (by decide : (2 : Nat) ∉ ([] : List Nat)))) (dss_cons (ds_set 3 hN (de_ix (ix_all (CxOk.hu1 C)) o_ix (de_var 0) (de_var 2)) (hp := (by decide : (3 : Nat) ∉ ([] : List Nat))))
    (dss_cons (ds_if (dt_of_de (de_isi "tuple" cs f.i_ rfl f.b_isinstance rfl f.b_tuple (dp_of_de (de_var 3)))) (dss_one (ds_set 3 hN (de_callTy call_tuple_of o_tupOf rfl f.b_tuple bt_tuple (da_cons (de_comp (n := 5) (own := [("part", 4)]) (CxOk.calm C) hN (di_seq (de_var 3)) (by rfl) (fun s H Cc cl fp => (dg_name 4 hN)) (fun s H Cc cl fp => dts_nil) (fun s H Cc cl fp => (de_fz (do_call (CxOk.blk (n := 5) (vs := [4]) C) f.G.g__law_turned (Nat.le_refl _) (dag_cons (ag_de (de_var 4)) dag_nil))))) da_nil)) (hp := (by decide : (3 : Nat) ∉ ([] : List Nat))))) dss_nil)
    (dss_one (ds_putK 1 (CxOk.hu1 C) (de_var 3) (de_var 2))))))
    (dss_one (ds_retO (do_var 1))))))
abbrev n__law_methods : List Str := ["pot", "methods", "k", "name"]
theorem d__law_methods (C : CxOk (cxOf (L2.CX P w) P w K mg base n__law_methods "_law_methods" (defScope (top 60)) fa cdv A outer s H E) ⟨fun cls d _ H => E cls d H, [0]⟩ P w K mg base (j + 1)) (f : Fx P w K mg base j T T') : DSs (cxOf (L2.CX P w) P w K mg base n__law_methods "_law_methods" (defScope (top 60)) fa cdv A outer s H E) ⟨fun cls d _ H => E cls d H, [0]⟩ (defBody (top 60)) (b__law_methods T T') := by
  have hN : n__law_methods.Nodup := by decide +kernel
  exact (dss_cons (ds_setO 1 hN do_dnew (hp := (by decide : (1 : Nat) ∉ ([0] : List Nat))))
    (dss_cons (ds_for PassesOwn.leaving (CxOk.calm C) (di_rng1 (de_fz (do_call C f.G.g__law_take (Nat.le_refl _) (dag_cons (ag_var 0) (dag_cons (ag_de de_int) dag_nil)))) rfl f.b_range) (dg_name 2 hN (hp := (by decide : (2 : Nat) ∉ ([0] : List Nat)))) (dss_cons (ds_set 3 hN (de_fz (do_call C f.G.g__law_name (Nat.le_refl _) (dag_cons (ag_var 0) dag_nil))) (hp := (by decide : (3 : Nat) ∉ ([0] : List Nat))))
    (dss_one (ds_putK 1 (CxOk.hu1 C) (de_ix (ix_all (CxOk.hu1 C)) o_ix (de_lst (da_cons de_str (da_cons de_str (da_cons de_str da_nil)))) (de_fz (do_call C f.G.g__law_take (Nat.le_refl _) (dag_cons (ag_var 0) (dag_cons (ag_de de_int) dag_nil))))) (de_var 3)))))
    (dss_one (ds_retO (do_var 1)))))
abbrev n__law_classes : List Str := ["pot", "classes", "order", "fields", "k", "name", "parent", "at", "had", "own", "j", "field"]
theorem d__law_classes (C : CxOk (cxOf (L2.CX P w) P w K mg base n__law_classes "_law_classes" (defScope (top 61)) fa cdv A outer s H E) ⟨fun cls d _ H => E cls d H, [0]⟩ P w K mg base (j + 1)) (f : Fx P w K mg base j T T') : DSs (cxOf (L2.CX P w) P w K mg base n__law_classes "_law_classes" (defScope (top 61)) fa cdv A outer s H E) ⟨fun cls d _ H => E cls d H, [0]⟩ (defBody (top 61)) (b__law_classes T T') := by
  have hN : n__law_classes.Nodup := by decide +kernel
  exact (dss_cons (ds_setO 1 hN do_dnew (hp := (by decide : (1 : Nat) ∉ ([0] : List Nat))))
    (dss_cons (ds_setO 2 hN (do_lst da_nil) (hp := (by decide : (2 : Nat) ∉ ([0] : List Nat))))
    (dss_cons (ds_setO 3 hN do_dnew (hp := (by decide : (3 : Nat) ∉ ([0] : List Nat))))
    (dss_cons (ds_for PassesOwn.leaving (CxOk.calm C) (di_rng1 (de_fz (do_call C f.G.g__law_take (Nat.le_refl _) (dag_cons (ag_var 0) (dag_cons (ag_de de_int) dag_nil)))) rfl f.b_range) (dg_name 4 hN (hp := (by decide : (4 : Nat) ∉ ([0] : List Nat)))) (dss_cons (ds_set 5 hN (de_fz (do_call C f.G.g__law_name (Nat.le_refl _) (dag_cons (ag_var 0) dag_nil))) (hp := (by decide : (5 : Nat) ∉ ([0] : List Nat))))
    (dss_cons (ds_if (dt_cmp (op_inAll (CxOk.hu1 C)) o_in (de_var 5) (de_lst (da_cons de_str (da_cons de_str (da_cons de_str da_nil))))) (dss_one (ds_set 5 hN (de_op op_addAll o_add (de_var 5) de_str) (hp := (by decide : (5 : Nat) ∉ ([0] : List Nat))))) dss_nil)
    (dss_one (ds_if (dt_cmpP (op_notInAll (CxOk.hu1 C)) o_notIn fNotIn_flat (de_var 5) (dp_var 1)) (dss_cons (ds_set 6 hN de_non (hp := (by decide : (6 : Nat) ∉ ([0] : List Nat))))
    (dss_cons (ds_set 7 hN (de_fz (do_call C f.G.g__law_take (Nat.le_refl _) (dag_cons (ag_var 0) (dag_cons (ag_de (de_op op_addAll o_add (de_callP cr_len o_len fLen_flat rfl f.b_len bt_len (dp_var 2)) de_int)) dag_nil)))) (hp := (by decide : (7 : Nat) ∉ ([0] : List Nat))))
    (dss_cons (ds_if (dt_cmp op_lt o_lt (de_var 7) (de_callP cr_len o_len fLen_flat rfl f.b_len bt_len (dp_var 2))) (dss_one (ds_set 6 hN (de_ixO 2 (CxOk.hu1 C) (de_var 7)) (hp := (by decide : (6 : Nat) ∉ ([0] : List Nat))))) (dss_one (ds_if (dt_w (dw_and (dt_cmp (op_eqX (CxOk.hu64 C)) o_eqX (de_var 7) (de_callP cr_len o_len fLen_flat rfl f.b_len bt_len (dp_var 2))) (dw_and1 (dt_cmp op_gt o_gt (de_callP cr_len o_len fLen_flat rfl f.b_len bt_len (dp_var 2)) de_int)))) (dss_one (ds_set 6 hN (de_ixO 2 (CxOk.hu1 C) (de_un un_neg o_neg de_int)) (hp := (by decide : (6 : Nat) ∉ ([0] : List Nat))))) dss_nil)))
    (dss_cons (ds_set 8 hN (de_tup da_nil) (hp := (by decide : (8 : Nat) ∉ ([0] : List Nat))))
    (dss_cons (ds_if (dt_cmp op_notN o_notN (de_var 6) de_non) (dss_one (ds_set 8 hN (de_ixO 3 (CxOk.hu1 C) (de_var 6)) (hp := (by decide : (8 : Nat) ∉ ([0] : List Nat))))) dss_nil)
    (dss_cons (ds_set 9 hN (de_tup da_nil) (hp := (by decide : (9 : Nat) ∉ ([0] : List Nat))))
    (dss_cons (ds_for PassesOwn.leaving (CxOk.calm C) (di_rng1 (de_fz (do_call C f.G.g__law_take (Nat.le_refl _) (dag_cons (ag_var 0) (dag_cons (ag_de de_int) dag_nil)))) rfl f.b_range) (dg_name 10 hN (hp := (by decide : (10 : Nat) ∉ ([0] : List Nat)))) (dss_cons (ds_set 11 hN (de_fz (do_call C f.G.g__law_name (Nat.le_refl _) (dag_cons (ag_var 0) dag_nil))) (hp := (by decide : (11 : Nat) ∉ ([0] : List Nat))))
    (dss_one (ds_if (dt_w (dw_and (dt_cmp (op_notInAll (CxOk.hu1 C)) o_notIn (de_var 11) (de_var 8)) (dw_and (dt_cmp (op_notInAll (CxOk.hu1 C)) o_notIn (de_var 11) (de_var 9)) (dw_and1 (dt_cmp op_lt o_lt (de_op op_addAll o_add (de_callB cr_len o_len rfl f.b_len bt_len (da_cons (de_var 8) da_nil)) (de_callB cr_len o_len rfl f.b_len bt_len (da_cons (de_var 9) da_nil))) de_int))))) (dss_one (ds_set 9 hN (de_op op_addAll o_add (de_var 9) (de_tup (da_cons (de_var 11) da_nil))) (hp := (by decide : (9 : Nat) ∉ ([0] : List Nat))))) dss_nil))))
    (dss_cons (ds_expr (de_meth PySem.F.slot_list_append PySem.F.type_list_append (MtM.r mt_append) o_app 2 (da_cons (de_var 5) da_nil)))
    (dss_cons (ds_putK 3 (CxOk.hu1 C) (de_op op_addAll o_add (de_var 8) (de_var 9)) (de_var 5))
    (dss_one (ds_putK 1 (CxOk.hu1 C) (de_tup (da_cons (de_var 6) (da_cons (de_op op_addAll o_add de_int (de_fz (do_call C f.G.g__law_take (Nat.le_refl _) (dag_cons (ag_var 0) (dag_cons (ag_de de_int) dag_nil))))) (da_cons (de_var 9) (da_cons (de_fz (do_call C f.G.g__law_methods (Nat.le_refl _) (dag_cons (ag_var 0) dag_nil))) da_nil))))) (de_var 5)))))))))))) dss_nil)))))
    (dss_one (ds_retO (do_var 1)))))))
abbrev n__law_line : List Str := ["classes", "name", "line", "k"]
theorem d__law_line (C : CxOk (cxOf (L2.CX P w) P w K mg base n__law_line "_law_line" (defScope (top 62)) fa cdv A outer s H E) ⟨fun cls d _ H => E cls d H, []⟩ P w K mg base (j + 1)) (f : Fx P w K mg base j T T') : DSs (cxOf (L2.CX P w) P w K mg base n__law_line "_law_line" (defScope (top 62)) fa cdv A outer s H E) ⟨fun cls d _ H => E cls d H, []⟩ (defBody (top 62)) (b__law_line T T') := by
  have hN : n__law_line.Nodup := by decide +kernel
  exact (dss_cons (ds_setO 2 hN (do_lst da_nil) (hp := (by decide : (2 : Nat) ∉ ([] : List Nat))))
    (dss_cons (ds_for PassesOwn.leaving (CxOk.calm C) (di_rng1 de_int rfl f.b_range) (dg_name 3 hN (hp := (by decide : (3 : Nat) ∉ ([] : List Nat)))) (dss_one (ds_if (dt_cmp op_notN o_notN (de_var 1) de_non) (dss_cons (ds_expr (de_meth PySem.F.slot_list_append PySem.F.type_list_append (MtM.r mt_append) o_app 2 (da_cons (de_var 1) da_nil)))
    (dss_one (ds_set 1 hN (de_ix (ix_all (CxOk.hu1 C)) o_ix (de_ix (ix_all (CxOk.hu1 C)) o_ix (de_var 0) (de_var 1)) de_int) (hp := (by decide : (1 : Nat) ∉ ([] : List Nat)))))) dss_nil)))
    (dss_one (ds_retO (do_var 2)))))
abbrev n__law_refused : List Str := ["program", "thing", "told", "e"]
theorem d__law_refused (C : CxOk (cxOf (L2.CX P w) P w K mg base n__law_refused "_law_refused" (defScope (top 63)) fa cdv A outer s H E) ⟨fun cls d _ H => E cls d H, []⟩ P w K mg base (j + 1)) (f : Fx P w K mg base j T T') : DSs (cxOf (L2.CX P w) P w K mg base n__law_refused "_law_refused" (defScope (top 63)) fa cdv A outer s H E) ⟨fun cls d _ H => E cls d H, []⟩ (defBody (top 63)) (b__law_refused T T') := by
  have hN : n__law_refused.Nodup := by decide +kernel
  have f_x_name := f.x_name
  exact (dss_cons (ds_setO 2 hN (do_lst da_nil) (hp := (by decide : (2 : Nat) ∉ ([] : List Nat))))
    (dss_cons (ds_tryAs 3 rfl rfl hN (CxOk.takes C) f.m_NoName f.gm_NoName (fun Wx pn xe tk po => (dss_one (ds_expr (de_fz (do_call (CxOk.tr C tk) f.G.g_fields_of (Nat.le_refl _) (dag_cons (ag_de (de_var 0)) (dag_cons (ag_de (de_var 1)) dag_nil))))))) (fun a oe cls d pn hz hv => letI : XAd := ⟨fun a' cls' d' => a' = a ∧ cls' = cls ∧ d' = d⟩; (dss_one (ds_expr (de_meth PySem.F.slot_list_append PySem.F.type_list_append (MtM.r mt_append) o_app 2 (da_cons (de_xf 3 hz hv f_x_name) da_nil))))) (hp := (by decide : (3 : Nat) ∉ ([] : List Nat))))
    (dss_cons (ds_tryAs 3 rfl rfl hN (CxOk.takes C) f.m_NoName f.gm_NoName (fun Wx pn xe tk po => (dss_one (ds_expr (de_fz (do_call (CxOk.tr C tk) f.G.g_method_of (Nat.le_refl _) (dag_cons (ag_de (de_var 0)) (dag_cons (ag_de (de_var 1)) (dag_cons (ag_de de_str) dag_nil)))))))) (fun a oe cls d pn hz hv => letI : XAd := ⟨fun a' cls' d' => a' = a ∧ cls' = cls ∧ d' = d⟩; (dss_one (ds_expr (de_meth PySem.F.slot_list_append PySem.F.type_list_append (MtM.r mt_append) o_app 2 (da_cons (de_xf 3 hz hv f_x_name) da_nil))))) (hp := (by decide : (3 : Nat) ∉ ([] : List Nat))))
    (dss_one (ds_retO (do_var 2))))))
abbrev n__law_right : List Str := ["program", "classes", "methods", "name", "line", "due", "above", "told", "method", "having"]
theorem d__law_right (C : CxOk (cxOf (L2.CX P w) P w K mg base n__law_right "_law_right" (defScope (top 64)) fa cdv A outer s H E) ⟨fun cls d _ H => E cls d H, []⟩ P w K mg base (j + 1)) (f : Fx P w K mg base j T T') : DSs (cxOf (L2.CX P w) P w K mg base n__law_right "_law_right" (defScope (top 64)) fa cdv A outer s H E) ⟨fun cls d _ H => E cls d H, []⟩ (defBody (top 64)) (b__law_right T T') := by
  have hN : n__law_right.Nodup := by decide +kernel
  exact (dss_cons (ds_forD PassesOwn.leaving (CxOk.calm C) (dwk_keys (dv_var 1)) (dg_name 3 hN (hp := (by decide : (3 : Nat) ∉ ([] : List Nat)))) (dss_cons (ds_set 4 hN (de_fz (do_call C f.G.g__law_line (Nat.le_refl _) (dag_cons (ag_de (de_var 1)) (dag_cons (ag_de (de_var 3)) dag_nil)))) (hp := (by decide : (4 : Nat) ∉ ([] : List Nat))))
    (dss_cons (ds_set 5 hN (de_tup da_nil) (hp := (by decide : (5 : Nat) ∉ ([] : List Nat))))
    (dss_cons (ds_for PassesOwn.leaving (CxOk.calm C) (di_seq (de_var 4)) (dg_name 6 hN (hp := (by decide : (6 : Nat) ∉ ([] : List Nat)))) (dss_one (ds_set 5 hN (de_op op_addAll o_add (de_ix (ix_all (CxOk.hu1 C)) o_ix (de_ix (ix_all (CxOk.hu1 C)) o_ix (de_var 1) (de_var 6)) de_int) (de_var 5)) (hp := (by decide : (5 : Nat) ∉ ([] : List Nat))))))
    (dss_cons (ds_set 7 hN (de_fz (do_call C f.G.g_fields_of (Nat.le_refl _) (dag_cons (ag_de (de_var 0)) (dag_cons (ag_de (de_var 3)) dag_nil)))) (hp := (by decide : (7 : Nat) ∉ ([] : List Nat))))
    (dss_cons (ds_if (dt_w (dw_or (dt_not (dt_of_de (de_isi "tuple" cs f.i_ rfl f.b_isinstance rfl f.b_tuple (dp_of_de (de_var 7))))) (dw_or1 (dt_cmp (op_neX (CxOk.hu64 C)) o_neX (de_var 7) (de_var 5))))) (dss_one (ds_ret de_bl)) dss_nil)
    (dss_one (ds_for PassesOwn.leaving (CxOk.calm C) (di_seq (de_var 2)) (dg_name 8 hN (hp := (by decide : (8 : Nat) ∉ ([] : List Nat)))) (dss_cons (by first | exact (ds_set 9 hN (de_comp (n := 10) (own := [("above", 6)]) (CxOk.calm C) hN (di_seq (de_var 4)) (by rfl) (fun s H Cc cl fp => (dg_name 6 hN)) (fun s H Cc cl fp => (dts_one (dt_cmp (op_inAll (CxOk.hu1 (CxOk.blk (n := 10) (vs := [6]) C))) o_in (de_var 8) (de_ix (ix_all (CxOk.hu1 (CxOk.blk (n := 10) (vs := [6]) C))) o_ix (de_ix (ix_all (CxOk.hu1 (CxOk.blk (n := 10) (vs := [6]) C))) o_ix (de_var 1) (de_var 6)) de_int)))) (fun s H Cc cl fp => (de_var 6))) (hp := (by decide : (9 : Nat) ∉ ([] : List Nat)))) | exact (ds_setLc 9 (n := 10) (own := [("above", 6)]) (CxOk.calm C) hN (di_seq (de_var 4)) (by rfl) (fun s H Cc cl fp => (dg_name 6 hN)) (fun s H Cc cl fp => (dts_one (dt_cmp (op_inAll (CxOk.hu1 (CxOk.blk (n := 10) (vs := [6]) C))) o_in (de_var 8) (de_ix (ix_all (CxOk.hu1 (CxOk.blk (n := 10) (vs := [6]) C))) o_ix (de_ix (ix_all (CxOk.hu1 (CxOk.blk (n := 10) (vs := [6]) C))) o_ix (de_var 1) (de_var 6)) de_int)))) (fun s H Cc cl fp => (de_var 6))  (by decide : (9 : Nat) ∉ ([] : List Nat))))
    (dss_cons (ds_set 7 hN (de_fz (do_call C f.G.g_method_of (Nat.le_refl _) (dag_cons (ag_de (de_var 0)) (dag_cons (ag_de (de_var 3)) (dag_cons (ag_de (de_var 8)) dag_nil))))) (hp := (by decide : (7 : Nat) ∉ ([] : List Nat))))
    (dss_cons (ds_if (dt_w (dw_and (dt_cmp (op_eqX (CxOk.hu64 C)) o_eqX (de_callB cr_len o_len rfl f.b_len bt_len (da_cons (de_var 9) da_nil)) de_int) (dw_and1 (dt_cmp op_notN o_notN (de_var 7) de_non)))) (dss_one (ds_ret de_bl)) dss_nil)
    (dss_one (ds_if (dt_w (dw_and (dt_cmp op_gt o_gt (de_callB cr_len o_len rfl f.b_len bt_len (da_cons (de_var 9) da_nil)) de_int) (dw_and1 (dt_w (dw_or (dt_not (dt_of_de (de_isi "str" cs f.i_ rfl f.b_isinstance rfl f.b_str (dp_of_de (de_var 7))))) (dw_or1 (dt_cmp (op_neX (CxOk.hu64 C)) o_neX (de_var 7) (de_ix (ix_all (CxOk.hu1 C)) o_ix (de_ix (ix_all (CxOk.hu1 C)) o_ix (de_ix (ix_all (CxOk.hu1 C)) o_ix (de_var 1) (de_ix (ix_all (CxOk.hu1 C)) o_ix (de_var 9) de_int)) de_int) (de_var 8))))))))) (dss_one (ds_ret de_bl)) dss_nil)))))))))))))
    (dss_one (ds_ret de_bl)))
abbrev n_law : List Str := ["script", "pot", "way", "functions", "classes", "others", "methods", "name", "program", "other", "k", "odd", "thing", "told"]
theorem d_law (C : CxOk (cxOf (L2.CX P w) P w K mg base n_law "law" (defScope (top 65)) fa cdv A outer s H E) ⟨fun cls d _ H => E cls d H, []⟩ P w K mg base (j + 1)) (f : Fx P w K mg base j T T') : DSs (cxOf (L2.CX P w) P w K mg base n_law "law" (defScope (top 65)) fa cdv A outer s H E) ⟨fun cls d _ H => E cls d H, []⟩ (defBody (top 65)) (b_law T T') := by
  have hN : n_law.Nodup := by decide +kernel
  exact (dss_cons (ds_setO 1 hN (do_call C f.G.g__law_pot (Nat.le_refl _) (dag_cons (ag_de (de_var 0)) (dag_cons (ag_de de_int) dag_nil))) (hp := (by decide : (1 : Nat) ∉ ([] : List Nat))))
    (dss_cons (ds_set 2 hN (de_fz (do_call C f.G.g__law_take (Nat.le_refl _) (dag_cons (ag_var 1) (dag_cons (ag_de de_int) dag_nil)))) (hp := (by decide : (2 : Nat) ∉ ([] : List Nat))))
    (dss_cons (ds_set 3 hN (de_disp (dps_cons (de_tup (da_cons (de_tup (da_cons de_str da_nil)) (da_cons de_int (da_cons (de_tup da_nil) da_nil)))) (dps_cons (de_tup (da_cons (de_tup (da_cons de_str (da_cons de_str da_nil))) (da_cons de_int (da_cons (de_tup da_nil) da_nil)))) (dps_cons (de_tup (da_cons (de_tup (da_cons de_str da_nil)) (da_cons de_int (da_cons (de_tup (da_cons (de_tup (da_cons de_str (da_cons de_str da_nil))) da_nil)) da_nil)))) dps_nil)))) (hp := (by decide : (3 : Nat) ∉ ([] : List Nat))))
    (dss_cons (ds_set 4 hN (de_fz (do_call C f.G.g__law_classes (Nat.le_refl _) (dag_cons (ag_var 1) dag_nil))) (hp := (by decide : (4 : Nat) ∉ ([] : List Nat))))
    (dss_cons (ds_set 5 hN (de_fz (do_call C f.G.g__law_classes (Nat.le_refl _) (dag_cons (ag_var 1) dag_nil))) (hp := (by decide : (5 : Nat) ∉ ([] : List Nat))))
    (dss_cons (ds_setO 6 hN (do_lst (da_cons de_str da_nil)) (hp := (by decide : (6 : Nat) ∉ ([] : List Nat))))
    (dss_cons (ds_forD PassesOwn.leaving (CxOk.calm C) (dwk_keys (dv_var 4)) (dg_name 7 hN (hp := (by decide : (7 : Nat) ∉ ([] : List Nat)))) (dss_one (ds_expr (de_meth PySem.F.slot_list_extend PySem.F.type_list_extend mt_ext o_ext 6 (da_cons (de_callB (cr_sort (CxOk.calm C)) o_sorted rfl f.b_sorted bt_sorted (da_cons (de_ix (ix_all (CxOk.hu1 C)) o_ix (de_ix (ix_all (CxOk.hu1 C)) o_ix (de_var 4) (de_var 7)) de_int) da_nil)) da_nil)))))
    (dss_cons (ds_forD PassesOwn.leaving (CxOk.calm C) (dwk_keys (dv_var 5)) (dg_name 7 hN (hp := (by decide : (7 : Nat) ∉ ([] : List Nat)))) (dss_one (ds_expr (de_meth PySem.F.slot_list_extend PySem.F.type_list_extend mt_ext o_ext 6 (da_cons (de_callB (cr_sort (CxOk.calm C)) o_sorted rfl f.b_sorted bt_sorted (da_cons (de_ix (ix_all (CxOk.hu1 C)) o_ix (de_ix (ix_all (CxOk.hu1 C)) o_ix (de_var 5) (de_var 7)) de_int) da_nil)) da_nil)))))
    (dss_cons (ds_if (dt_cmp (op_eqX (CxOk.hu64 C)) o_eqX (de_var 2) de_int) (dss_one (ds_set 4 hN (de_fz (do_call C f.G.g__law_turned (Nat.le_refl _) (dag_cons (ag_de (de_var 4)) dag_nil))) (hp := (by decide : (4 : Nat) ∉ ([] : List Nat))))) dss_nil)
    (dss_cons (ds_set 8 hN (de_fzO (do_make C f.G.k_Program (Nat.le_refl _) (dag_cons (ag_de de_dnew) (dag_cons (ag_de (de_var 4)) (dag_cons (ag_de (de_var 3)) dag_nil))))) (hp := (by decide : (8 : Nat) ∉ ([] : List Nat))))
    (dss_cons (ds_set 9 hN (de_fzO (do_make C f.G.k_Program (Nat.le_refl _) (dag_cons (ag_de de_dnew) (dag_cons (ag_de (de_var 5)) (dag_cons (ag_de (de_var 3)) dag_nil))))) (hp := (by decide : (9 : Nat) ∉ ([] : List Nat))))
    (dss_cons (ds_for PassesOwn.leaving (CxOk.calm C) (di_rng1 de_int rfl f.b_range) (dg_name 10 hN (hp := (by decide : (10 : Nat) ∉ ([] : List Nat)))) (dss_frz 6 (dss_one (ds_if (dt_w (dw_or (dt_not (dt_of_de (de_fz (do_call C f.G.g__law_right (Nat.le_refl _) (dag_cons (ag_de (de_var 8)) (dag_cons (ag_de (de_var 4)) (dag_cons (ag_de (de_var 6)) dag_nil))))))) (dw_or1 (dt_not (dt_of_de (de_fz (do_call C f.G.g__law_right (Nat.le_refl _) (dag_cons (ag_de (de_var 9)) (dag_cons (ag_de (de_var 5)) (dag_cons (ag_de (de_var 6)) dag_nil)))))))))) (dss_one (ds_ret de_bl)) dss_nil))))
    (dss_cons (ds_setO 11 hN (do_lst (da_cons de_non (da_cons de_bl (da_cons de_int (da_cons de_str (da_cons de_str (da_cons de_str (da_cons de_str (da_cons de_str (da_cons (de_tup da_nil) (da_cons (de_tup (da_cons de_str da_nil)) (da_cons (de_lst da_nil) (da_cons de_dnew (da_cons de_str (da_cons (de_fz (do_call C f.G.g__law_name (Nat.le_refl _) (dag_cons (ag_var 1) dag_nil))) da_nil))))))))))))))) (hp := (by decide : (11 : Nat) ∉ ([] : List Nat))))
    (dss_cons (ds_expr (de_meth PySem.F.slot_list_extend PySem.F.type_list_extend mt_ext o_ext 11 (da_cons (de_lst (da_cons de_str (da_cons de_str (da_cons de_str (da_cons de_str (da_cons de_str da_nil)))))) da_nil)))
    (dss_frz 11 (dss_cons (ds_for PassesOwn.leaving (CxOk.calm C) (di_seq (de_var 11)) (dg_name 12 hN (hp := (by decide : (12 : Nat) ∉ ([] : List Nat)))) (dss_one (ds_if (dt_w (dw_and (dt_of_de (de_isi "str" cs f.i_ rfl f.b_isinstance rfl f.b_str (dp_of_de (de_var 12)))) (dw_and1 (dt_cmp (op_inAll (CxOk.hu1 C)) o_in (de_var 12) (de_var 4))))) (dss_one (ds_if (dt_cmp (op_neX (CxOk.hu64 C)) o_neX (de_fz (do_call C f.G.g__law_refused (Nat.le_refl _) (dag_cons (ag_de (de_var 8)) (dag_cons (ag_de (de_var 12)) dag_nil)))) (de_lst da_nil)) (dss_one (ds_ret de_bl)) dss_nil)) (dss_one (ds_if (dt_cmp (op_neX (CxOk.hu64 C)) o_neX (de_fz (do_call C f.G.g__law_refused (Nat.le_refl _) (dag_cons (ag_de (de_var 8)) (dag_cons (ag_de (de_var 12)) dag_nil)))) (de_lst (da_cons (de_var 12) (da_cons (de_var 12) da_nil)))) (dss_one (ds_ret de_bl)) dss_nil)))))
    (dss_cons (ds_set 13 hN (de_op op_addAll o_add (de_fz (do_call C f.G.g__law_refused (Nat.le_refl _) (dag_cons (ag_de (de_var 8)) (dag_cons (ag_de de_bl) dag_nil)))) (de_fz (do_call C f.G.g__law_refused (Nat.le_refl _) (dag_cons (ag_de (de_var 8)) (dag_cons (ag_de de_int) dag_nil))))) (hp := (by decide : (13 : Nat) ∉ ([] : List Nat))))
    (dss_one (ds_ret (de_cmp (op_eqX (CxOk.hu64 C)) o_eqX (de_callB cr_len o_len rfl f.b_len bt_len (da_cons (de_comp (n := 14) (own := [("thing", 12)]) (CxOk.calm C) hN (di_seq (de_var 13)) (by rfl) (fun s H Cc cl fp => (dg_name 12 hN)) (fun s H Cc cl fp => (dts_one (dt_of_de (de_isi "bool" cs f.i_ rfl f.b_isinstance rfl f.b_bool (dp_of_de (de_var 12)))))) (fun s H Cc cl fp => (de_var 12))) da_nil)) de_int))))))))))))))))))))
abbrev n_Program_init_ : List Str := ["self", "shared", "classes", "functions"]
theorem d_Program_init_ (C : CxOk (cxOf (L2.CX P w) P w K mg base n_Program_init_ "Program.__init__" (defScope (clsAt (top 52) 0)) fa cdv A outer s H E) ⟨fun cls d _ H => E cls d H, [0]⟩ P w K mg base (j + 1)) (f : Fx P w K mg base j T T') : DSs (cxOf (L2.CX P w) P w K mg base n_Program_init_ "Program.__init__" (defScope (clsAt (top 52) 0)) fa cdv A outer s H E) ⟨fun cls d _ H => E cls d H, [0]⟩ (defBody (clsAt (top 52) 0)) (b_Program_init_ T T') := by
  have hN : n_Program_init_.Nodup := by decide +kernel
  exact (dss_cons (ds_expr (de_fz (do_call C f.G.g_check_program (Nat.le_refl _) (dag_cons (ag_de (de_var 1)) (dag_cons (ag_de (de_var 2)) (dag_cons (ag_de (de_var 3)) dag_nil))))))
    (dss_one (ds_expr (de_fz (do_self 0 C f.G.m_Program_fill (Nat.le_refl _) (dag_cons (ag_de (de_var 1)) (dag_cons (ag_de (de_var 2)) (dag_cons (ag_de (de_var 3)) dag_nil))))))))
abbrev n_Program_fill : List Str := ["self", "shared", "classes", "functions", "name", "line", "block"]
theorem d_Program_fill (C : CxOk (cxOf (L2.CX P w) P w K mg base n_Program_fill "Program.fill" (defScope (clsAt (top 52) 1)) fa cdv A outer s H E) ⟨fun cls d _ H => E cls d H, [0]⟩ P w K mg base (j + 1)) (f : Fx P w K mg base j T T') : DSs (cxOf (L2.CX P w) P w K mg base n_Program_fill "Program.fill" (defScope (clsAt (top 52) 1)) fa cdv A outer s H E) ⟨fun cls d _ H => E cls d H, [0]⟩ (defBody (clsAt (top 52) 1)) (b_Program_fill T T') := by
  have hN : n_Program_fill.Nodup := by decide +kernel
  exact (dss_cons (ds_fld 0 f.a_Program (do_of (de_callTy call_dictD o_dctOf rfl f.b_dict bt_dict (da_cons (de_var 1) da_nil))))
    (dss_cons (ds_fld 0 f.a_Program (do_of (de_callTy call_tuple_of o_tupOf rfl f.b_tuple bt_tuple (da_cons (de_callB (cr_sort (CxOk.calm C)) o_sorted rfl f.b_sorted bt_sorted (da_cons (de_var 1) da_nil)) da_nil))))
    (dss_cons (ds_fld 0 f.a_Program (do_call C f.G.g_copied_classes (Nat.le_refl _) (dag_cons (ag_de (de_var 2)) dag_nil)))
    (dss_cons (ds_fld 0 f.a_Program (do_of (de_callTy call_dictD o_dctOf rfl f.b_dict bt_dict (da_cons (de_var 3) da_nil))))
    (dss_cons (ds_fld 0 f.a_Program do_dnew)
    (dss_cons (ds_fld 0 f.a_Program do_dnew)
    (dss_cons (ds_forD PassesOwn.leaving (CxOk.calm C) (dwk_keys (dv_var 2)) (dg_name 4 hN (hp := (by decide : (4 : Nat) ∉ ([0] : List Nat)))) (dss_cons (ds_set 5 hN (de_fz (do_call C f.G.g_class_line (Nat.le_refl _) (dag_cons (ag_de (de_var 2)) (dag_cons (ag_de (de_var 4)) dag_nil)))) (hp := (by decide : (5 : Nat) ∉ ([0] : List Nat))))
    (dss_cons (ds_putF 0 (CxOk.hu1 C) f.a_Program (de_fz (do_call C f.G.g_fields_by_line (Nat.le_refl _) (dag_cons (ag_de (de_var 2)) (dag_cons (ag_de (de_var 5)) dag_nil)))) (dv_var 4))
    (dss_one (ds_putF 0 (CxOk.hu1 C) f.a_Program (de_fz (do_call C f.G.g_methods_by_line (Nat.le_refl _) (dag_cons (ag_de (de_var 2)) (dag_cons (ag_de (de_var 5)) dag_nil)))) (dv_var 4))))))
    (dss_cons (ds_fld 0 f.a_Program do_dnew)
    (dss_cons (ds_fld 0 f.a_Program do_dnew)
    (dss_one (ds_for PassesOwn.leaving (CxOk.calm C) (di_seq (de_callB (cr_sort (CxOk.calm C)) o_sorted rfl f.b_sorted bt_sorted (da_cons (de_var 3) da_nil))) (dg_name 4 hN (hp := (by decide : (4 : Nat) ∉ ([0] : List Nat)))) (dss_cons (ds_set 6 hN (de_fz (do_call C f.G.g_plain_block (Nat.le_refl _) (dag_cons (ag_de (de_ix (ix_all (CxOk.hu1 C)) o_ix (de_ix (ix_all (CxOk.hu1 C)) o_ix (de_var 3) (de_var 4)) de_int)) (dag_cons (ag_de (de_ix (ix_all (CxOk.hu1 C)) o_ix (de_ix (ix_all (CxOk.hu1 C)) o_ix (de_var 3) (de_var 4)) de_int)) dag_nil)))) (hp := (by decide : (6 : Nat) ∉ ([0] : List Nat))))
    (dss_cons (ds_putF 0 (CxOk.hu1 C) f.a_Program (de_var 6) (dv_var 4))
    (dss_one (ds_putF 0 (CxOk.hu1 C) f.a_Program (de_fz (do_call C f.G.g_places_of (Nat.le_refl _) (dag_cons (ag_de (de_var 6)) dag_nil))) (dv_var 4))))))))))))))))
abbrev n__law_take : List Str := ["pot", "many", "great", "number"]
theorem d__law_take {X : Cx} (hN : X.N = n__law_take) (hs : X.env.scope = defScope (top 57)) (hf : X.fn = fun _ => true) (b_len : X.mg "len" = none) (b_int : X.mg "int" = none) : PSs X (defBody (top 57)) (tTake X.K) := by
  have hd : X.N.Nodup := by rw [hN]; decide +kernel
  have v0 : ∀ p, PE X (.Name "pot" p) (tVar 0) := fun p => pe_var (by rw [hN]; rfl) (.inl (by rw [hs]; rfl))
  have v1 : ∀ p, PE X (.Name "many" p) (tVar 1) := fun p => pe_var (by rw [hN]; rfl) (.inl (by rw [hs]; rfl))
  have v2 : ∀ p, PE X (.Name "great" p) (tVar 2) := fun p => pe_var (by rw [hN]; rfl) (.inl (by rw [hs]; rfl))
  have v3 : ∀ p, PE X (.Name "number" p) (tVar 3) := fun p => pe_var (by rw [hN]; rfl) (.inl (by rw [hs]; rfl))
  have g2 : ∀ p, PG X (.Name "great" p) (gName 2) := fun p => pg_name hd (by rw [hN]; rfl) (.inl (by rw [hs]; rfl)) (.inl (by rw [hf]))
  have g3 : ∀ p, PG X (.Name "number" p) (gName 3) := fun p => pg_name hd (by rw [hN]; rfl) (.inl (by rw [hs]; rfl)) (.inl (by rw [hf]))
  have gl : Gl X "len" := by show X.env.scope.names.lookup _ = _; rw [hs]; rfl
  have gi : Gl X "int" := by show X.env.scope.names.lookup _ = _; rw [hs]; rfl
  have iT : ∀ {e : Expr} {te : TE} {p pos : Pos} (h : PE X e te) (hs : starEach [e] X.env = (false, eval e X.env) :: starEach [] X.env), PE X (.Call (.Name "int" p) [e] [] pos) (iI te) := fun h hs => pe_callTy call_int1 gi b_int bt_int (pa_cons h pa_nil hs) (by decide) (by decide) hs
  exact pss_cons (ps_asg (pe_ix ix_list (v0 _) pe_int (fun _ _ => rfl)) (g2 _)) <|
    pss_cons (ps_if (pt_cmpR op_gt (pe_callB call_len gl b_len bt_len (pa_cons (v2 _) pa_nil)) pe_int (nomark _))
      (pss_cons (ps_asg (iT (pe_ix ix_list (v2 _) pe_int (fun _ _ => rfl)) rfl) (g3 _)) <|
       pss_cons (ps_asg (pe_op op_fdiv (v3 _) (v1 _)) (pg_sub (v2 _) pe_int set_list)) <|
       pss_cons (ps_if (pt_cmpR op_eq (pe_ix ix_list (v2 _) pe_int (fun _ _ => rfl)) pe_int (nomark _)) (pss_one (ps_expr (pe_bm PySem.F.plainAttrs_list PySem.F.slot_list_pop PySem.F.type_list_pop (MtM.r mt_popAt) (v2 _) (pa_cons pe_int pa_nil)))) pss_nil) <|
       pss_one (ps_ret (pe_op op_mod (iT (v3 _) rfl) (v1 _)))) pss_nil) <|
    pss_cons (ps_asg (pe_op op_add (pe_ix ix_list (v0 _) pe_int (fun _ _ => rfl)) pe_int) (pg_sub (v0 _) pe_int set_list)) <|
    pss_cons (ps_asg (pe_op op_mod (iT (pe_op op_mul (pe_op op_add (pe_op op_add (pe_ix ix_list (v0 _) pe_int (fun _ _ => rfl)) (pe_op op_mul (pe_ix ix_list (v0 _) pe_int (fun _ _ => rfl)) pe_int)) pe_int) pe_int) rfl) pe_int) (g3 _)) <|
    pss_cons (ps_asg (pe_op op_mod (iT (pe_op op_mul (v3 _) (pe_op op_add (pe_op op_fdiv (v3 _) pe_int) pe_int)) rfl) pe_int) (g3 _)) <|
    pss_cons (ps_asg (pe_op op_mod (iT (pe_op op_mul (v3 _) (pe_op op_add (pe_op op_add (pe_op op_fdiv (v3 _) pe_int) pe_int) (pe_ix ix_list (v0 _) pe_int (fun _ _ => rfl)))) rfl) pe_int) (g3 _)) <|
    pss_one (ps_ret (pe_op op_mod (iT (pe_op op_fdiv (v3 _) pe_int) rfl) (v1 _)))
end
end WK
end

section
set_option Elab.async false
set_option linter.all false
set_option maxRecDepth 100000
set_option maxHeartbeats 4000000
namespace WK
open PySem PySem.Spec PyProof.Rows L2 EE
section
variable [XAd]
abbrev FnK (K : PySem.W.Frag) (at_ : Str × Option Str) (x qual : Str) (st : Stmt) : Prop := ∃ fd, FunD K x qual (defArgs st) (defBody st) (defScope st) [] [] (He.fAd K at_) fd
structure Hd (P : Program) (w : World) (K : PySem.W.Frag) (mg : Str → Option Value) (base : Heap) : Prop where
  p_is_integer : FnK K ("is_integer", none) "is_integer" "is_integer" (top 2)
  q_is_integer : mg "is_integer" = some (.ref (He.ga K "is_integer"))
  p_is_number : FnK K ("is_number", none) "is_number" "is_number" (top 3)
  q_is_number : mg "is_number" = some (.ref (He.ga K "is_number"))
  p_is_name : FnK K ("is_name", none) "is_name" "is_name" (top 4)
  q_is_name : mg "is_name" = some (.ref (He.ga K "is_name"))
  p_is_unlike : FnK K ("is_unlike", none) "is_unlike" "is_unlike" (top 5)
  q_is_unlike : mg "is_unlike" = some (.ref (He.ga K "is_unlike"))
  p_is_names : FnK K ("is_names", none) "is_names" "is_names" (top 6)
  q_is_names : mg "is_names" = some (.ref (He.ga K "is_names"))
  p_is_words : FnK K ("is_words", none) "is_words" "is_words" (top 7)
  q_is_words : mg "is_words" = some (.ref (He.ga K "is_words"))
  p_is_expression : FnK K ("is_expression", none) "is_expression" "is_expression" (top 11)
  q_is_expression : mg "is_expression" = some (.ref (He.ga K "is_expression"))
  p_is_expressions : FnK K ("is_expressions", none) "is_expressions" "is_expressions" (top 12)
  q_is_expressions : mg "is_expressions" = some (.ref (He.ga K "is_expressions"))
  p_is_test : FnK K ("is_test", none) "is_test" "is_test" (top 13)
  q_is_test : mg "is_test" = some (.ref (He.ga K "is_test"))
  p_returns : FnK K ("returns", none) "returns" "returns" (top 14)
  q_returns : mg "returns" = some (.ref (He.ga K "returns"))
  p_inner_blocks_blocks : FnK K ("inner_blocks_blocks", none) "inner_blocks" "inner_blocks" (top 15)
  q_inner_blocks_blocks : mg "inner_blocks_blocks" = some (.ref (He.ga K "inner_blocks_blocks"))
  p_is_known : FnK K ("is_known", none) "is_known" "is_known" (top 17)
  q_is_known : mg "is_known" = some (.ref (He.ga K "is_known"))
  p_is_part : FnK K ("is_part", none) "is_part" "is_part" (top 18)
  q_is_part : mg "is_part" = some (.ref (He.ga K "is_part"))
  p_is_statement : FnK K ("is_statement", none) "is_statement" "is_statement" (top 19)
  q_is_statement : mg "is_statement" = some (.ref (He.ga K "is_statement"))
  p_is_block : FnK K ("is_block", none) "is_block" "is_block" (top 20)
  q_is_block : mg "is_block" = some (.ref (He.ga K "is_block"))
  p_class_line : FnK K ("class_line", none) "class_line" "class_line" (top 26)
  q_class_line : mg "class_line" = some (.ref (He.ga K "class_line"))
  p_fields_by_line : FnK K ("fields_by_line", none) "fields_by_line" "fields_by_line" (top 27)
  q_fields_by_line : mg "fields_by_line" = some (.ref (He.ga K "fields_by_line"))
  p_methods_by_line : FnK K ("methods_by_line", none) "methods_by_line" "methods_by_line" (top 28)
  q_methods_by_line : mg "methods_by_line" = some (.ref (He.ga K "methods_by_line"))
  p_is_shared : FnK K ("is_shared", none) "is_shared" "is_shared" (top 29)
  q_is_shared : mg "is_shared" = some (.ref (He.ga K "is_shared"))
  p_is_methods : FnK K ("is_methods", none) "is_methods" "is_methods" (top 30)
  q_is_methods : mg "is_methods" = some (.ref (He.ga K "is_methods"))
  p_is_class_row : FnK K ("is_class_row", none) "is_class_row" "is_class_row" (top 31)
  q_is_class_row : mg "is_class_row" = some (.ref (He.ga K "is_class_row"))
  p_is_classes : FnK K ("is_classes", none) "is_classes" "is_classes" (top 32)
  q_is_classes : mg "is_classes" = some (.ref (He.ga K "is_classes"))
  p_is_function_row : FnK K ("is_function_row", none) "is_function_row" "is_function_row" (top 33)
  q_is_function_row : mg "is_function_row" = some (.ref (He.ga K "is_function_row"))
  p_is_functions : FnK K ("is_functions", none) "is_functions" "is_functions" (top 34)
  q_is_functions : mg "is_functions" = some (.ref (He.ga K "is_functions"))
  p_methods_fit : FnK K ("methods_fit", none) "methods_fit" "methods_fit" (top 35)
  q_methods_fit : mg "methods_fit" = some (.ref (He.ga K "methods_fit"))
  p_check_program : FnK K ("check_program", none) "check_program" "check_program" (top 36)
  q_check_program : mg "check_program" = some (.ref (He.ga K "check_program"))
  p_gather : FnK K ("gather", none) "gather" "gather" (top 38)
  q_gather : mg "gather" = some (.ref (He.ga K "gather"))
  p_free_names : FnK K ("free_names", none) "free_names" "free_names" (top 39)
  q_free_names : mg "free_names" = some (.ref (He.ga K "free_names"))
  p_plain_statement : FnK K ("plain_statement", none) "plain_statement" "plain_statement" (top 40)
  q_plain_statement : mg "plain_statement" = some (.ref (He.ga K "plain_statement"))
  p_plain_rows : FnK K ("plain_rows", none) "plain_rows" "plain_rows" (top 41)
  q_plain_rows : mg "plain_rows" = some (.ref (He.ga K "plain_rows"))
  p_plain_block : FnK K ("plain_block", none) "plain_block" "plain_block" (top 42)
  q_plain_block : mg "plain_block" = some (.ref (He.ga K "plain_block"))
  p_width : FnK K ("width", none) "width" "width" (top 44)
  q_width : mg "width" = some (.ref (He.ga K "width"))
  p_inner_blocks_places : FnK K ("inner_blocks_places", none) "inner_blocks" "inner_blocks" (top 45)
  q_inner_blocks_places : mg "inner_blocks_places" = some (.ref (He.ga K "inner_blocks_places"))
  p_inner_blocks : FnK K ("inner_blocks", none) "inner_blocks" "inner_blocks" (top 45)
  q_inner_blocks : mg "inner_blocks" = some (.ref (He.ga K "inner_blocks"))
  p_heads_of : FnK K ("heads_of", none) "heads_of" "heads_of" (top 47)
  q_heads_of : mg "heads_of" = some (.ref (He.ga K "heads_of"))
  p_lay : FnK K ("lay", none) "lay" "lay" (top 48)
  q_lay : mg "lay" = some (.ref (He.ga K "lay"))
  p_places_of : FnK K ("places_of", none) "places_of" "places_of" (top 49)
  q_places_of : mg "places_of" = some (.ref (He.ga K "places_of"))
  p_copied_classes : FnK K ("copied_classes", none) "copied_classes" "copied_classes" (top 51)
  q_copied_classes : mg "copied_classes" = some (.ref (He.ga K "copied_classes"))
  p_fields_of : FnK K ("fields_of", none) "fields_of" "fields_of" (top 53)
  q_fields_of : mg "fields_of" = some (.ref (He.ga K "fields_of"))
  p_method_of : FnK K ("method_of", none) "method_of" "method_of" (top 54)
  q_method_of : mg "method_of" = some (.ref (He.ga K "method_of"))
  p__law_pot : FnK K ("_law_pot", none) "_law_pot" "_law_pot" (top 56)
  q__law_pot : mg "_law_pot" = some (.ref (He.ga K "_law_pot"))
  p__law_take : FnK K ("_law_take", none) "_law_take" "_law_take" (top 57)
  q__law_take : mg "_law_take" = some (.ref (He.ga K "_law_take"))
  p__law_name : FnK K ("_law_name", none) "_law_name" "_law_name" (top 58)
  q__law_name : mg "_law_name" = some (.ref (He.ga K "_law_name"))
  p__law_turned : FnK K ("_law_turned", none) "_law_turned" "_law_turned" (top 59)
  q__law_turned : mg "_law_turned" = some (.ref (He.ga K "_law_turned"))
  p__law_methods : FnK K ("_law_methods", none) "_law_methods" "_law_methods" (top 60)
  q__law_methods : mg "_law_methods" = some (.ref (He.ga K "_law_methods"))
  p__law_classes : FnK K ("_law_classes", none) "_law_classes" "_law_classes" (top 61)
  q__law_classes : mg "_law_classes" = some (.ref (He.ga K "_law_classes"))
  p__law_line : FnK K ("_law_line", none) "_law_line" "_law_line" (top 62)
  q__law_line : mg "_law_line" = some (.ref (He.ga K "_law_line"))
  p__law_refused : FnK K ("_law_refused", none) "_law_refused" "_law_refused" (top 63)
  q__law_refused : mg "_law_refused" = some (.ref (He.ga K "_law_refused"))
  p__law_right : FnK K ("_law_right", none) "_law_right" "_law_right" (top 64)
  q__law_right : mg "_law_right" = some (.ref (He.ga K "_law_right"))
  p_law : FnK K ("law", none) "law" "law" (top 65)
  q_law : mg "law" = some (.ref (He.ga K "law"))
  p_Program_init_ : FnK K ("Program", some "__init__") "__init__" "Program.__init__" (clsAt (top 52) 0)
  p_Program_fill : FnK K ("Program", some "fill") "fill" "Program.fill" (clsAt (top 52) 1)
  gm_Program : mg "Program" = some (.ref (He.ga K "Program"))
  mk_Program : Mk K (He.ga K "Program") (He.ma K (He.ga K "Program") "__init__")
  cl_Program_fill : Cls K (He.ga K "Program")
  mt_Program_fill : Meth K (He.ga K "Program") "fill" (He.ma K (He.ga K "Program") "fill")
  b_abs : mg "abs" = none
  b_all : mg "all" = none
  b_any : mg "any" = none
  b_bool : mg "bool" = none
  b_dict : mg "dict" = none
  b_enumerate : mg "enumerate" = none
  b_int : mg "int" = none
  b_isinstance : mg "isinstance" = none
  b_len : mg "len" = none
  b_list : mg "list" = none
  b_range : mg "range" = none
  b_reversed : mg "reversed" = none
  b_set : mg "set" = none
  b_sorted : mg "sorted" = none
  b_str : mg "str" = none
  b_tuple : mg "tuple" = none
  s_LETTERS : ∃ t, mg "LETTERS" = some (.str c_LETTERS t)
  g_KINDS : mg "KINDS" = some (.ref (He.ga K "KINDS"))
  r_KINDS : ∀ B, Rep K B c_KINDS (.ref (He.ga K "KINDS"))
  g_SHAPES : mg "SHAPES" = some (.ref (He.ga K "SHAPES"))
  t_SHAPES : TabK K w "SHAPES" c_SHAPES
  i_ : ∀ c ∈ cs, InsK K c
  a_Program : AtK K "Program" at_Program
  e_BadProgram : ExcF P w K mg base 1 "BadProgram" "part"
  e_NoName : ExcF P w K mg base 1 "NoName" "name"
  m_NoName : ExmK K "NoName" m_NoName
  gm_NoName : mg "NoName" = some (.ref (He.ga K "NoName"))
  x_name : ∀ c ∈ x_name, XfC K (He.ga K c) ∧ PySem.W.findIn K (.ref (He.ga K c)) "name" = some none
def badF : Fn := fun _ => .bad
theorem keeps_bad {n : Nat} : Keeps n badF := ⟨fun _ _ => rfl, fun _ _ _ h => (by cases h), fun _ _ _ h => (by cases h)⟩
theorem ok_bad {P : Program} {w : World} {K : PySem.W.Frag} {mg : Str → Option Value} {base : Heap} {k n : Nat} {f : Addr} {fd : FuncData} {ps : List Str} : FnOk P w K mg base (L2.CX P w) k f fd ps (spM K n badF) :=
  ⟨fun _ _ _ _ ⟨_, _, _, _, _, h⟩ => h.elim, fun _ _ _ _ _ _ _ _ _ _ _ _ _ h => by obtain ⟨_, _, _, _, _, h⟩ := h; exact h.elim⟩
def Tn (T T' : Nat → Fn) : Nat → Fn
  | 0 => runDef 1 0 [] (b_is_integer T T')
  | 1 => runDef 3 0 [] (b_is_number T T')
  | 2 => runDef 1 1 [] (b_is_name T T')
  | 3 => runDef 1 0 [] (b_is_unlike T T')
  | 4 => runDef 2 1 [] (b_is_names T T')
  | 5 => runDef 2 1 [] (b_is_words T T')
  | 6 => runDef 1 0 [] (b_is_expression T T')
  | 7 => runDef 1 1 [] (b_is_expressions T T')
  | 8 => runDef 3 0 [] (b_is_test T T')
  | 9 => runDef 1 2 [] (b_returns T T')
  | 10 => runDef 1 0 [] (b_inner_blocks T T')
  | 11 => runDef 3 0 [] (b_is_known T T')
  | 12 => runDef 4 0 [] (b_is_part T T')
  | 13 => runDef 3 3 [] (b_is_statement T T')
  | 14 => runDef 3 1 [] (b_is_block T T')
  | 15 => runDef 2 1 [] (b_class_line T T')
  | 16 => runDef 2 2 [] (b_fields_by_line T T')
  | 17 => runDef 2 4 [] (b_methods_by_line T T')
  | 18 => runDef 1 2 [] (b_is_shared T T')
  | 19 => runDef 1 2 [] (b_is_methods T T')
  | 20 => runDef 2 4 [] (b_is_class_row T T')
  | 21 => runDef 1 4 [] (b_is_classes T T')
  | 22 => runDef 1 0 [] (b_is_function_row T T')
  | 23 => runDef 1 2 [] (b_is_functions T T')
  | 24 => runDef 2 2 [] (b_methods_fit T T')
  | 25 => runDef 3 2 [] (b_check_program T T')
  | 26 => runDef 2 1 [1] (b_gather T T')
  | 27 => runDef 2 2 [] (b_free_names T T')
  | 28 => runDef 2 3 [1] (b_plain_statement T T')
  | 29 => runDef 2 2 [1] (b_plain_rows T T')
  | 30 => runDef 2 0 [] (b_plain_block T T')
  | 31 => runDef 1 3 [] (b_width T T')
  | 32 => runDef 1 0 [] (b_inner_blocks__2 T T')
  | 33 => runDef 3 4 [] (b_heads_of T T')
  | 34 => runDef 4 4 [3] (b_lay T T')
  | 35 => runDef 1 1 [] (b_places_of T T')
  | 36 => runDef 1 2 [] (b_copied_classes T T')
  | 37 => runDef 2 0 [] (b_fields_of T T')
  | 38 => runDef 3 0 [] (b_method_of T T')
  | 39 => runDef 2 3 [] (b__law_pot T T')
  | 40 => takeFn
  | 41 => runDef 1 4 [0] (b__law_name T T')
  | 42 => runDef 1 4 [] (b__law_turned T T')
  | 43 => runDef 1 3 [0] (b__law_methods T T')
  | 44 => runDef 1 11 [0] (b__law_classes T T')
  | 45 => runDef 2 2 [] (b__law_line T T')
  | 46 => runDef 2 2 [] (b__law_refused T T')
  | 47 => runDef 3 7 [] (b__law_right T T')
  | 48 => runDef 1 13 [] (b_law T T')
  | 49 => runDef 4 0 [0] (b_Program_init_ T T')
  | 50 => runDef 4 3 [0] (b_Program_fill T T')
  | _ => badF
def Tb : Nat → Nat → Fn
  | 0 => fun _ => badF
  | 1 => fun _ => badF
  | k + 2 => Tn (Tb (k + 1)) (Tb k)
variable {P : Program} {w : World} {K : PySem.W.Frag} {mg : Str → Option Value} {base : Heap} {j : Nat} {T T' : Nat → Fn}
theorem fxOf (h : Hd P w K mg base) (g : Gs P w K mg base j T T') (hk : 2 ≤ j + 1) : Fx P w K mg base j T T' := ⟨g, hk, h.b_abs, h.b_all, h.b_any, h.b_bool, h.b_dict, h.b_enumerate, h.b_int, h.b_isinstance, h.b_len, h.b_list, h.b_range, h.b_reversed, h.b_set, h.b_sorted, h.b_str, h.b_tuple, h.s_LETTERS, h.g_KINDS, h.r_KINDS, h.g_SHAPES, h.t_SHAPES, h.i_, h.a_Program, h.e_BadProgram, h.e_NoName, h.m_NoName, h.gm_NoName, h.x_name⟩
theorem k_is_integer (h : Hd P w K mg base) (f : Fx P w K mg base j T T') : ∃ fd, Binds K fd ["thing"] [] ∧ FnOk P w K mg base (L2.CX P w) (j + 2) (He.fAd K ("is_integer", none)) fd ["thing"] (spM K 1 (Tn T T' 0)) := by
  obtain ⟨fd, F⟩ := h.p_is_integer
  have S : FnScope n_is_integer ["thing"] (defScope (top 2)) := ⟨rfl, rfl, rfl, by decide +kernel, rfl, by decide +kernel, by decide +kernel⟩
  exact ⟨fd, F.bindsN (fun _ _ _ _ _ _ us hl => match us, hl with | [_], _ => rfl), def_ok F S rfl rfl (fun cdv A outer s H E C => d_is_integer C f)⟩
theorem k_is_number (h : Hd P w K mg base) (f : Fx P w K mg base j T T') : ∃ fd, Binds K fd ["thing", "low", "high"] [] ∧ FnOk P w K mg base (L2.CX P w) (j + 2) (He.fAd K ("is_number", none)) fd ["thing", "low", "high"] (spM K 3 (Tn T T' 1)) := by
  obtain ⟨fd, F⟩ := h.p_is_number
  have S : FnScope n_is_number ["thing", "low", "high"] (defScope (top 3)) := ⟨rfl, rfl, rfl, by decide +kernel, rfl, by decide +kernel, by decide +kernel⟩
  exact ⟨fd, F.bindsN (fun _ _ _ _ _ _ us hl => match us, hl with | [_, _, _], _ => rfl), def_ok F S rfl rfl (fun cdv A outer s H E C => d_is_number C f)⟩
theorem k_is_name (h : Hd P w K mg base) (f : Fx P w K mg base j T T') : ∃ fd, Binds K fd ["thing"] [] ∧ FnOk P w K mg base (L2.CX P w) (j + 2) (He.fAd K ("is_name", none)) fd ["thing"] (spM K 1 (Tn T T' 2)) := by
  obtain ⟨fd, F⟩ := h.p_is_name
  have S : FnScope n_is_name ["thing"] (defScope (top 4)) := ⟨rfl, rfl, rfl, by decide +kernel, rfl, by decide +kernel, by decide +kernel⟩
  exact ⟨fd, F.bindsN (fun _ _ _ _ _ _ us hl => match us, hl with | [_], _ => rfl), def_ok F S rfl rfl (fun cdv A outer s H E C => d_is_name C f)⟩
theorem k_is_unlike (h : Hd P w K mg base) (f : Fx P w K mg base j T T') : ∃ fd, Binds K fd ["row"] [] ∧ FnOk P w K mg base (L2.CX P w) (j + 2) (He.fAd K ("is_unlike", none)) fd ["row"] (spM K 1 (Tn T T' 3)) := by
  obtain ⟨fd, F⟩ := h.p_is_unlike
  have S : FnScope n_is_unlike ["row"] (defScope (top 5)) := ⟨rfl, rfl, rfl, by decide +kernel, rfl, by decide +kernel, by decide +kernel⟩
  exact ⟨fd, F.bindsN (fun _ _ _ _ _ _ us hl => match us, hl with | [_], _ => rfl), def_ok F S rfl rfl (fun cdv A outer s H E C => d_is_unlike C f)⟩
theorem k_is_names (h : Hd P w K mg base) (f : Fx P w K mg base j T T') : ∃ fd, Binds K fd ["thing", "most"] [] ∧ FnOk P w K mg base (L2.CX P w) (j + 2) (He.fAd K ("is_names", none)) fd ["thing", "most"] (spM K 2 (Tn T T' 4)) := by
  obtain ⟨fd, F⟩ := h.p_is_names
  have S : FnScope n_is_names ["thing", "most"] (defScope (top 6)) := ⟨rfl, rfl, rfl, by decide +kernel, rfl, by decide +kernel, by decide +kernel⟩
  exact ⟨fd, F.bindsN (fun _ _ _ _ _ _ us hl => match us, hl with | [_, _], _ => rfl), def_ok F S rfl rfl (fun cdv A outer s H E C => d_is_names C f)⟩
theorem k_is_words (h : Hd P w K mg base) (f : Fx P w K mg base j T T') : ∃ fd, Binds K fd ["thing", "most"] [] ∧ FnOk P w K mg base (L2.CX P w) (j + 2) (He.fAd K ("is_words", none)) fd ["thing", "most"] (spM K 2 (Tn T T' 5)) := by
  obtain ⟨fd, F⟩ := h.p_is_words
  have S : FnScope n_is_words ["thing", "most"] (defScope (top 7)) := ⟨rfl, rfl, rfl, by decide +kernel, rfl, by decide +kernel, by decide +kernel⟩
  exact ⟨fd, F.bindsN (fun _ _ _ _ _ _ us hl => match us, hl with | [_, _], _ => rfl), def_ok F S rfl rfl (fun cdv A outer s H E C => d_is_words C f)⟩
theorem k_is_expression (h : Hd P w K mg base) (f : Fx P w K mg base j T T') : ∃ fd, Binds K fd ["thing"] [] ∧ FnOk P w K mg base (L2.CX P w) (j + 2) (He.fAd K ("is_expression", none)) fd ["thing"] (spM K 1 (Tn T T' 6)) := by
  obtain ⟨fd, F⟩ := h.p_is_expression
  have S : FnScope n_is_expression ["thing"] (defScope (top 11)) := ⟨rfl, rfl, rfl, by decide +kernel, rfl, by decide +kernel, by decide +kernel⟩
  exact ⟨fd, F.bindsN (fun _ _ _ _ _ _ us hl => match us, hl with | [_], _ => rfl), def_ok F S rfl rfl (fun cdv A outer s H E C => d_is_expression C f)⟩
theorem k_is_expressions (h : Hd P w K mg base) (f : Fx P w K mg base j T T') : ∃ fd, Binds K fd ["thing"] [] ∧ FnOk P w K mg base (L2.CX P w) (j + 2) (He.fAd K ("is_expressions", none)) fd ["thing"] (spM K 1 (Tn T T' 7)) := by
  obtain ⟨fd, F⟩ := h.p_is_expressions
  have S : FnScope n_is_expressions ["thing"] (defScope (top 12)) := ⟨rfl, rfl, rfl, by decide +kernel, rfl, by decide +kernel, by decide +kernel⟩
  exact ⟨fd, F.bindsN (fun _ _ _ _ _ _ us hl => match us, hl with | [_], _ => rfl), def_ok F S rfl rfl (fun cdv A outer s H E C => d_is_expressions C f)⟩
theorem k_is_test (h : Hd P w K mg base) (f : Fx P w K mg base j T T') : ∃ fd, Binds K fd ["classes", "thing", "nots"] [] ∧ FnOk P w K mg base (L2.CX P w) (j + 2) (He.fAd K ("is_test", none)) fd ["classes", "thing", "nots"] (spM K 3 (Tn T T' 8)) := by
  obtain ⟨fd, F⟩ := h.p_is_test
  have S : FnScope n_is_test ["classes", "thing", "nots"] (defScope (top 13)) := ⟨rfl, rfl, rfl, by decide +kernel, rfl, by decide +kernel, by decide +kernel⟩
  exact ⟨fd, F.bindsN (fun _ _ _ _ _ _ us hl => match us, hl with | [_, _, _], _ => rfl), def_ok F S rfl rfl (fun cdv A outer s H E C => d_is_test C f)⟩
theorem k_returns (h : Hd P w K mg base) (f : Fx P w K mg base j T T') : ∃ fd, Binds K fd ["block"] [] ∧ FnOk P w K mg base (L2.CX P w) (j + 2) (He.fAd K ("returns", none)) fd ["block"] (spM K 1 (Tn T T' 9)) := by
  obtain ⟨fd, F⟩ := h.p_returns
  have S : FnScope n_returns ["block"] (defScope (top 14)) := ⟨rfl, rfl, rfl, by decide +kernel, rfl, by decide +kernel, by decide +kernel⟩
  exact ⟨fd, F.bindsN (fun _ _ _ _ _ _ us hl => match us, hl with | [_], _ => rfl), def_ok F S rfl rfl (fun cdv A outer s H E C => d_returns C f)⟩
theorem k_inner_blocks_blocks (h : Hd P w K mg base) (f : Fx P w K mg base j T T') : ∃ fd, Binds K fd ["statement"] [] ∧ FnOk P w K mg base (L2.CX P w) (j + 2) (He.fAd K ("inner_blocks_blocks", none)) fd ["statement"] (spM K 1 (Tn T T' 10)) := by
  obtain ⟨fd, F⟩ := h.p_inner_blocks_blocks
  have S : FnScope n_inner_blocks ["statement"] (defScope (top 15)) := ⟨rfl, rfl, rfl, by decide +kernel, rfl, by decide +kernel, by decide +kernel⟩
  exact ⟨fd, F.bindsN (fun _ _ _ _ _ _ us hl => match us, hl with | [_], _ => rfl), def_ok F S rfl rfl (fun cdv A outer s H E C => d_inner_blocks C f)⟩
theorem k_is_known (h : Hd P w K mg base) (f : Fx P w K mg base j T T') : ∃ fd, Binds K fd ["known", "kind", "part"] [] ∧ FnOk P w K mg base (L2.CX P w) (j + 2) (He.fAd K ("is_known", none)) fd ["known", "kind", "part"] (spM K 3 (Tn T T' 11)) := by
  obtain ⟨fd, F⟩ := h.p_is_known
  have S : FnScope n_is_known ["known", "kind", "part"] (defScope (top 17)) := ⟨rfl, rfl, rfl, by decide +kernel, rfl, by decide +kernel, by decide +kernel⟩
  exact ⟨fd, F.bindsN (fun _ _ _ _ _ _ us hl => match us, hl with | [_, _, _], _ => rfl), def_ok F S rfl rfl (fun cdv A outer s H E C => d_is_known C f)⟩
theorem k_is_part (h : Hd P w K mg base) (f : Fx P w K mg base j T T') : ∃ fd, Binds K fd ["known", "kind", "part", "depth"] [] ∧ FnOk P w K mg base (L2.CX P w) (j + 2) (He.fAd K ("is_part", none)) fd ["known", "kind", "part", "depth"] (spM K 4 (Tn T T' 12)) := by
  obtain ⟨fd, F⟩ := h.p_is_part
  have S : FnScope n_is_part ["known", "kind", "part", "depth"] (defScope (top 18)) := ⟨rfl, rfl, rfl, by decide +kernel, rfl, by decide +kernel, by decide +kernel⟩
  exact ⟨fd, F.bindsN (fun _ _ _ _ _ _ us hl => match us, hl with | [_, _, _, _], _ => rfl), def_ok F S rfl rfl (fun cdv A outer s H E C => d_is_part C f)⟩
theorem k_is_statement (h : Hd P w K mg base) (f : Fx P w K mg base j T T') : ∃ fd, Binds K fd ["known", "thing", "depth"] [] ∧ FnOk P w K mg base (L2.CX P w) (j + 2) (He.fAd K ("is_statement", none)) fd ["known", "thing", "depth"] (spM K 3 (Tn T T' 13)) := by
  obtain ⟨fd, F⟩ := h.p_is_statement
  have S : FnScope n_is_statement ["known", "thing", "depth"] (defScope (top 19)) := ⟨rfl, rfl, rfl, by decide +kernel, rfl, by decide +kernel, by decide +kernel⟩
  exact ⟨fd, F.bindsN (fun _ _ _ _ _ _ us hl => match us, hl with | [_, _, _], _ => rfl), def_ok F S rfl rfl (fun cdv A outer s H E C => d_is_statement C f)⟩
theorem k_is_block (h : Hd P w K mg base) (f : Fx P w K mg base j T T') : ∃ fd, Binds K fd ["known", "thing", "depth"] [] ∧ FnOk P w K mg base (L2.CX P w) (j + 2) (He.fAd K ("is_block", none)) fd ["known", "thing", "depth"] (spM K 3 (Tn T T' 14)) := by
  obtain ⟨fd, F⟩ := h.p_is_block
  have S : FnScope n_is_block ["known", "thing", "depth"] (defScope (top 20)) := ⟨rfl, rfl, rfl, by decide +kernel, rfl, by decide +kernel, by decide +kernel⟩
  exact ⟨fd, F.bindsN (fun _ _ _ _ _ _ us hl => match us, hl with | [_, _, _], _ => rfl), def_ok F S rfl rfl (fun cdv A outer s H E C => d_is_block C f)⟩
theorem k_class_line (h : Hd P w K mg base) (f : Fx P w K mg base j T T') : ∃ fd, Binds K fd ["classes", "name"] [] ∧ FnOk P w K mg base (L2.CX P w) (j + 2) (He.fAd K ("class_line", none)) fd ["classes", "name"] (spM K 2 (Tn T T' 15)) := by
  obtain ⟨fd, F⟩ := h.p_class_line
  have S : FnScope n_class_line ["classes", "name"] (defScope (top 26)) := ⟨rfl, rfl, rfl, by decide +kernel, rfl, by decide +kernel, by decide +kernel⟩
  exact ⟨fd, F.bindsN (fun _ _ _ _ _ _ us hl => match us, hl with | [_, _], _ => rfl), def_ok F S rfl rfl (fun cdv A outer s H E C => d_class_line C f)⟩
theorem k_fields_by_line (h : Hd P w K mg base) (f : Fx P w K mg base j T T') : ∃ fd, Binds K fd ["classes", "line"] [] ∧ FnOk P w K mg base (L2.CX P w) (j + 2) (He.fAd K ("fields_by_line", none)) fd ["classes", "line"] (spM K 2 (Tn T T' 16)) := by
  obtain ⟨fd, F⟩ := h.p_fields_by_line
  have S : FnScope n_fields_by_line ["classes", "line"] (defScope (top 27)) := ⟨rfl, rfl, rfl, by decide +kernel, rfl, by decide +kernel, by decide +kernel⟩
  exact ⟨fd, F.bindsN (fun _ _ _ _ _ _ us hl => match us, hl with | [_, _], _ => rfl), def_ok F S rfl rfl (fun cdv A outer s H E C => d_fields_by_line C f)⟩
theorem k_methods_by_line (h : Hd P w K mg base) (f : Fx P w K mg base j T T') : ∃ fd, Binds K fd ["classes", "line"] [] ∧ FnOk P w K mg base (L2.CX P w) (j + 2) (He.fAd K ("methods_by_line", none)) fd ["classes", "line"] (spM K 2 (Tn T T' 17)) := by
  obtain ⟨fd, F⟩ := h.p_methods_by_line
  have S : FnScope n_methods_by_line ["classes", "line"] (defScope (top 28)) := ⟨rfl, rfl, rfl, by decide +kernel, rfl, by decide +kernel, by decide +kernel⟩
  exact ⟨fd, F.bindsN (fun _ _ _ _ _ _ us hl => match us, hl with | [_, _], _ => rfl), def_ok F S rfl rfl (fun cdv A outer s H E C => d_methods_by_line C f)⟩
theorem k_is_shared (h : Hd P w K mg base) (f : Fx P w K mg base j T T') : ∃ fd, Binds K fd ["thing"] [] ∧ FnOk P w K mg base (L2.CX P w) (j + 2) (He.fAd K ("is_shared", none)) fd ["thing"] (spM K 1 (Tn T T' 18)) := by
  obtain ⟨fd, F⟩ := h.p_is_shared
  have S : FnScope n_is_shared ["thing"] (defScope (top 29)) := ⟨rfl, rfl, rfl, by decide +kernel, rfl, by decide +kernel, by decide +kernel⟩
  exact ⟨fd, F.bindsN (fun _ _ _ _ _ _ us hl => match us, hl with | [_], _ => rfl), def_ok F S rfl rfl (fun cdv A outer s H E C => d_is_shared C f)⟩
theorem k_is_methods (h : Hd P w K mg base) (f : Fx P w K mg base j T T') : ∃ fd, Binds K fd ["thing"] [] ∧ FnOk P w K mg base (L2.CX P w) (j + 2) (He.fAd K ("is_methods", none)) fd ["thing"] (spM K 1 (Tn T T' 19)) := by
  obtain ⟨fd, F⟩ := h.p_is_methods
  have S : FnScope n_is_methods ["thing"] (defScope (top 30)) := ⟨rfl, rfl, rfl, by decide +kernel, rfl, by decide +kernel, by decide +kernel⟩
  exact ⟨fd, F.bindsN (fun _ _ _ _ _ _ us hl => match us, hl with | [_], _ => rfl), def_ok F S rfl rfl (fun cdv A outer s H E C => d_is_methods C f)⟩
theorem k_is_class_row (h : Hd P w K mg base) (f : Fx P w K mg base j T T') : ∃ fd, Binds K fd ["classes", "row"] [] ∧ FnOk P w K mg base (L2.CX P w) (j + 2) (He.fAd K ("is_class_row", none)) fd ["classes", "row"] (spM K 2 (Tn T T' 20)) := by
  obtain ⟨fd, F⟩ := h.p_is_class_row
  have S : FnScope n_is_class_row ["classes", "row"] (defScope (top 31)) := ⟨rfl, rfl, rfl, by decide +kernel, rfl, by decide +kernel, by decide +kernel⟩
  exact ⟨fd, F.bindsN (fun _ _ _ _ _ _ us hl => match us, hl with | [_, _], _ => rfl), def_ok F S rfl rfl (fun cdv A outer s H E C => d_is_class_row C f)⟩
theorem k_is_classes (h : Hd P w K mg base) (f : Fx P w K mg base j T T') : ∃ fd, Binds K fd ["thing"] [] ∧ FnOk P w K mg base (L2.CX P w) (j + 2) (He.fAd K ("is_classes", none)) fd ["thing"] (spM K 1 (Tn T T' 21)) := by
  obtain ⟨fd, F⟩ := h.p_is_classes
  have S : FnScope n_is_classes ["thing"] (defScope (top 32)) := ⟨rfl, rfl, rfl, by decide +kernel, rfl, by decide +kernel, by decide +kernel⟩
  exact ⟨fd, F.bindsN (fun _ _ _ _ _ _ us hl => match us, hl with | [_], _ => rfl), def_ok F S rfl rfl (fun cdv A outer s H E C => d_is_classes C f)⟩
theorem k_is_function_row (h : Hd P w K mg base) (f : Fx P w K mg base j T T') : ∃ fd, Binds K fd ["row"] [] ∧ FnOk P w K mg base (L2.CX P w) (j + 2) (He.fAd K ("is_function_row", none)) fd ["row"] (spM K 1 (Tn T T' 22)) := by
  obtain ⟨fd, F⟩ := h.p_is_function_row
  have S : FnScope n_is_function_row ["row"] (defScope (top 33)) := ⟨rfl, rfl, rfl, by decide +kernel, rfl, by decide +kernel, by decide +kernel⟩
  exact ⟨fd, F.bindsN (fun _ _ _ _ _ _ us hl => match us, hl with | [_], _ => rfl), def_ok F S rfl rfl (fun cdv A outer s H E C => d_is_function_row C f)⟩
theorem k_is_functions (h : Hd P w K mg base) (f : Fx P w K mg base j T T') : ∃ fd, Binds K fd ["thing"] [] ∧ FnOk P w K mg base (L2.CX P w) (j + 2) (He.fAd K ("is_functions", none)) fd ["thing"] (spM K 1 (Tn T T' 23)) := by
  obtain ⟨fd, F⟩ := h.p_is_functions
  have S : FnScope n_is_functions ["thing"] (defScope (top 34)) := ⟨rfl, rfl, rfl, by decide +kernel, rfl, by decide +kernel, by decide +kernel⟩
  exact ⟨fd, F.bindsN (fun _ _ _ _ _ _ us hl => match us, hl with | [_], _ => rfl), def_ok F S rfl rfl (fun cdv A outer s H E C => d_is_functions C f)⟩
theorem k_methods_fit (h : Hd P w K mg base) (f : Fx P w K mg base j T T') : ∃ fd, Binds K fd ["classes", "functions"] [] ∧ FnOk P w K mg base (L2.CX P w) (j + 2) (He.fAd K ("methods_fit", none)) fd ["classes", "functions"] (spM K 2 (Tn T T' 24)) := by
  obtain ⟨fd, F⟩ := h.p_methods_fit
  have S : FnScope n_methods_fit ["classes", "functions"] (defScope (top 35)) := ⟨rfl, rfl, rfl, by decide +kernel, rfl, by decide +kernel, by decide +kernel⟩
  exact ⟨fd, F.bindsN (fun _ _ _ _ _ _ us hl => match us, hl with | [_, _], _ => rfl), def_ok F S rfl rfl (fun cdv A outer s H E C => d_methods_fit C f)⟩
theorem k_check_program (h : Hd P w K mg base) (f : Fx P w K mg base j T T') : ∃ fd, Binds K fd ["shared", "classes", "functions"] [] ∧ FnOk P w K mg base (L2.CX P w) (j + 2) (He.fAd K ("check_program", none)) fd ["shared", "classes", "functions"] (spM K 3 (Tn T T' 25)) := by
  obtain ⟨fd, F⟩ := h.p_check_program
  have S : FnScope n_check_program ["shared", "classes", "functions"] (defScope (top 36)) := ⟨rfl, rfl, rfl, by decide +kernel, rfl, by decide +kernel, by decide +kernel⟩
  exact ⟨fd, F.bindsN (fun _ _ _ _ _ _ us hl => match us, hl with | [_, _, _], _ => rfl), def_ok F S rfl rfl (fun cdv A outer s H E C => d_check_program C f)⟩
theorem k_gather (h : Hd P w K mg base) (f : Fx P w K mg base j T T') : ∃ fd, Binds K fd ["thing", "found"] [] ∧ FnOk P w K mg base (L2.CX P w) (j + 2) (He.fAd K ("gather", none)) fd ["thing", "found"] (spM K 2 (Tn T T' 26)) := by
  obtain ⟨fd, F⟩ := h.p_gather
  have S : FnScope n_gather ["thing", "found"] (defScope (top 38)) := ⟨rfl, rfl, rfl, by decide +kernel, rfl, by decide +kernel, by decide +kernel⟩
  exact ⟨fd, F.bindsN (fun _ _ _ _ _ _ us hl => match us, hl with | [_, _], _ => rfl), def_ok F S rfl rfl (fun cdv A outer s H E C => d_gather C f)⟩
theorem k_free_names (h : Hd P w K mg base) (f : Fx P w K mg base j T T') : ∃ fd, Binds K fd ["parameters", "block"] [] ∧ FnOk P w K mg base (L2.CX P w) (j + 2) (He.fAd K ("free_names", none)) fd ["parameters", "block"] (spM K 2 (Tn T T' 27)) := by
  obtain ⟨fd, F⟩ := h.p_free_names
  have S : FnScope n_free_names ["parameters", "block"] (defScope (top 39)) := ⟨rfl, rfl, rfl, by decide +kernel, rfl, by decide +kernel, by decide +kernel⟩
  exact ⟨fd, F.bindsN (fun _ _ _ _ _ _ us hl => match us, hl with | [_, _], _ => rfl), def_ok F S rfl rfl (fun cdv A outer s H E C => d_free_names C f)⟩
theorem k_plain_statement (h : Hd P w K mg base) (f : Fx P w K mg base j T T') : ∃ fd, Binds K fd ["statement", "names"] [] ∧ FnOk P w K mg base (L2.CX P w) (j + 2) (He.fAd K ("plain_statement", none)) fd ["statement", "names"] (spM K 2 (Tn T T' 28)) := by
  obtain ⟨fd, F⟩ := h.p_plain_statement
  have S : FnScope n_plain_statement ["statement", "names"] (defScope (top 40)) := ⟨rfl, rfl, rfl, by decide +kernel, rfl, by decide +kernel, by decide +kernel⟩
  exact ⟨fd, F.bindsN (fun _ _ _ _ _ _ us hl => match us, hl with | [_, _], _ => rfl), def_ok F S rfl rfl (fun cdv A outer s H E C => d_plain_statement C f)⟩
theorem k_plain_rows (h : Hd P w K mg base) (f : Fx P w K mg base j T T') : ∃ fd, Binds K fd ["block", "names"] [] ∧ FnOk P w K mg base (L2.CX P w) (j + 2) (He.fAd K ("plain_rows", none)) fd ["block", "names"] (spM K 2 (Tn T T' 29)) := by
  obtain ⟨fd, F⟩ := h.p_plain_rows
  have S : FnScope n_plain_rows ["block", "names"] (defScope (top 41)) := ⟨rfl, rfl, rfl, by decide +kernel, rfl, by decide +kernel, by decide +kernel⟩
  exact ⟨fd, F.bindsN (fun _ _ _ _ _ _ us hl => match us, hl with | [_, _], _ => rfl), def_ok F S rfl rfl (fun cdv A outer s H E C => d_plain_rows C f)⟩
theorem k_plain_block (h : Hd P w K mg base) (f : Fx P w K mg base j T T') : ∃ fd, Binds K fd ["parameters", "block"] [] ∧ FnOk P w K mg base (L2.CX P w) (j + 2) (He.fAd K ("plain_block", none)) fd ["parameters", "block"] (spM K 2 (Tn T T' 30)) := by
  obtain ⟨fd, F⟩ := h.p_plain_block
  have S : FnScope n_plain_block ["parameters", "block"] (defScope (top 42)) := ⟨rfl, rfl, rfl, by decide +kernel, rfl, by decide +kernel, by decide +kernel⟩
  exact ⟨fd, F.bindsN (fun _ _ _ _ _ _ us hl => match us, hl with | [_, _], _ => rfl), def_ok F S rfl rfl (fun cdv A outer s H E C => d_plain_block C f)⟩
theorem k_width (h : Hd P w K mg base) (f : Fx P w K mg base j T T') : ∃ fd, Binds K fd ["block"] [] ∧ FnOk P w K mg base (L2.CX P w) (j + 2) (He.fAd K ("width", none)) fd ["block"] (spM K 1 (Tn T T' 31)) := by
  obtain ⟨fd, F⟩ := h.p_width
  have S : FnScope n_width ["block"] (defScope (top 44)) := ⟨rfl, rfl, rfl, by decide +kernel, rfl, by decide +kernel, by decide +kernel⟩
  exact ⟨fd, F.bindsN (fun _ _ _ _ _ _ us hl => match us, hl with | [_], _ => rfl), def_ok F S rfl rfl (fun cdv A outer s H E C => d_width C f)⟩
theorem k_inner_blocks_places (h : Hd P w K mg base) (f : Fx P w K mg base j T T') : ∃ fd, Binds K fd ["statement"] [] ∧ FnOk P w K mg base (L2.CX P w) (j + 2) (He.fAd K ("inner_blocks_places", none)) fd ["statement"] (spM K 1 (Tn T T' 32)) := by
  obtain ⟨fd, F⟩ := h.p_inner_blocks_places
  have S : FnScope n_inner_blocks__2 ["statement"] (defScope (top 45)) := ⟨rfl, rfl, rfl, by decide +kernel, rfl, by decide +kernel, by decide +kernel⟩
  exact ⟨fd, F.bindsN (fun _ _ _ _ _ _ us hl => match us, hl with | [_], _ => rfl), def_ok F S rfl rfl (fun cdv A outer s H E C => d_inner_blocks__2 C f)⟩
theorem k_inner_blocks (h : Hd P w K mg base) (f : Fx P w K mg base j T T') : ∃ fd, Binds K fd ["statement"] [] ∧ FnOk P w K mg base (L2.CX P w) (j + 2) (He.fAd K ("inner_blocks", none)) fd ["statement"] (spM K 1 (Tn T T' 32)) := by
  obtain ⟨fd, F⟩ := h.p_inner_blocks
  have S : FnScope n_inner_blocks__2 ["statement"] (defScope (top 45)) := ⟨rfl, rfl, rfl, by decide +kernel, rfl, by decide +kernel, by decide +kernel⟩
  exact ⟨fd, F.bindsN (fun _ _ _ _ _ _ us hl => match us, hl with | [_], _ => rfl), def_ok F S rfl rfl (fun cdv A outer s H E C => d_inner_blocks__2 C f)⟩
theorem k_heads_of (h : Hd P w K mg base) (f : Fx P w K mg base j T T') : ∃ fd, Binds K fd ["statement", "place", "follows"] [] ∧ FnOk P w K mg base (L2.CX P w) (j + 2) (He.fAd K ("heads_of", none)) fd ["statement", "place", "follows"] (spM K 3 (Tn T T' 33)) := by
  obtain ⟨fd, F⟩ := h.p_heads_of
  have S : FnScope n_heads_of ["statement", "place", "follows"] (defScope (top 47)) := ⟨rfl, rfl, rfl, by decide +kernel, rfl, by decide +kernel, by decide +kernel⟩
  exact ⟨fd, F.bindsN (fun _ _ _ _ _ _ us hl => match us, hl with | [_, _, _], _ => rfl), def_ok F S rfl rfl (fun cdv A outer s H E C => d_heads_of C f)⟩
theorem k_lay (h : Hd P w K mg base) (f : Fx P w K mg base j T T') : ∃ fd, Binds K fd ["block", "behind", "guard", "rows"] [] ∧ FnOk P w K mg base (L2.CX P w) (j + 2) (He.fAd K ("lay", none)) fd ["block", "behind", "guard", "rows"] (spM K 4 (Tn T T' 34)) := by
  obtain ⟨fd, F⟩ := h.p_lay
  have S : FnScope n_lay ["block", "behind", "guard", "rows"] (defScope (top 48)) := ⟨rfl, rfl, rfl, by decide +kernel, rfl, by decide +kernel, by decide +kernel⟩
  exact ⟨fd, F.bindsN (fun _ _ _ _ _ _ us hl => match us, hl with | [_, _, _, _], _ => rfl), def_ok F S rfl rfl (fun cdv A outer s H E C => d_lay C f)⟩
theorem k_places_of (h : Hd P w K mg base) (f : Fx P w K mg base j T T') : ∃ fd, Binds K fd ["block"] [] ∧ FnOk P w K mg base (L2.CX P w) (j + 2) (He.fAd K ("places_of", none)) fd ["block"] (spM K 1 (Tn T T' 35)) := by
  obtain ⟨fd, F⟩ := h.p_places_of
  have S : FnScope n_places_of ["block"] (defScope (top 49)) := ⟨rfl, rfl, rfl, by decide +kernel, rfl, by decide +kernel, by decide +kernel⟩
  exact ⟨fd, F.bindsN (fun _ _ _ _ _ _ us hl => match us, hl with | [_], _ => rfl), def_ok F S rfl rfl (fun cdv A outer s H E C => d_places_of C f)⟩
theorem k_copied_classes (h : Hd P w K mg base) (f : Fx P w K mg base j T T') : ∃ fd, Binds K fd ["classes"] [] ∧ FnOk P w K mg base (L2.CX P w) (j + 2) (He.fAd K ("copied_classes", none)) fd ["classes"] (spM K 1 (Tn T T' 36)) := by
  obtain ⟨fd, F⟩ := h.p_copied_classes
  have S : FnScope n_copied_classes ["classes"] (defScope (top 51)) := ⟨rfl, rfl, rfl, by decide +kernel, rfl, by decide +kernel, by decide +kernel⟩
  exact ⟨fd, F.bindsN (fun _ _ _ _ _ _ us hl => match us, hl with | [_], _ => rfl), def_ok F S rfl rfl (fun cdv A outer s H E C => d_copied_classes C f)⟩
theorem k_fields_of (h : Hd P w K mg base) (f : Fx P w K mg base j T T') : ∃ fd, Binds K fd ["program", "name"] [] ∧ FnOk P w K mg base (L2.CX P w) (j + 2) (He.fAd K ("fields_of", none)) fd ["program", "name"] (spM K 2 (Tn T T' 37)) := by
  obtain ⟨fd, F⟩ := h.p_fields_of
  have S : FnScope n_fields_of ["program", "name"] (defScope (top 53)) := ⟨rfl, rfl, rfl, by decide +kernel, rfl, by decide +kernel, by decide +kernel⟩
  exact ⟨fd, F.bindsN (fun _ _ _ _ _ _ us hl => match us, hl with | [_, _], _ => rfl), def_ok F S rfl rfl (fun cdv A outer s H E C => d_fields_of C f)⟩
theorem k_method_of (h : Hd P w K mg base) (f : Fx P w K mg base j T T') : ∃ fd, Binds K fd ["program", "name", "method"] [] ∧ FnOk P w K mg base (L2.CX P w) (j + 2) (He.fAd K ("method_of", none)) fd ["program", "name", "method"] (spM K 3 (Tn T T' 38)) := by
  obtain ⟨fd, F⟩ := h.p_method_of
  have S : FnScope n_method_of ["program", "name", "method"] (defScope (top 54)) := ⟨rfl, rfl, rfl, by decide +kernel, rfl, by decide +kernel, by decide +kernel⟩
  exact ⟨fd, F.bindsN (fun _ _ _ _ _ _ us hl => match us, hl with | [_, _, _], _ => rfl), def_ok F S rfl rfl (fun cdv A outer s H E C => d_method_of C f)⟩
theorem k__law_pot (h : Hd P w K mg base) (f : Fx P w K mg base j T T') : ∃ fd, Binds K fd ["script", "most"] [] ∧ FnOk P w K mg base (L2.CX P w) (j + 2) (He.fAd K ("_law_pot", none)) fd ["script", "most"] (spM K 2 (Tn T T' 39)) := by
  obtain ⟨fd, F⟩ := h.p__law_pot
  have S : FnScope n__law_pot ["script", "most"] (defScope (top 56)) := ⟨rfl, rfl, rfl, by decide +kernel, rfl, by decide +kernel, by decide +kernel⟩
  exact ⟨fd, F.bindsN (fun _ _ _ _ _ _ us hl => match us, hl with | [_, _], _ => rfl), def_ok F S rfl rfl (fun cdv A outer s H E C => d__law_pot C f)⟩
theorem k__law_take (h : Hd P w K mg base) (f : Fx P w K mg base j T T') : ∃ fd, Binds K fd ["pot", "many"] [] ∧ FnOk P w K mg base (L2.CX P w) (j + 2) (He.fAd K ("_law_take", none)) fd ["pot", "many"] (spM K 2 (Tn T T' 40)) := by
  obtain ⟨fd, F⟩ := h.p__law_take
  have S : FnScope n__law_take ["pot", "many"] (defScope (top 57)) := ⟨rfl, rfl, rfl, by decide +kernel, rfl, by decide +kernel, by decide +kernel⟩
  refine ⟨fd, F.bindsN (fun _ _ _ _ _ _ us hl => match us, hl with | [_, _], _ => rfl), F.ok S (fun vs H Q E h => by obtain ⟨_, _, _, hl, _⟩ := h; exact hl) (fun cdv A outer s H vs Q E hr h => ⟨tTake K, PSs.nox (d__law_take rfl rfl rfl f.b_len f.b_int), take_pure h⟩)⟩
theorem k__law_name (h : Hd P w K mg base) (f : Fx P w K mg base j T T') : ∃ fd, Binds K fd ["pot"] [] ∧ FnOk P w K mg base (L2.CX P w) (j + 2) (He.fAd K ("_law_name", none)) fd ["pot"] (spM K 1 (Tn T T' 41)) := by
  obtain ⟨fd, F⟩ := h.p__law_name
  have S : FnScope n__law_name ["pot"] (defScope (top 58)) := ⟨rfl, rfl, rfl, by decide +kernel, rfl, by decide +kernel, by decide +kernel⟩
  exact ⟨fd, F.bindsN (fun _ _ _ _ _ _ us hl => match us, hl with | [_], _ => rfl), def_ok F S rfl rfl (fun cdv A outer s H E C => d__law_name C f)⟩
theorem k__law_turned (h : Hd P w K mg base) (f : Fx P w K mg base j T T') : ∃ fd, Binds K fd ["thing"] [] ∧ FnOk P w K mg base (L2.CX P w) (j + 2) (He.fAd K ("_law_turned", none)) fd ["thing"] (spM K 1 (Tn T T' 42)) := by
  obtain ⟨fd, F⟩ := h.p__law_turned
  have S : FnScope n__law_turned ["thing"] (defScope (top 59)) := ⟨rfl, rfl, rfl, by decide +kernel, rfl, by decide +kernel, by decide +kernel⟩
  exact ⟨fd, F.bindsN (fun _ _ _ _ _ _ us hl => match us, hl with | [_], _ => rfl), def_ok F S rfl rfl (fun cdv A outer s H E C => d__law_turned C f)⟩
theorem k__law_methods (h : Hd P w K mg base) (f : Fx P w K mg base j T T') : ∃ fd, Binds K fd ["pot"] [] ∧ FnOk P w K mg base (L2.CX P w) (j + 2) (He.fAd K ("_law_methods", none)) fd ["pot"] (spM K 1 (Tn T T' 43)) := by
  obtain ⟨fd, F⟩ := h.p__law_methods
  have S : FnScope n__law_methods ["pot"] (defScope (top 60)) := ⟨rfl, rfl, rfl, by decide +kernel, rfl, by decide +kernel, by decide +kernel⟩
  exact ⟨fd, F.bindsN (fun _ _ _ _ _ _ us hl => match us, hl with | [_], _ => rfl), def_ok F S rfl rfl (fun cdv A outer s H E C => d__law_methods C f)⟩
theorem k__law_classes (h : Hd P w K mg base) (f : Fx P w K mg base j T T') : ∃ fd, Binds K fd ["pot"] [] ∧ FnOk P w K mg base (L2.CX P w) (j + 2) (He.fAd K ("_law_classes", none)) fd ["pot"] (spM K 1 (Tn T T' 44)) := by
  obtain ⟨fd, F⟩ := h.p__law_classes
  have S : FnScope n__law_classes ["pot"] (defScope (top 61)) := ⟨rfl, rfl, rfl, by decide +kernel, rfl, by decide +kernel, by decide +kernel⟩
  exact ⟨fd, F.bindsN (fun _ _ _ _ _ _ us hl => match us, hl with | [_], _ => rfl), def_ok F S rfl rfl (fun cdv A outer s H E C => d__law_classes C f)⟩
theorem k__law_line (h : Hd P w K mg base) (f : Fx P w K mg base j T T') : ∃ fd, Binds K fd ["classes", "name"] [] ∧ FnOk P w K mg base (L2.CX P w) (j + 2) (He.fAd K ("_law_line", none)) fd ["classes", "name"] (spM K 2 (Tn T T' 45)) := by
  obtain ⟨fd, F⟩ := h.p__law_line
  have S : FnScope n__law_line ["classes", "name"] (defScope (top 62)) := ⟨rfl, rfl, rfl, by decide +kernel, rfl, by decide +kernel, by decide +kernel⟩
  exact ⟨fd, F.bindsN (fun _ _ _ _ _ _ us hl => match us, hl with | [_, _], _ => rfl), def_ok F S rfl rfl (fun cdv A outer s H E C => d__law_line C f)⟩
theorem k__law_refused (h : Hd P w K mg base) (f : Fx P w K mg base j T T') : ∃ fd, Binds K fd ["program", "thing"] [] ∧ FnOk P w K mg base (L2.CX P w) (j + 2) (He.fAd K ("_law_refused", none)) fd ["program", "thing"] (spM K 2 (Tn T T' 46)) := by
  obtain ⟨fd, F⟩ := h.p__law_refused
  have S : FnScope n__law_refused ["program", "thing"] (defScope (top 63)) := ⟨rfl, rfl, rfl, by decide +kernel, rfl, by decide +kernel, by decide +kernel⟩
  exact ⟨fd, F.bindsN (fun _ _ _ _ _ _ us hl => match us, hl with | [_, _], _ => rfl), def_ok F S rfl rfl (fun cdv A outer s H E C => d__law_refused C f)⟩
theorem k__law_right (h : Hd P w K mg base) (f : Fx P w K mg base j T T') : ∃ fd, Binds K fd ["program", "classes", "methods"] [] ∧ FnOk P w K mg base (L2.CX P w) (j + 2) (He.fAd K ("_law_right", none)) fd ["program", "classes", "methods"] (spM K 3 (Tn T T' 47)) := by
  obtain ⟨fd, F⟩ := h.p__law_right
  have S : FnScope n__law_right ["program", "classes", "methods"] (defScope (top 64)) := ⟨rfl, rfl, rfl, by decide +kernel, rfl, by decide +kernel, by decide +kernel⟩
  exact ⟨fd, F.bindsN (fun _ _ _ _ _ _ us hl => match us, hl with | [_, _, _], _ => rfl), def_ok F S rfl rfl (fun cdv A outer s H E C => d__law_right C f)⟩
theorem k_law (h : Hd P w K mg base) (f : Fx P w K mg base j T T') : ∃ fd, Binds K fd ["script"] [] ∧ FnOk P w K mg base (L2.CX P w) (j + 2) (He.fAd K ("law", none)) fd ["script"] (spM K 1 (Tn T T' 48)) := by
  obtain ⟨fd, F⟩ := h.p_law
  have S : FnScope n_law ["script"] (defScope (top 65)) := ⟨rfl, rfl, rfl, by decide +kernel, rfl, by decide +kernel, by decide +kernel⟩
  exact ⟨fd, F.bindsN (fun _ _ _ _ _ _ us hl => match us, hl with | [_], _ => rfl), def_ok F S rfl rfl (fun cdv A outer s H E C => d_law C f)⟩
theorem k_Program_init_ (h : Hd P w K mg base) (f : Fx P w K mg base j T T') : ∃ fd, Binds K fd ["self", "shared", "classes", "functions"] [] ∧ FnOk P w K mg base (L2.CX P w) (j + 2) (He.fAd K ("Program", some "__init__")) fd ["self", "shared", "classes", "functions"] (spM K 4 (Tn T T' 49)) := by
  obtain ⟨fd, F⟩ := h.p_Program_init_
  have S : FnScope n_Program_init_ ["self", "shared", "classes", "functions"] (defScope (clsAt (top 52) 0)) := ⟨rfl, rfl, rfl, by decide +kernel, rfl, by decide +kernel, by decide +kernel⟩
  exact ⟨fd, F.bindsN (fun _ _ _ _ _ _ us hl => match us, hl with | [_, _, _, _], _ => rfl), def_ok F S rfl rfl (fun cdv A outer s H E C => d_Program_init_ C f)⟩
theorem k_Program_fill (h : Hd P w K mg base) (f : Fx P w K mg base j T T') : ∃ fd, Binds K fd ["self", "shared", "classes", "functions"] [] ∧ FnOk P w K mg base (L2.CX P w) (j + 2) (He.fAd K ("Program", some "fill")) fd ["self", "shared", "classes", "functions"] (spM K 4 (Tn T T' 50)) := by
  obtain ⟨fd, F⟩ := h.p_Program_fill
  have S : FnScope n_Program_fill ["self", "shared", "classes", "functions"] (defScope (clsAt (top 52) 1)) := ⟨rfl, rfl, rfl, by decide +kernel, rfl, by decide +kernel, by decide +kernel⟩
  exact ⟨fd, F.bindsN (fun _ _ _ _ _ _ us hl => match us, hl with | [_, _, _, _], _ => rfl), def_ok F S rfl rfl (fun cdv A outer s H E C => d_Program_fill C f)⟩
theorem gs_step (h : Hd P w K mg base) (f : Fx P w K mg base j T T') (hI : ∃ fd, Binds K fd ["self", "shared", "classes", "functions"] [] ∧ FnOk P w K mg base (L2.CX P w) (j + 1) (He.fAd K ("Program", some "__init__")) fd ["self", "shared", "classes", "functions"] (spM K 4 (T 49)) ∧ Keeps 4 (T 49)) : Gs P w K mg base (j + 1) (Tn T T') T := by
  exact {
    g_is_integer := by
      obtain ⟨fd, b, o⟩ := k_is_integer h f
      exact ⟨_, fd, _, h.q_is_integer, (h.p_is_integer).elim fun _ F => F.kp, b, o, keeps_run⟩
    g_is_number := by
      obtain ⟨fd, b, o⟩ := k_is_number h f
      exact ⟨_, fd, _, h.q_is_number, (h.p_is_number).elim fun _ F => F.kp, b, o, keeps_run⟩
    g_is_name := by
      obtain ⟨fd, b, o⟩ := k_is_name h f
      exact ⟨_, fd, _, h.q_is_name, (h.p_is_name).elim fun _ F => F.kp, b, o, keeps_run⟩
    g_is_unlike := by
      obtain ⟨fd, b, o⟩ := k_is_unlike h f
      exact ⟨_, fd, _, h.q_is_unlike, (h.p_is_unlike).elim fun _ F => F.kp, b, o, keeps_run⟩
    g_is_names := by
      obtain ⟨fd, b, o⟩ := k_is_names h f
      exact ⟨_, fd, _, h.q_is_names, (h.p_is_names).elim fun _ F => F.kp, b, o, keeps_run⟩
    g_is_words := by
      obtain ⟨fd, b, o⟩ := k_is_words h f
      exact ⟨_, fd, _, h.q_is_words, (h.p_is_words).elim fun _ F => F.kp, b, o, keeps_run⟩
    g_is_expression := by
      obtain ⟨fd, b, o⟩ := k_is_expression h f
      exact ⟨_, fd, _, h.q_is_expression, (h.p_is_expression).elim fun _ F => F.kp, b, o, keeps_run⟩
    g_is_expressions := by
      obtain ⟨fd, b, o⟩ := k_is_expressions h f
      exact ⟨_, fd, _, h.q_is_expressions, (h.p_is_expressions).elim fun _ F => F.kp, b, o, keeps_run⟩
    g_is_test := by
      obtain ⟨fd, b, o⟩ := k_is_test h f
      exact ⟨_, fd, _, h.q_is_test, (h.p_is_test).elim fun _ F => F.kp, b, o, keeps_run⟩
    g_returns := by
      obtain ⟨fd, b, o⟩ := k_returns h f
      exact ⟨_, fd, _, h.q_returns, (h.p_returns).elim fun _ F => F.kp, b, o, keeps_run⟩
    g_inner_blocks_blocks := by
      obtain ⟨fd, b, o⟩ := k_inner_blocks_blocks h f
      exact ⟨_, fd, _, h.q_inner_blocks_blocks, (h.p_inner_blocks_blocks).elim fun _ F => F.kp, b, o, keeps_run⟩
    g_is_known := by
      obtain ⟨fd, b, o⟩ := k_is_known h f
      exact ⟨_, fd, _, h.q_is_known, (h.p_is_known).elim fun _ F => F.kp, b, o, keeps_run⟩
    g_is_part := by
      obtain ⟨fd, b, o⟩ := k_is_part h f
      exact ⟨_, fd, _, h.q_is_part, (h.p_is_part).elim fun _ F => F.kp, b, o, keeps_run⟩
    g_is_statement := by
      obtain ⟨fd, b, o⟩ := k_is_statement h f
      exact ⟨_, fd, _, h.q_is_statement, (h.p_is_statement).elim fun _ F => F.kp, b, o, keeps_run⟩
    g_is_block := by
      obtain ⟨fd, b, o⟩ := k_is_block h f
      exact ⟨_, fd, _, h.q_is_block, (h.p_is_block).elim fun _ F => F.kp, b, o, keeps_run⟩
    g_class_line := by
      obtain ⟨fd, b, o⟩ := k_class_line h f
      exact ⟨_, fd, _, h.q_class_line, (h.p_class_line).elim fun _ F => F.kp, b, o, keeps_run⟩
    g_fields_by_line := by
      obtain ⟨fd, b, o⟩ := k_fields_by_line h f
      exact ⟨_, fd, _, h.q_fields_by_line, (h.p_fields_by_line).elim fun _ F => F.kp, b, o, keeps_run⟩
    g_methods_by_line := by
      obtain ⟨fd, b, o⟩ := k_methods_by_line h f
      exact ⟨_, fd, _, h.q_methods_by_line, (h.p_methods_by_line).elim fun _ F => F.kp, b, o, keeps_run⟩
    g_is_shared := by
      obtain ⟨fd, b, o⟩ := k_is_shared h f
      exact ⟨_, fd, _, h.q_is_shared, (h.p_is_shared).elim fun _ F => F.kp, b, o, keeps_run⟩
    g_is_methods := by
      obtain ⟨fd, b, o⟩ := k_is_methods h f
      exact ⟨_, fd, _, h.q_is_methods, (h.p_is_methods).elim fun _ F => F.kp, b, o, keeps_run⟩
    g_is_class_row := by
      obtain ⟨fd, b, o⟩ := k_is_class_row h f
      exact ⟨_, fd, _, h.q_is_class_row, (h.p_is_class_row).elim fun _ F => F.kp, b, o, keeps_run⟩
    g_is_classes := by
      obtain ⟨fd, b, o⟩ := k_is_classes h f
      exact ⟨_, fd, _, h.q_is_classes, (h.p_is_classes).elim fun _ F => F.kp, b, o, keeps_run⟩
    g_is_function_row := by
      obtain ⟨fd, b, o⟩ := k_is_function_row h f
      exact ⟨_, fd, _, h.q_is_function_row, (h.p_is_function_row).elim fun _ F => F.kp, b, o, keeps_run⟩
    g_is_functions := by
      obtain ⟨fd, b, o⟩ := k_is_functions h f
      exact ⟨_, fd, _, h.q_is_functions, (h.p_is_functions).elim fun _ F => F.kp, b, o, keeps_run⟩
    g_methods_fit := by
      obtain ⟨fd, b, o⟩ := k_methods_fit h f
      exact ⟨_, fd, _, h.q_methods_fit, (h.p_methods_fit).elim fun _ F => F.kp, b, o, keeps_run⟩
    g_check_program := by
      obtain ⟨fd, b, o⟩ := k_check_program h f
      exact ⟨_, fd, _, h.q_check_program, (h.p_check_program).elim fun _ F => F.kp, b, o, keeps_run⟩
    g_gather := by
      obtain ⟨fd, b, o⟩ := k_gather h f
      exact ⟨_, fd, _, h.q_gather, (h.p_gather).elim fun _ F => F.kp, b, o, keeps_run⟩
    g_free_names := by
      obtain ⟨fd, b, o⟩ := k_free_names h f
      exact ⟨_, fd, _, h.q_free_names, (h.p_free_names).elim fun _ F => F.kp, b, o, keeps_run⟩
    g_plain_statement := by
      obtain ⟨fd, b, o⟩ := k_plain_statement h f
      exact ⟨_, fd, _, h.q_plain_statement, (h.p_plain_statement).elim fun _ F => F.kp, b, o, keeps_run⟩
    g_plain_rows := by
      obtain ⟨fd, b, o⟩ := k_plain_rows h f
      exact ⟨_, fd, _, h.q_plain_rows, (h.p_plain_rows).elim fun _ F => F.kp, b, o, keeps_run⟩
    g_plain_block := by
      obtain ⟨fd, b, o⟩ := k_plain_block h f
      exact ⟨_, fd, _, h.q_plain_block, (h.p_plain_block).elim fun _ F => F.kp, b, o, keeps_run⟩
    g_width := by
      obtain ⟨fd, b, o⟩ := k_width h f
      exact ⟨_, fd, _, h.q_width, (h.p_width).elim fun _ F => F.kp, b, o, keeps_run⟩
    g_inner_blocks_places := by
      obtain ⟨fd, b, o⟩ := k_inner_blocks_places h f
      exact ⟨_, fd, _, h.q_inner_blocks_places, (h.p_inner_blocks_places).elim fun _ F => F.kp, b, o, keeps_run⟩
    g_inner_blocks := by
      obtain ⟨fd, b, o⟩ := k_inner_blocks h f
      exact ⟨_, fd, _, h.q_inner_blocks, (h.p_inner_blocks).elim fun _ F => F.kp, b, o, keeps_run⟩
    g_heads_of := by
      obtain ⟨fd, b, o⟩ := k_heads_of h f
      exact ⟨_, fd, _, h.q_heads_of, (h.p_heads_of).elim fun _ F => F.kp, b, o, keeps_run⟩
    g_lay := by
      obtain ⟨fd, b, o⟩ := k_lay h f
      exact ⟨_, fd, _, h.q_lay, (h.p_lay).elim fun _ F => F.kp, b, o, keeps_run⟩
    g_places_of := by
      obtain ⟨fd, b, o⟩ := k_places_of h f
      exact ⟨_, fd, _, h.q_places_of, (h.p_places_of).elim fun _ F => F.kp, b, o, keeps_run⟩
    g_copied_classes := by
      obtain ⟨fd, b, o⟩ := k_copied_classes h f
      exact ⟨_, fd, _, h.q_copied_classes, (h.p_copied_classes).elim fun _ F => F.kp, b, o, keeps_run⟩
    g_fields_of := by
      obtain ⟨fd, b, o⟩ := k_fields_of h f
      exact ⟨_, fd, _, h.q_fields_of, (h.p_fields_of).elim fun _ F => F.kp, b, o, keeps_run⟩
    g_method_of := by
      obtain ⟨fd, b, o⟩ := k_method_of h f
      exact ⟨_, fd, _, h.q_method_of, (h.p_method_of).elim fun _ F => F.kp, b, o, keeps_run⟩
    g__law_pot := by
      obtain ⟨fd, b, o⟩ := k__law_pot h f
      exact ⟨_, fd, _, h.q__law_pot, (h.p__law_pot).elim fun _ F => F.kp, b, o, keeps_run⟩
    g__law_take := by
      obtain ⟨fd, b, o⟩ := k__law_take h f
      exact ⟨_, fd, _, h.q__law_take, (h.p__law_take).elim fun _ F => F.kp, b, o, keeps_take⟩
    g__law_name := by
      obtain ⟨fd, b, o⟩ := k__law_name h f
      exact ⟨_, fd, _, h.q__law_name, (h.p__law_name).elim fun _ F => F.kp, b, o, keeps_run⟩
    g__law_turned := by
      obtain ⟨fd, b, o⟩ := k__law_turned h f
      exact ⟨_, fd, _, h.q__law_turned, (h.p__law_turned).elim fun _ F => F.kp, b, o, keeps_run⟩
    g__law_methods := by
      obtain ⟨fd, b, o⟩ := k__law_methods h f
      exact ⟨_, fd, _, h.q__law_methods, (h.p__law_methods).elim fun _ F => F.kp, b, o, keeps_run⟩
    g__law_classes := by
      obtain ⟨fd, b, o⟩ := k__law_classes h f
      exact ⟨_, fd, _, h.q__law_classes, (h.p__law_classes).elim fun _ F => F.kp, b, o, keeps_run⟩
    g__law_line := by
      obtain ⟨fd, b, o⟩ := k__law_line h f
      exact ⟨_, fd, _, h.q__law_line, (h.p__law_line).elim fun _ F => F.kp, b, o, keeps_run⟩
    g__law_refused := by
      obtain ⟨fd, b, o⟩ := k__law_refused h f
      exact ⟨_, fd, _, h.q__law_refused, (h.p__law_refused).elim fun _ F => F.kp, b, o, keeps_run⟩
    g__law_right := by
      obtain ⟨fd, b, o⟩ := k__law_right h f
      exact ⟨_, fd, _, h.q__law_right, (h.p__law_right).elim fun _ F => F.kp, b, o, keeps_run⟩
    g_law := by
      obtain ⟨fd, b, o⟩ := k_law h f
      exact ⟨_, fd, _, h.q_law, (h.p_law).elim fun _ F => F.kp, b, o, keeps_run⟩
    m_Program_fill := ⟨h.cl_Program_fill, by
      obtain ⟨fd, b, o⟩ := k_Program_fill h f
      exact ⟨_, fd, _, h.mt_Program_fill, b, o⟩, keeps_run⟩
    k_Program := by
      obtain ⟨fd, b, o, kp⟩ := hI
      exact ⟨h.gm_Program, ⟨_, fd, _, h.mk_Program, b, o⟩, kp⟩ }
theorem gs_bad (h : Hd P w K mg base) (j : Nat) : Gs P w K mg base j (fun _ => badF) (fun _ => badF) := by
  exact {
    g_is_integer := (h.p_is_integer).elim fun fd F => ⟨_, fd, _, h.q_is_integer, F.kp, F.bindsN (ps := ["thing"]) fun _ _ _ _ _ _ us hl => match us, hl with | [_], _ => rfl, ok_bad, keeps_bad⟩
    g_is_number := (h.p_is_number).elim fun fd F => ⟨_, fd, _, h.q_is_number, F.kp, F.bindsN (ps := ["thing", "low", "high"]) fun _ _ _ _ _ _ us hl => match us, hl with | [_, _, _], _ => rfl, ok_bad, keeps_bad⟩
    g_is_name := (h.p_is_name).elim fun fd F => ⟨_, fd, _, h.q_is_name, F.kp, F.bindsN (ps := ["thing"]) fun _ _ _ _ _ _ us hl => match us, hl with | [_], _ => rfl, ok_bad, keeps_bad⟩
    g_is_unlike := (h.p_is_unlike).elim fun fd F => ⟨_, fd, _, h.q_is_unlike, F.kp, F.bindsN (ps := ["row"]) fun _ _ _ _ _ _ us hl => match us, hl with | [_], _ => rfl, ok_bad, keeps_bad⟩
    g_is_names := (h.p_is_names).elim fun fd F => ⟨_, fd, _, h.q_is_names, F.kp, F.bindsN (ps := ["thing", "most"]) fun _ _ _ _ _ _ us hl => match us, hl with | [_, _], _ => rfl, ok_bad, keeps_bad⟩
    g_is_words := (h.p_is_words).elim fun fd F => ⟨_, fd, _, h.q_is_words, F.kp, F.bindsN (ps := ["thing", "most"]) fun _ _ _ _ _ _ us hl => match us, hl with | [_, _], _ => rfl, ok_bad, keeps_bad⟩
    g_is_expression := (h.p_is_expression).elim fun fd F => ⟨_, fd, _, h.q_is_expression, F.kp, F.bindsN (ps := ["thing"]) fun _ _ _ _ _ _ us hl => match us, hl with | [_], _ => rfl, ok_bad, keeps_bad⟩
    g_is_expressions := (h.p_is_expressions).elim fun fd F => ⟨_, fd, _, h.q_is_expressions, F.kp, F.bindsN (ps := ["thing"]) fun _ _ _ _ _ _ us hl => match us, hl with | [_], _ => rfl, ok_bad, keeps_bad⟩
    g_is_test := (h.p_is_test).elim fun fd F => ⟨_, fd, _, h.q_is_test, F.kp, F.bindsN (ps := ["classes", "thing", "nots"]) fun _ _ _ _ _ _ us hl => match us, hl with | [_, _, _], _ => rfl, ok_bad, keeps_bad⟩
    g_returns := (h.p_returns).elim fun fd F => ⟨_, fd, _, h.q_returns, F.kp, F.bindsN (ps := ["block"]) fun _ _ _ _ _ _ us hl => match us, hl with | [_], _ => rfl, ok_bad, keeps_bad⟩
    g_inner_blocks_blocks := (h.p_inner_blocks_blocks).elim fun fd F => ⟨_, fd, _, h.q_inner_blocks_blocks, F.kp, F.bindsN (ps := ["statement"]) fun _ _ _ _ _ _ us hl => match us, hl with | [_], _ => rfl, ok_bad, keeps_bad⟩
    g_is_known := (h.p_is_known).elim fun fd F => ⟨_, fd, _, h.q_is_known, F.kp, F.bindsN (ps := ["known", "kind", "part"]) fun _ _ _ _ _ _ us hl => match us, hl with | [_, _, _], _ => rfl, ok_bad, keeps_bad⟩
    g_is_part := (h.p_is_part).elim fun fd F => ⟨_, fd, _, h.q_is_part, F.kp, F.bindsN (ps := ["known", "kind", "part", "depth"]) fun _ _ _ _ _ _ us hl => match us, hl with | [_, _, _, _], _ => rfl, ok_bad, keeps_bad⟩
    g_is_statement := (h.p_is_statement).elim fun fd F => ⟨_, fd, _, h.q_is_statement, F.kp, F.bindsN (ps := ["known", "thing", "depth"]) fun _ _ _ _ _ _ us hl => match us, hl with | [_, _, _], _ => rfl, ok_bad, keeps_bad⟩
    g_is_block := (h.p_is_block).elim fun fd F => ⟨_, fd, _, h.q_is_block, F.kp, F.bindsN (ps := ["known", "thing", "depth"]) fun _ _ _ _ _ _ us hl => match us, hl with | [_, _, _], _ => rfl, ok_bad, keeps_bad⟩
    g_class_line := (h.p_class_line).elim fun fd F => ⟨_, fd, _, h.q_class_line, F.kp, F.bindsN (ps := ["classes", "name"]) fun _ _ _ _ _ _ us hl => match us, hl with | [_, _], _ => rfl, ok_bad, keeps_bad⟩
    g_fields_by_line := (h.p_fields_by_line).elim fun fd F => ⟨_, fd, _, h.q_fields_by_line, F.kp, F.bindsN (ps := ["classes", "line"]) fun _ _ _ _ _ _ us hl => match us, hl with | [_, _], _ => rfl, ok_bad, keeps_bad⟩
    g_methods_by_line := (h.p_methods_by_line).elim fun fd F => ⟨_, fd, _, h.q_methods_by_line, F.kp, F.bindsN (ps := ["classes", "line"]) fun _ _ _ _ _ _ us hl => match us, hl with | [_, _], _ => rfl, ok_bad, keeps_bad⟩
    g_is_shared := (h.p_is_shared).elim fun fd F => ⟨_, fd, _, h.q_is_shared, F.kp, F.bindsN (ps := ["thing"]) fun _ _ _ _ _ _ us hl => match us, hl with | [_], _ => rfl, ok_bad, keeps_bad⟩
    g_is_methods := (h.p_is_methods).elim fun fd F => ⟨_, fd, _, h.q_is_methods, F.kp, F.bindsN (ps := ["thing"]) fun _ _ _ _ _ _ us hl => match us, hl with | [_], _ => rfl, ok_bad, keeps_bad⟩
    g_is_class_row := (h.p_is_class_row).elim fun fd F => ⟨_, fd, _, h.q_is_class_row, F.kp, F.bindsN (ps := ["classes", "row"]) fun _ _ _ _ _ _ us hl => match us, hl with | [_, _], _ => rfl, ok_bad, keeps_bad⟩
    g_is_classes := (h.p_is_classes).elim fun fd F => ⟨_, fd, _, h.q_is_classes, F.kp, F.bindsN (ps := ["thing"]) fun _ _ _ _ _ _ us hl => match us, hl with | [_], _ => rfl, ok_bad, keeps_bad⟩
    g_is_function_row := (h.p_is_function_row).elim fun fd F => ⟨_, fd, _, h.q_is_function_row, F.kp, F.bindsN (ps := ["row"]) fun _ _ _ _ _ _ us hl => match us, hl with | [_], _ => rfl, ok_bad, keeps_bad⟩
    g_is_functions := (h.p_is_functions).elim fun fd F => ⟨_, fd, _, h.q_is_functions, F.kp, F.bindsN (ps := ["thing"]) fun _ _ _ _ _ _ us hl => match us, hl with | [_], _ => rfl, ok_bad, keeps_bad⟩
    g_methods_fit := (h.p_methods_fit).elim fun fd F => ⟨_, fd, _, h.q_methods_fit, F.kp, F.bindsN (ps := ["classes", "functions"]) fun _ _ _ _ _ _ us hl => match us, hl with | [_, _], _ => rfl, ok_bad, keeps_bad⟩
    g_check_program := (h.p_check_program).elim fun fd F => ⟨_, fd, _, h.q_check_program, F.kp, F.bindsN (ps := ["shared", "classes", "functions"]) fun _ _ _ _ _ _ us hl => match us, hl with | [_, _, _], _ => rfl, ok_bad, keeps_bad⟩
    g_gather := (h.p_gather).elim fun fd F => ⟨_, fd, _, h.q_gather, F.kp, F.bindsN (ps := ["thing", "found"]) fun _ _ _ _ _ _ us hl => match us, hl with | [_, _], _ => rfl, ok_bad, keeps_bad⟩
    g_free_names := (h.p_free_names).elim fun fd F => ⟨_, fd, _, h.q_free_names, F.kp, F.bindsN (ps := ["parameters", "block"]) fun _ _ _ _ _ _ us hl => match us, hl with | [_, _], _ => rfl, ok_bad, keeps_bad⟩
    g_plain_statement := (h.p_plain_statement).elim fun fd F => ⟨_, fd, _, h.q_plain_statement, F.kp, F.bindsN (ps := ["statement", "names"]) fun _ _ _ _ _ _ us hl => match us, hl with | [_, _], _ => rfl, ok_bad, keeps_bad⟩
    g_plain_rows := (h.p_plain_rows).elim fun fd F => ⟨_, fd, _, h.q_plain_rows, F.kp, F.bindsN (ps := ["block", "names"]) fun _ _ _ _ _ _ us hl => match us, hl with | [_, _], _ => rfl, ok_bad, keeps_bad⟩
    g_plain_block := (h.p_plain_block).elim fun fd F => ⟨_, fd, _, h.q_plain_block, F.kp, F.bindsN (ps := ["parameters", "block"]) fun _ _ _ _ _ _ us hl => match us, hl with | [_, _], _ => rfl, ok_bad, keeps_bad⟩
    g_width := (h.p_width).elim fun fd F => ⟨_, fd, _, h.q_width, F.kp, F.bindsN (ps := ["block"]) fun _ _ _ _ _ _ us hl => match us, hl with | [_], _ => rfl, ok_bad, keeps_bad⟩
    g_inner_blocks_places := (h.p_inner_blocks_places).elim fun fd F => ⟨_, fd, _, h.q_inner_blocks_places, F.kp, F.bindsN (ps := ["statement"]) fun _ _ _ _ _ _ us hl => match us, hl with | [_], _ => rfl, ok_bad, keeps_bad⟩
    g_inner_blocks := (h.p_inner_blocks).elim fun fd F => ⟨_, fd, _, h.q_inner_blocks, F.kp, F.bindsN (ps := ["statement"]) fun _ _ _ _ _ _ us hl => match us, hl with | [_], _ => rfl, ok_bad, keeps_bad⟩
    g_heads_of := (h.p_heads_of).elim fun fd F => ⟨_, fd, _, h.q_heads_of, F.kp, F.bindsN (ps := ["statement", "place", "follows"]) fun _ _ _ _ _ _ us hl => match us, hl with | [_, _, _], _ => rfl, ok_bad, keeps_bad⟩
    g_lay := (h.p_lay).elim fun fd F => ⟨_, fd, _, h.q_lay, F.kp, F.bindsN (ps := ["block", "behind", "guard", "rows"]) fun _ _ _ _ _ _ us hl => match us, hl with | [_, _, _, _], _ => rfl, ok_bad, keeps_bad⟩
    g_places_of := (h.p_places_of).elim fun fd F => ⟨_, fd, _, h.q_places_of, F.kp, F.bindsN (ps := ["block"]) fun _ _ _ _ _ _ us hl => match us, hl with | [_], _ => rfl, ok_bad, keeps_bad⟩
    g_copied_classes := (h.p_copied_classes).elim fun fd F => ⟨_, fd, _, h.q_copied_classes, F.kp, F.bindsN (ps := ["classes"]) fun _ _ _ _ _ _ us hl => match us, hl with | [_], _ => rfl, ok_bad, keeps_bad⟩
    g_fields_of := (h.p_fields_of).elim fun fd F => ⟨_, fd, _, h.q_fields_of, F.kp, F.bindsN (ps := ["program", "name"]) fun _ _ _ _ _ _ us hl => match us, hl with | [_, _], _ => rfl, ok_bad, keeps_bad⟩
    g_method_of := (h.p_method_of).elim fun fd F => ⟨_, fd, _, h.q_method_of, F.kp, F.bindsN (ps := ["program", "name", "method"]) fun _ _ _ _ _ _ us hl => match us, hl with | [_, _, _], _ => rfl, ok_bad, keeps_bad⟩
    g__law_pot := (h.p__law_pot).elim fun fd F => ⟨_, fd, _, h.q__law_pot, F.kp, F.bindsN (ps := ["script", "most"]) fun _ _ _ _ _ _ us hl => match us, hl with | [_, _], _ => rfl, ok_bad, keeps_bad⟩
    g__law_take := (h.p__law_take).elim fun fd F => ⟨_, fd, _, h.q__law_take, F.kp, F.bindsN (ps := ["pot", "many"]) fun _ _ _ _ _ _ us hl => match us, hl with | [_, _], _ => rfl, ok_bad, keeps_bad⟩
    g__law_name := (h.p__law_name).elim fun fd F => ⟨_, fd, _, h.q__law_name, F.kp, F.bindsN (ps := ["pot"]) fun _ _ _ _ _ _ us hl => match us, hl with | [_], _ => rfl, ok_bad, keeps_bad⟩
    g__law_turned := (h.p__law_turned).elim fun fd F => ⟨_, fd, _, h.q__law_turned, F.kp, F.bindsN (ps := ["thing"]) fun _ _ _ _ _ _ us hl => match us, hl with | [_], _ => rfl, ok_bad, keeps_bad⟩
    g__law_methods := (h.p__law_methods).elim fun fd F => ⟨_, fd, _, h.q__law_methods, F.kp, F.bindsN (ps := ["pot"]) fun _ _ _ _ _ _ us hl => match us, hl with | [_], _ => rfl, ok_bad, keeps_bad⟩
    g__law_classes := (h.p__law_classes).elim fun fd F => ⟨_, fd, _, h.q__law_classes, F.kp, F.bindsN (ps := ["pot"]) fun _ _ _ _ _ _ us hl => match us, hl with | [_], _ => rfl, ok_bad, keeps_bad⟩
    g__law_line := (h.p__law_line).elim fun fd F => ⟨_, fd, _, h.q__law_line, F.kp, F.bindsN (ps := ["classes", "name"]) fun _ _ _ _ _ _ us hl => match us, hl with | [_, _], _ => rfl, ok_bad, keeps_bad⟩
    g__law_refused := (h.p__law_refused).elim fun fd F => ⟨_, fd, _, h.q__law_refused, F.kp, F.bindsN (ps := ["program", "thing"]) fun _ _ _ _ _ _ us hl => match us, hl with | [_, _], _ => rfl, ok_bad, keeps_bad⟩
    g__law_right := (h.p__law_right).elim fun fd F => ⟨_, fd, _, h.q__law_right, F.kp, F.bindsN (ps := ["program", "classes", "methods"]) fun _ _ _ _ _ _ us hl => match us, hl with | [_, _, _], _ => rfl, ok_bad, keeps_bad⟩
    g_law := (h.p_law).elim fun fd F => ⟨_, fd, _, h.q_law, F.kp, F.bindsN (ps := ["script"]) fun _ _ _ _ _ _ us hl => match us, hl with | [_], _ => rfl, ok_bad, keeps_bad⟩
    k_Program := (h.p_Program_init_).elim fun fd F => ⟨h.gm_Program, ⟨_, fd, _, h.mk_Program, F.bindsN (ps := ["self", "shared", "classes", "functions"]) fun _ _ _ _ _ _ us hl => match us, hl with | [_, _, _, _], _ => rfl, ok_bad⟩, keeps_bad⟩
    m_Program_fill := (h.p_Program_fill).elim fun fd F => ⟨h.cl_Program_fill, ⟨_, fd, _, h.mt_Program_fill, F.bindsN (ps := ["self", "shared", "classes", "functions"]) fun _ _ _ _ _ _ us hl => match us, hl with | [_, _, _, _], _ => rfl, ok_bad⟩, keeps_bad⟩ }
theorem gs_all (h : Hd P w K mg base) : ∀ j : Nat, Gs P w K mg base (j + 1) (Tb (j + 1)) (Tb j) ∧ ∃ fd, Binds K fd ["self", "shared", "classes", "functions"] [] ∧ FnOk P w K mg base (L2.CX P w) (j + 2) (He.fAd K ("Program", some "__init__")) fd ["self", "shared", "classes", "functions"] (spM K 4 (Tb (j + 1) 49)) ∧ Keeps 4 (Tb (j + 1) 49)
  | 0 => ⟨gs_bad h 1, (h.p_Program_init_).elim fun fd F => ⟨fd, F.bindsN fun _ _ _ _ _ _ us hl => match us, hl with | [_, _, _, _], _ => rfl, ok_bad, keeps_bad⟩⟩
  | j + 1 => by
    obtain ⟨g, i⟩ := gs_all h j
    have f := fxOf h g (by omega)
    refine ⟨gs_step h f i, ?_⟩
    obtain ⟨fd, b, o⟩ := k_Program_init_ h f
    exact ⟨fd, b, o, keeps_run⟩
end
end WK
end

section
set_option Elab.async false
set_option linter.all false
set_option maxRecDepth 100000
set_option maxHeartbeats 4000000
/-! P0: the table's rows (printed by mkp.py) -/
namespace WK
open PySem L2 EE
open PySem EE
theorem tb_is_integer (k : Nat) : Tb (k + 2) 0 = runDef 1 0 [] (b_is_integer (Tb (k + 1)) (Tb k)) := rfl
theorem tb_is_number (k : Nat) : Tb (k + 2) 1 = runDef 3 0 [] (b_is_number (Tb (k + 1)) (Tb k)) := rfl
theorem tb_is_name (k : Nat) : Tb (k + 2) 2 = runDef 1 1 [] (b_is_name (Tb (k + 1)) (Tb k)) := rfl
theorem tb_is_unlike (k : Nat) : Tb (k + 2) 3 = runDef 1 0 [] (b_is_unlike (Tb (k + 1)) (Tb k)) := rfl
theorem tb_is_names (k : Nat) : Tb (k + 2) 4 = runDef 2 1 [] (b_is_names (Tb (k + 1)) (Tb k)) := rfl
theorem tb_is_words (k : Nat) : Tb (k + 2) 5 = runDef 2 1 [] (b_is_words (Tb (k + 1)) (Tb k)) := rfl
theorem tb_is_expression (k : Nat) : Tb (k + 2) 6 = runDef 1 0 [] (b_is_expression (Tb (k + 1)) (Tb k)) := rfl
theorem tb_is_expressions (k : Nat) : Tb (k + 2) 7 = runDef 1 1 [] (b_is_expressions (Tb (k + 1)) (Tb k)) := rfl
theorem tb_is_test (k : Nat) : Tb (k + 2) 8 = runDef 3 0 [] (b_is_test (Tb (k + 1)) (Tb k)) := rfl
theorem tb_returns (k : Nat) : Tb (k + 2) 9 = runDef 1 2 [] (b_returns (Tb (k + 1)) (Tb k)) := rfl
theorem tb_inner_blocks (k : Nat) : Tb (k + 2) 10 = runDef 1 0 [] (b_inner_blocks (Tb (k + 1)) (Tb k)) := rfl
theorem tb_is_known (k : Nat) : Tb (k + 2) 11 = runDef 3 0 [] (b_is_known (Tb (k + 1)) (Tb k)) := rfl
theorem tb_is_part (k : Nat) : Tb (k + 2) 12 = runDef 4 0 [] (b_is_part (Tb (k + 1)) (Tb k)) := rfl
theorem tb_is_statement (k : Nat) : Tb (k + 2) 13 = runDef 3 3 [] (b_is_statement (Tb (k + 1)) (Tb k)) := rfl
theorem tb_is_block (k : Nat) : Tb (k + 2) 14 = runDef 3 1 [] (b_is_block (Tb (k + 1)) (Tb k)) := rfl
theorem tb_class_line (k : Nat) : Tb (k + 2) 15 = runDef 2 1 [] (b_class_line (Tb (k + 1)) (Tb k)) := rfl
theorem tb_fields_by_line (k : Nat) : Tb (k + 2) 16 = runDef 2 2 [] (b_fields_by_line (Tb (k + 1)) (Tb k)) := rfl
theorem tb_methods_by_line (k : Nat) : Tb (k + 2) 17 = runDef 2 4 [] (b_methods_by_line (Tb (k + 1)) (Tb k)) := rfl
theorem tb_is_shared (k : Nat) : Tb (k + 2) 18 = runDef 1 2 [] (b_is_shared (Tb (k + 1)) (Tb k)) := rfl
theorem tb_is_methods (k : Nat) : Tb (k + 2) 19 = runDef 1 2 [] (b_is_methods (Tb (k + 1)) (Tb k)) := rfl
theorem tb_is_class_row (k : Nat) : Tb (k + 2) 20 = runDef 2 4 [] (b_is_class_row (Tb (k + 1)) (Tb k)) := rfl
theorem tb_is_classes (k : Nat) : Tb (k + 2) 21 = runDef 1 4 [] (b_is_classes (Tb (k + 1)) (Tb k)) := rfl
theorem tb_is_function_row (k : Nat) : Tb (k + 2) 22 = runDef 1 0 [] (b_is_function_row (Tb (k + 1)) (Tb k)) := rfl
theorem tb_is_functions (k : Nat) : Tb (k + 2) 23 = runDef 1 2 [] (b_is_functions (Tb (k + 1)) (Tb k)) := rfl
theorem tb_methods_fit (k : Nat) : Tb (k + 2) 24 = runDef 2 2 [] (b_methods_fit (Tb (k + 1)) (Tb k)) := rfl
theorem tb_check_program (k : Nat) : Tb (k + 2) 25 = runDef 3 2 [] (b_check_program (Tb (k + 1)) (Tb k)) := rfl
theorem tb_gather (k : Nat) : Tb (k + 2) 26 = runDef 2 1 [1] (b_gather (Tb (k + 1)) (Tb k)) := rfl
theorem tb_free_names (k : Nat) : Tb (k + 2) 27 = runDef 2 2 [] (b_free_names (Tb (k + 1)) (Tb k)) := rfl
theorem tb_plain_statement (k : Nat) : Tb (k + 2) 28 = runDef 2 3 [1] (b_plain_statement (Tb (k + 1)) (Tb k)) := rfl
theorem tb_plain_rows (k : Nat) : Tb (k + 2) 29 = runDef 2 2 [1] (b_plain_rows (Tb (k + 1)) (Tb k)) := rfl
theorem tb_plain_block (k : Nat) : Tb (k + 2) 30 = runDef 2 0 [] (b_plain_block (Tb (k + 1)) (Tb k)) := rfl
theorem tb_width (k : Nat) : Tb (k + 2) 31 = runDef 1 3 [] (b_width (Tb (k + 1)) (Tb k)) := rfl
theorem tb_inner_blocks__2 (k : Nat) : Tb (k + 2) 32 = runDef 1 0 [] (b_inner_blocks__2 (Tb (k + 1)) (Tb k)) := rfl
theorem tb_heads_of (k : Nat) : Tb (k + 2) 33 = runDef 3 4 [] (b_heads_of (Tb (k + 1)) (Tb k)) := rfl
theorem tb_lay (k : Nat) : Tb (k + 2) 34 = runDef 4 4 [3] (b_lay (Tb (k + 1)) (Tb k)) := rfl
theorem tb_places_of (k : Nat) : Tb (k + 2) 35 = runDef 1 1 [] (b_places_of (Tb (k + 1)) (Tb k)) := rfl
theorem tb_copied_classes (k : Nat) : Tb (k + 2) 36 = runDef 1 2 [] (b_copied_classes (Tb (k + 1)) (Tb k)) := rfl
theorem tb_fields_of (k : Nat) : Tb (k + 2) 37 = runDef 2 0 [] (b_fields_of (Tb (k + 1)) (Tb k)) := rfl
theorem tb_method_of (k : Nat) : Tb (k + 2) 38 = runDef 3 0 [] (b_method_of (Tb (k + 1)) (Tb k)) := rfl
theorem tb__law_pot (k : Nat) : Tb (k + 2) 39 = runDef 2 3 [] (b__law_pot (Tb (k + 1)) (Tb k)) := rfl
theorem tb__law_take (k : Nat) : Tb (k + 2) 40 = takeFn := rfl
theorem tb__law_name (k : Nat) : Tb (k + 2) 41 = runDef 1 4 [0] (b__law_name (Tb (k + 1)) (Tb k)) := rfl
theorem tb__law_turned (k : Nat) : Tb (k + 2) 42 = runDef 1 4 [] (b__law_turned (Tb (k + 1)) (Tb k)) := rfl
theorem tb__law_methods (k : Nat) : Tb (k + 2) 43 = runDef 1 3 [0] (b__law_methods (Tb (k + 1)) (Tb k)) := rfl
theorem tb__law_classes (k : Nat) : Tb (k + 2) 44 = runDef 1 11 [0] (b__law_classes (Tb (k + 1)) (Tb k)) := rfl
theorem tb__law_line (k : Nat) : Tb (k + 2) 45 = runDef 2 2 [] (b__law_line (Tb (k + 1)) (Tb k)) := rfl
theorem tb__law_refused (k : Nat) : Tb (k + 2) 46 = runDef 2 2 [] (b__law_refused (Tb (k + 1)) (Tb k)) := rfl
theorem tb__law_right (k : Nat) : Tb (k + 2) 47 = runDef 3 7 [] (b__law_right (Tb (k + 1)) (Tb k)) := rfl
theorem tb_law (k : Nat) : Tb (k + 2) 48 = runDef 1 13 [] (b_law (Tb (k + 1)) (Tb k)) := rfl
theorem tb_Program_init_ (k : Nat) : Tb (k + 2) 49 = runDef 4 0 [0] (b_Program_init_ (Tb (k + 1)) (Tb k)) := rfl
theorem tb_Program_fill (k : Nat) : Tb (k + 2) 50 = runDef 4 3 [0] (b_Program_fill (Tb (k + 1)) (Tb k)) := rfl
theorem fn_e {F : Fn} {n m : Nat} {P : List Nat} {mb : M Fl} {ds : List D} {r : Slot} (e : F = runDef n m P mb) (hl : ds.length = n) (h : run mb (ds.map .imm ++ List.replicate m .non) (fun fl _ => retP fl fun r' => r' = r) NoW) : F (ds.map .imm) = .ok r (ds.map fun _ => .non) := by
  rw [e]
  exact fn_v hl h
theorem fx_e {F : Fn} {n m : Nat} {P : List Nat} {mb : M Fl} {ds : List D} {x : Exn} (e : F = runDef n m P mb) (hl : ds.length = n) (h : run mb (ds.map .imm ++ List.replicate m .non) (fun _ _ => False) (fun c _ => c = x)) : F (ds.map .imm) = .exc x (ds.map fun _ => .non) := by
  rw [e]
  exact fn_x hl h
theorem on_e {F : Fn} {n m : Nat} {P : List Nat} {mb : M Fl} {as : List Slot} {Q : Slot → List Slot → Prop} {W : Exn → List Slot → Prop} (e : F = runDef n m P mb) (hl : as.length = n) (ho : ownIn P as = true) (h : run mb (as ++ List.replicate m .non) (fun fl ρ => retP fl fun r => Q r (keepS as ρ)) (fun c ρ => W c (keepS as ρ))) : onR (F as) Q W := by
  rw [e]
  exact onR_def hl ho h
end WK
end

section
set_option Elab.async false
set_option linter.all false
set_option maxRecDepth 100000
set_option maxHeartbeats 4000000
open PySem L2 EE
-- W begin
local macro_rules | `(tactic| simp? [$ls,*]) => `(tactic| simp only [
    ↓run_pure, ↓run_bind, ↓run_of, ↓run_bad, ↓run_ite, ↓run_var, ↓run_take, ↓run_pk, ↓run_isL, ↓run_isDc, ↓run_mLst, ↓run_store, ↓run_meth, ↓run_putK, ↓run_frz, ↓run_put, ↓run_seq, ↓run_if, ↓run_ifE, ↓run_nx, 
    ↓run_then, ↓run_drop, ↓run_ret, ↓run_retO, ↓run_set, ↓run_setO, ↓run_asg, ↓ru_tup, ↓runU_stop, ↓run_tst, ↓run_notB, ↓run_and, ↓run_or, ↓run_andV, ↓run_orV, ↓run_notV, ↓run_ch, ↓run_m2, ↓run_m1, ↓run_mN, 
    ↓run_oLst, ↓run_ixO, ↓run_fz, ↓run_fzO, ↓run_disp, ↓run_aug, ↓ru_for, ↓run_raise1, ↓ru_call, ↓run_ag, ↓callP_v1, ↓callP_v2, ↓callP_v3, ↓callP_v4, ↓callP_o0, ↓callP_o1, ↓callP_o2, ↓callP_o3, ↓callP_1o, 
    ↓callP_3o, ↓run_comp, ↓run_oComp, ↓run_compD, ↓run_dcompD, ↓run_forD, ↓run_fldI, ↓run_putF, ↓run_self, ↓stop_forM, ↓stop_while, ↓stop_compM, ↓stop_dcompM, ↓stop_make, ↓stop_try, ↓stop_xf, ↓stop_potNew, 
    ↓onR_stop, ↓onS_stop, ↓onI_stop, ↓onT_stop, ↓onA_stop, ↓onL_stop, ↓onK_stop, ↓onB_stop, ↓onO_stop, ↓onN_stop, ↓onF_nx, ↓onF_rt, ↓onF_bk, ↓onF_ct, ↓onLp_nx, ↓onLp_ct, ↓onLp_bk, ↓onLp_rt, ↓retP_rt, ↓retP_nx, 
    ↓pt0, ↓pt1, ↓pt2, ↓pt3, ↓pt4, ↓pt5, ↓pt6, ↓pt7, ↓pt8, ↓pt9, ↓pt10, ↓pt11, ↓pt12, ↓pt13, ↓pt14, ↓pt15, ↓pt16, ↓pt17, ↓at0, ↓at1, ↓at2, ↓at3, ↓at4, ↓at5, ↓at6, ↓at7, ↓at8, ↓at9, ↓at10, ↓at11, ↓at12, ↓at13, 
    ↓at14, ↓at15, ↓at16, ↓at17, ↓st0, ↓st1, ↓st2, ↓st3, ↓st4, ↓st5, ↓st6, ↓st7, ↓st8, ↓st9, ↓st10, ↓st11, ↓st12, ↓st13, ↓st14, ↓st15, ↓st16, ↓st17, ↓sv0, ↓sv1, ↓sv2, ↓sv3, ↓sv4, ↓sv5, ↓sv6, ↓sv7, ↓sv8, ↓sv9, 
    ↓sv10, ↓sv11, ↓sv12, ↓sv13, ↓sv14, ↓sv15, ↓sv16, ↓sv17, onRD_ok, onRD_exc, onSD_some, onID_imm, onTD_imm, onTD_lst, onTD_dct, onTD_pot, onTD_obj, onAD_some, onLD_lst, onKD_dct, onBD_true, onBD_false, onBD_not, 
    onOD_obj, onND_lst, onND_dct, onND_pot, onND_obj, runUD_bind, runUD_pure, isBl_bl, frzD_imm, frzD_lst, frzD_dct, frzS_imm, frzS_lst, frzS_dct, frzO_obj, frzO_imm, fvS_imm, fvS_lst, fvS_dct, pkD_imm, pkD_lst, 
    pkD_dct, bind_some', itD_lst, itD_tup, itD_str, enD_lst, enD_tup, revD_lst, starD_tup, starD_lst, seqD_tup, seqD_lst, keyD_str, keyD_int, wkD_keys, wkD_vals, wkD_items, fTupOf_lst, fTupOf_tup, fDctOf_dct, 
    fListAll_lst, fListAll_tup, fLen_tup, fLen_lst, fLen_dct, fAbs_int, fInt_int, fLt_int, fLe_int, fGt_int, fGe_int, fSub_int, fAdd_int, fAddN_int, fNeg_int, fPop0_ok, isN_non, notN_non, isN_bl, notN_bl, 
    isN_int, notN_int, isN_str, notN_str, isN_tup, notN_tup, isN_lst, notN_lst, isN_dct, notN_dct, isN_ins, notN_ins, isi_int_non, isi_int_bl, isi_int_int, isi_int_str, isi_int_tup, isi_int_lst, isi_int_dct, 
    isi_bool_non, isi_bool_bl, isi_bool_int, isi_bool_str, isi_bool_tup, isi_bool_lst, isi_bool_dct, isi_str_non, isi_str_bl, isi_str_int, isi_str_str, isi_str_tup, isi_str_lst, isi_str_dct, isi_tuple_non, 
    isi_tuple_bl, isi_tuple_int, isi_tuple_str, isi_tuple_tup, isi_tuple_lst, isi_tuple_dct, isi_list_non, isi_list_bl, isi_list_int, isi_list_str, isi_list_tup, isi_list_lst, isi_list_dct, isi_dict_non, isi_dict_bl, 
    isi_dict_int, isi_dict_str, isi_dict_tup, isi_dict_lst, isi_dict_dct, fIx_tup, fIx_lst, fIx_dctS, fIx_dctI, fIy_tup, fIy_lst, fIy_dctS, fGet_S, isDD_dct, ix0, ix1, ix2, ix3, ix4, ix5, ix6, ix7, eqX_non, 
    eqX_int, neX_int, inDct_S, ninDct_S, inTb_f, inTb_t, ixTb_s, in_tupS, nin_tupS, in_lstS, nin_lstS, fAll_map, fAny_map, sIx, ks_nil, ks_non, ks_imm, ks_lst, ks_dct, ks_pot, ks_obj, fTup_ok, fLst_ok, okSz_of, 
    fApp_ok, fIns0_ok, fExt_lst, fExt_tup, List.map_cons, List.map_nil, List.length_cons, List.length_nil, List.length_map, List.nil_append, List.cons_append, List.getElem?_cons_zero, Option.getD_some, Nat.reduceAdd, 
    Nat.reduceLeDiff, Nat.reduceLT, Nat.reduceEqDiff, Nat.zero_le, ↓reduceIte, if_true, if_false, true_and, and_true, and_self, Bool.not_true, Bool.not_false, Bool.and_self, Bool.true_and, decide_true, decide_false, 
    cast0, cast1, Int.cast_ofNat_Int, eq_self, Int.reduceEq, Int.reduceLT, Int.reduceLE, Int.reduceAdd, Int.reduceNeg, Int.reduceSub, $ls,*])
-- W end
/-! P1: what the table's leaves say, in plain Lean -/
namespace WK
open PySem L2 EE
/-- a text of one to eight small letters -/
def letterB (c : Nat) : Bool := decide (c ∈ c_LETTERS.cps.toList)
def nameB (s : Str) : Bool := decide (1 ≤ s.length) && (decide (s.length ≤ 8) && s.cps.toList.all letterB)
def nameD : D → Bool
  | .str s => nameB s
  | _ => false
def intD : D → Bool
  | .int _ => true
  | _ => false
def insD : D → Bool
  | .ins _ _ => true
  | _ => false
theorem e_is_integer (k : Nat) {d : D} (h : insD d = false) : Tb (k + 2) 0 [.imm d] = .ok (.imm (.bl (intD d))) [.non] := by
  refine fn_e (tb_is_integer k) (ds := [d]) rfl ?_
  unfold b_is_integer
  cases d <;> first | (simp? [List.append_nil, List.replicate]; rfl) | cases h
def inB (d : D) (i j : Int) : Bool := match d with | .int n => decide (i ≤ n) && decide (n ≤ j) | _ => false
theorem e_is_number (k : Nat) {d : D} {i j : Int} (h : insD d = false) : Tb (k + 3) 1 [.imm d, .imm (.int i), .imm (.int j)] = .ok (.imm (.bl (inB d i j))) [.non, .non, .non] := by
  refine fn_e (tb_is_number (k + 1)) (ds := [d, .int i, .int j]) rfl ?_
  unfold b_is_number
  simp? [List.append_nil, List.replicate, e_is_integer _ h]
  cases d with
  | int n =>
    simp? [intD]
    refine onB_i (fun h => ?_) (fun h => ?_)
    · simp? [h, inB]
    · simp? [h, Bool.false_and, inB]
  | _ => rfl
end WK
end

section
set_option Elab.async false
set_option linter.all false
set_option maxRecDepth 100000
set_option maxHeartbeats 4000000
open PySem L2 EE
-- W begin
local macro_rules | `(tactic| simp? [$ls,*]) => `(tactic| simp only [
    ↓run_pure, ↓run_bind, ↓run_of, ↓run_bad, ↓run_ite, ↓run_var, ↓run_take, ↓run_pk, ↓run_isL, ↓run_isDc, ↓run_mLst, ↓run_store, ↓run_meth, ↓run_putK, ↓run_frz, ↓run_put, ↓run_seq, ↓run_if, ↓run_ifE, ↓run_nx, 
    ↓run_then, ↓run_drop, ↓run_ret, ↓run_retO, ↓run_set, ↓run_setO, ↓run_asg, ↓ru_tup, ↓runU_stop, ↓run_tst, ↓run_notB, ↓run_and, ↓run_or, ↓run_andV, ↓run_orV, ↓run_notV, ↓run_ch, ↓run_m2, ↓run_m1, ↓run_mN, 
    ↓run_oLst, ↓run_ixO, ↓run_fz, ↓run_fzO, ↓run_disp, ↓run_aug, ↓ru_for, ↓run_raise1, ↓ru_call, ↓run_ag, ↓callP_v1, ↓callP_v2, ↓callP_v3, ↓callP_v4, ↓callP_o0, ↓callP_o1, ↓callP_o2, ↓callP_o3, ↓callP_1o, 
    ↓callP_3o, ↓run_comp, ↓run_oComp, ↓run_compD, ↓run_dcompD, ↓run_forD, ↓run_fldI, ↓run_putF, ↓run_self, ↓stop_forM, ↓stop_while, ↓stop_compM, ↓stop_dcompM, ↓stop_make, ↓stop_try, ↓stop_xf, ↓stop_potNew, 
    ↓onR_stop, ↓onS_stop, ↓onI_stop, ↓onT_stop, ↓onA_stop, ↓onL_stop, ↓onK_stop, ↓onB_stop, ↓onO_stop, ↓onN_stop, ↓onF_nx, ↓onF_rt, ↓onF_bk, ↓onF_ct, ↓onLp_nx, ↓onLp_ct, ↓onLp_bk, ↓onLp_rt, ↓retP_rt, ↓retP_nx, 
    ↓pt0, ↓pt1, ↓pt2, ↓pt3, ↓pt4, ↓pt5, ↓pt6, ↓pt7, ↓pt8, ↓pt9, ↓pt10, ↓pt11, ↓pt12, ↓pt13, ↓pt14, ↓pt15, ↓pt16, ↓pt17, ↓at0, ↓at1, ↓at2, ↓at3, ↓at4, ↓at5, ↓at6, ↓at7, ↓at8, ↓at9, ↓at10, ↓at11, ↓at12, ↓at13, 
    ↓at14, ↓at15, ↓at16, ↓at17, ↓st0, ↓st1, ↓st2, ↓st3, ↓st4, ↓st5, ↓st6, ↓st7, ↓st8, ↓st9, ↓st10, ↓st11, ↓st12, ↓st13, ↓st14, ↓st15, ↓st16, ↓st17, ↓sv0, ↓sv1, ↓sv2, ↓sv3, ↓sv4, ↓sv5, ↓sv6, ↓sv7, ↓sv8, ↓sv9, 
    ↓sv10, ↓sv11, ↓sv12, ↓sv13, ↓sv14, ↓sv15, ↓sv16, ↓sv17, onRD_ok, onRD_exc, onSD_some, onID_imm, onTD_imm, onTD_lst, onTD_dct, onTD_pot, onTD_obj, onAD_some, onLD_lst, onKD_dct, onBD_true, onBD_false, onBD_not, 
    onOD_obj, onND_lst, onND_dct, onND_pot, onND_obj, runUD_bind, runUD_pure, isBl_bl, frzD_imm, frzD_lst, frzD_dct, frzS_imm, frzS_lst, frzS_dct, frzO_obj, frzO_imm, fvS_imm, fvS_lst, fvS_dct, pkD_imm, pkD_lst, 
    pkD_dct, bind_some', itD_lst, itD_tup, itD_str, enD_lst, enD_tup, revD_lst, starD_tup, starD_lst, seqD_tup, seqD_lst, keyD_str, keyD_int, wkD_keys, wkD_vals, wkD_items, fTupOf_lst, fTupOf_tup, fDctOf_dct, 
    fListAll_lst, fListAll_tup, fLen_tup, fLen_lst, fLen_dct, fAbs_int, fInt_int, fLt_int, fLe_int, fGt_int, fGe_int, fSub_int, fAdd_int, fAddN_int, fNeg_int, fPop0_ok, isN_non, notN_non, isN_bl, notN_bl, 
    isN_int, notN_int, isN_str, notN_str, isN_tup, notN_tup, isN_lst, notN_lst, isN_dct, notN_dct, isN_ins, notN_ins, isi_int_non, isi_int_bl, isi_int_int, isi_int_str, isi_int_tup, isi_int_lst, isi_int_dct, 
    isi_bool_non, isi_bool_bl, isi_bool_int, isi_bool_str, isi_bool_tup, isi_bool_lst, isi_bool_dct, isi_str_non, isi_str_bl, isi_str_int, isi_str_str, isi_str_tup, isi_str_lst, isi_str_dct, isi_tuple_non, 
    isi_tuple_bl, isi_tuple_int, isi_tuple_str, isi_tuple_tup, isi_tuple_lst, isi_tuple_dct, isi_list_non, isi_list_bl, isi_list_int, isi_list_str, isi_list_tup, isi_list_lst, isi_list_dct, isi_dict_non, isi_dict_bl, 
    isi_dict_int, isi_dict_str, isi_dict_tup, isi_dict_lst, isi_dict_dct, fIx_tup, fIx_lst, fIx_dctS, fIx_dctI, fIy_tup, fIy_lst, fIy_dctS, fGet_S, isDD_dct, ix0, ix1, ix2, ix3, ix4, ix5, ix6, ix7, eqX_non, 
    eqX_int, neX_int, inDct_S, ninDct_S, inTb_f, inTb_t, ixTb_s, in_tupS, nin_tupS, in_lstS, nin_lstS, fAll_map, fAny_map, sIx, ks_nil, ks_non, ks_imm, ks_lst, ks_dct, ks_pot, ks_obj, fTup_ok, fLst_ok, okSz_of, 
    fApp_ok, fIns0_ok, fExt_lst, fExt_tup, List.map_cons, List.map_nil, List.length_cons, List.length_nil, List.length_map, List.nil_append, List.cons_append, List.getElem?_cons_zero, Option.getD_some, Nat.reduceAdd, 
    Nat.reduceLeDiff, Nat.reduceLT, Nat.reduceEqDiff, Nat.zero_le, ↓reduceIte, if_true, if_false, true_and, and_true, and_self, Bool.not_true, Bool.not_false, Bool.and_self, Bool.true_and, decide_true, decide_false, 
    cast0, cast1, Int.cast_ofNat_Int, eq_self, Int.reduceEq, Int.reduceLT, Int.reduceLE, Int.reduceAdd, Int.reduceNeg, Int.reduceSub, $ls,*])
-- W end
/-! P2: names, rows of names -/
namespace WK
open PySem L2 EE
theorem str_len (s : Str) : s.length = s.cps.toList.length := by simp [Str.length]
theorem strsOf_map (s : Str) : strsOf s = s.cps.toList.map fun c => D.str ⟨#[c]⟩ := rfl
theorem in_sg {c : Nat} {z : Str} : fIn (.str ⟨#[c]⟩) (.str z) = some (.bl (decide (c ∈ z.cps.toList))) := rfl
theorem e_is_name (k : Nat) {d : D} (h : insD d = false) (hz : ∀ s, d = .str s → s.length ≤ 1000000) : Tb (k + 2) 2 [.imm d] = .ok (.imm (.bl (nameD d))) [.non] := by
  refine fn_e (tb_is_name k) (ds := [d]) rfl ?_
  unfold b_is_name
  cases d with
  | str s =>
    simp? [List.append_nil, List.replicate, fLen_str (hz s rfl)]
    by_cases h1 : 1 ≤ s.length
    · by_cases h2 : s.length ≤ 8
      · have i1 : (1 : Int) ≤ (s.length : Int) := by omega
        have i2 : (s.length : Int) ≤ 8 := by omega
        simp? [i1, i2, strsOf_map]
        refine ⟨by rfl, run_compT (fun c => D.bl (letterB c)) (fun c hc => ?_) ?_ ?_⟩
        · simp? [in_sg, wipeR]
          rfl
        · simp? []
          simp [nameD, nameB, h1, h2]
        · rw [← str_len]; omega
      · have i1 : (1 : Int) ≤ (s.length : Int) := by omega
        have i2 : ¬ (s.length : Int) ≤ 8 := by omega
        simp? [i1, i2, decide_false]
        simp [nameD, nameB, h1, h2]
    · have i1 : ¬ (1 : Int) ≤ (s.length : Int) := by omega
      simp? [i1, decide_false]
      simp [nameD, nameB, h1]
  | ins _ _ => cases h
  | _ => simp? [List.append_nil, List.replicate]; rfl
/-- all texts of the list differ -/
def strsB (xs : List Str) : Bool := decide (cntS xs xs.length = xs.length)
theorem e_is_unlike (k : Nat) (xs : List Str) (hz : xs.length < 3000) : Tb (k + 2) 3 [.imm (.tup (xs.map .str))] = .ok (.imm (.bl (strsB xs))) [.non] := by
  refine fn_e (tb_is_unlike k) (ds := [.tup (xs.map .str)]) rfl ?_
  unfold b_is_unlike
  simp? [List.append_nil, List.replicate, fSetLen_tupS hz]
  simp [strsB]
  omega
theorem e_is_names (k : Nat) (xs : List Str) (n : Int) (hz : ∀ x ∈ xs, x.length ≤ 1000000) (hl : xs.length < 3000) : Tb (k + 3) 4 [.imm (.tup (xs.map .str)), .imm (.int n)] = .ok (.imm (.bl (decide ((xs.length : Int) ≤ n) && (xs.all nameB && strsB xs)))) [.non, .non] := by
  refine fn_e (tb_is_names (k + 1)) (ds := [.tup (xs.map .str), .int n]) rfl ?_
  unfold b_is_names
  simp? [List.append_nil, List.replicate]
  by_cases h : n < (xs.length : Int)
  · simp? [h]
    simp [h, Int.not_le.mpr h]
  · simp? [h, decide_false]
    refine ⟨by rfl, run_compT (fun s => D.bl (nameB s)) (fun s hs => ?_) ?_ (by omega)⟩
    · simp? [e_is_name (k := k) (d := .str s) rfl (fun s' e => by cases e; exact hz s hs), wipeR]
      rfl
    · simp? []
      refine onB_i (fun h2 => ?_) (fun h2 => ?_)
      · simp? [backR, wipeR, e_is_unlike k xs hl]
        simp [h2, Int.not_lt.mp h]
      · simp? []
        simp [h2]
theorem e_is_words (k : Nat) (xs : List Str) (n : Int) (hz : ∀ x ∈ xs, x.length ≤ 1000000) (hl : xs.length < 3000) : Tb (k + 3) 5 [.imm (.tup (xs.map .str)), .imm (.int n)] = .ok (.imm (.bl (decide ((xs.length : Int) ≤ n) && xs.all nameB))) [.non, .non] := by
  refine fn_e (tb_is_words (k + 1)) (ds := [.tup (xs.map .str), .int n]) rfl ?_
  unfold b_is_words
  simp? [List.append_nil, List.replicate]
  by_cases h : n < (xs.length : Int)
  · simp? [h]
    simp [h, Int.not_le.mpr h]
  · simp? [h, decide_false]
    refine ⟨by rfl, run_compT (fun s => D.bl (nameB s)) (fun s hs => ?_) ?_ (by omega)⟩
    · simp? [e_is_name (k := k) (d := .str s) rfl (fun s' e => by cases e; exact hz s hs), wipeR]
      rfl
    · simp? []
      simp [Int.not_lt.mp h]
end WK
end

section
set_option Elab.async false
set_option linter.all false
set_option maxRecDepth 100000
set_option maxHeartbeats 4000000
/-! P3: rows with a text each (dicts by texts), classes, lines -/
namespace WK
open PySem L2 EE
section
variable {β : Type}
def lk (xs : List (Str × β)) (n : Str) : Option β := (xs.find? fun p => decide (p.1 = n)).map (·.2)
def pt (xs : List (Str × β)) (n : Str) (v : β) : List (Str × β) := if xs.any (fun p => decide (p.1 = n)) then xs.map (fun p => if p.1 = n then (p.1, v) else p) else xs ++ [(n, v)]
abbrev kD (g : β → D) (xs : List (Str × β)) : List (L2.Key × D) := xs.map fun p => (Sum.inr p.1, g p.2)
theorem valD_kD {g : β → D} {xs : List (Str × β)} {n : Str} : valD (kD g xs) (.inr n) = (lk xs n).map g := by
  unfold valD lk kD
  induction xs with
  | nil => rfl
  | cons p xs ih =>
    rw [List.map_cons, List.find?_cons, List.find?_cons]
    by_cases h : p.1 = n
    · simp [h]
    · have h2 : ¬ (Sum.inr p.1 : L2.Key) = Sum.inr n := fun e => h (Sum.inr.inj e)
      simp only [h, h2, decide_false]
      exact ih
theorem putD_kD {g : β → D} {xs : List (Str × β)} {n : Str} {v : β} : putD (kD g xs) (.inr n) (g v) = kD g (pt xs n v) := by
  unfold putD pt kD
  have e : (xs.map fun p => ((Sum.inr p.1 : L2.Key), g p.2)).any (fun kv => decide (kv.1 = Sum.inr n)) = xs.any fun p => decide (p.1 = n) := by
    rw [List.any_map]
    congr 1
    funext p
    simp
  rw [e]
  cases xs.any (fun p => decide (p.1 = n)) with
  | false => simp
  | true =>
    simp only [if_true, List.map_map]
    apply List.map_congr_left
    intro p _
    show (if (Sum.inr p.1 : L2.Key) = Sum.inr n then _ else _) = _
    by_cases h : p.1 = n
    · simp [h]
    · have h2 : ¬ (Sum.inr p.1 : L2.Key) = Sum.inr n := fun e => h (Sum.inr.inj e)
      simp [h]
theorem lk_nil {n : Str} : lk ([] : List (Str × β)) n = none := rfl
theorem lk_cons {p : Str × β} {xs : List (Str × β)} {n : Str} : lk (p :: xs) n = if p.1 = n then some p.2 else lk xs n := by
  unfold lk
  rw [List.find?_cons]
  by_cases h : p.1 = n <;> simp [h]
theorem lk_append {xs ys : List (Str × β)} {n : Str} : lk (xs ++ ys) n = (lk xs n).or (lk ys n) := by
  induction xs with
  | nil => rfl
  | cons p xs ih =>
    rw [List.cons_append, lk_cons, lk_cons, ih]
    by_cases h : p.1 = n <;> simp [h]
theorem lk_none {xs : List (Str × β)} {n : Str} : lk xs n = none ↔ n ∉ xs.map (·.1) := by
  induction xs with
  | nil => simp [lk]
  | cons p xs ih =>
    rw [lk_cons, List.map_cons, List.mem_cons]
    by_cases h : p.1 = n
    · simp [h]
    · rw [if_neg h, ih]
      constructor
      · intro h1 h2
        rcases h2 with h2 | h2
        · exact h h2.symm
        · exact h1 h2
      · intro h1 h2; exact h1 (.inr h2)
theorem lk_isSome {xs : List (Str × β)} {n : Str} : (lk xs n).isSome = decide (n ∈ xs.map (·.1)) := by
  by_cases h : n ∈ xs.map (·.1)
  · cases e : lk xs n with
    | none => exact absurd h (lk_none.mp e)
    | some _ => simp [h]
  · rw [lk_none.mpr h]; simp [h]
theorem lk_mem {xs : List (Str × β)} {n : Str} {v : β} (h : lk xs n = some v) : (n, v) ∈ xs := by
  induction xs with
  | nil => cases h
  | cons p xs ih =>
    rw [lk_cons] at h
    by_cases e : p.1 = n
    · rw [if_pos e] at h
      cases h
      rw [← e]
      exact List.mem_cons_self
    · rw [if_neg e] at h
      exact List.mem_cons_of_mem _ (ih h)
theorem lk_of_mem {xs : List (Str × β)} {n : Str} {v : β} (nd : (xs.map (·.1)).Nodup) (h : (n, v) ∈ xs) : lk xs n = some v := by
  induction xs with
  | nil => cases h
  | cons p xs ih =>
    rw [List.map_cons, List.nodup_cons] at nd
    rw [lk_cons]
    rcases List.mem_cons.mp h with e | h
    · subst e; simp
    · rw [if_neg, ih nd.2 h]
      intro e
      exact nd.1 (List.mem_map.mpr ⟨_, h, e.symm⟩)
theorem pt_new {xs : List (Str × β)} {n : Str} {v : β} (h : n ∉ xs.map (·.1)) : pt xs n v = xs ++ [(n, v)] := by
  unfold pt
  rw [if_neg]
  intro e
  obtain ⟨p, hp, e⟩ := List.any_eq_true.mp e
  exact h (List.mem_map.mpr ⟨p, hp, of_decide_eq_true e⟩)
theorem pt_keys {xs : List (Str × β)} {n : Str} {v : β} : (pt xs n v).map (·.1) = if n ∈ xs.map (·.1) then xs.map (·.1) else xs.map (·.1) ++ [n] := by
  by_cases h : n ∈ xs.map (·.1)
  · rw [if_pos h]
    unfold pt
    rw [if_pos]
    · rw [List.map_map]
      apply List.map_congr_left
      intro p _
      show (if p.1 = n then (p.1, v) else p).1 = p.1
      split <;> rfl
    · obtain ⟨p, hp, e⟩ := List.mem_map.mp h
      exact List.any_eq_true.mpr ⟨p, hp, decide_eq_true e⟩
  · rw [if_neg h, pt_new h]; simp
theorem lk_pt {xs : List (Str × β)} {n m : Str} {v : β} : lk (pt xs n v) m = if n = m then some v else lk xs m := by
  by_cases h : n ∈ xs.map (·.1)
  · unfold pt
    rw [if_pos]
    · have : ∀ ys : List (Str × β), n ∈ ys.map (·.1) → lk (ys.map fun p => if p.1 = n then (p.1, v) else p) m = if n = m then some v else lk ys m := by
        intro ys
        induction ys with
        | nil => intro h; cases h
        | cons p ys ih =>
          intro h
          rw [List.map_cons, lk_cons, lk_cons]
          have e1 : (if p.1 = n then (p.1, v) else p).1 = p.1 := by split <;> rfl
          rw [e1]
          by_cases h1 : p.1 = m
          · rw [if_pos h1, if_pos h1]
            by_cases h2 : p.1 = n
            · rw [if_pos h2, if_pos (h2.symm.trans h1)]
            · rw [if_neg h2, if_neg fun e => h2 (h1.trans e.symm)]
          · rw [if_neg h1, if_neg h1]
            by_cases h3 : n ∈ ys.map (·.1)
            · exact ih h3
            · have hp : p.1 = n := by
                rcases List.mem_cons.mp h with e | e
                · exact e.symm
                · exact absurd e h3
              have hm : ¬ n = m := fun e => h1 (hp.trans e)
              rw [if_neg hm]
              have : ys.map (fun p => if p.1 = n then (p.1, v) else p) = ys := by
                conv => rhs; rw [← List.map_id ys]
                apply List.map_congr_left
                intro q hq
                rw [if_neg]
                · rfl
                · intro e
                  exact h3 (List.mem_map.mpr ⟨q, hq, e⟩)
              rw [this]
      exact this xs h
    · obtain ⟨p, hp, e⟩ := List.mem_map.mp h
      exact List.any_eq_true.mpr ⟨p, hp, decide_eq_true e⟩
  · rw [pt_new h, lk_append, lk_cons]
    by_cases h1 : n = m
    · subst h1
      rw [lk_none.mpr h]; simp
    · simp [h1, lk_nil]
theorem lk_reverse {xs : List (Str × β)} {n : Str} (nd : (xs.map (·.1)).Nodup) : lk xs.reverse n = lk xs n := by
  cases h : lk xs n with
  | none =>
    rw [lk_none] at h ⊢
    simpa using h
  | some v =>
    refine lk_of_mem ?_ (List.mem_reverse.mpr (lk_mem h))
    rw [List.map_reverse]
    exact ((List.reverse_perm _).nodup_iff).mpr nd
theorem lk_map {γ : Type} {f : β → γ} {xs : List (Str × β)} {n : Str} : lk (xs.map fun p => (p.1, f p.2)) n = (lk xs n).map f := by
  induction xs with
  | nil => rfl
  | cons p xs ih =>
    rw [List.map_cons, lk_cons, lk_cons, ih]
    by_cases h : p.1 = n <;> simp [h]
end
/-- a class -/
structure Cl where
  par : Option Str
  lev : Int
  own : List Str
  ms : List (Str × Str)
def optD : Option Str → D
  | none => .non
  | some s => .str s
def Cl.d (c : Cl) : D := .tup [optD c.par, .int c.lev, .tup (c.own.map .str), .dct (kD .str c.ms)]
abbrev Cs := List (Str × Cl)
def csD (cs : Cs) : D := .dct (kD Cl.d cs)
/-- a class and its ancestors, the nearest first -/
inductive Line (cs : Cs) : Option Str → List Str → Prop where
  | nil : Line cs none []
  | cons {n : Str} {c : Cl} {l : List Str} (h : lk cs n = some c) (t : Line cs c.par l) : Line cs (some n) (n :: l)
theorem Line.mem {cs : Cs} {o : Option Str} {l : List Str} (h : Line cs o l) : ∀ n ∈ l, n ∈ cs.map (·.1) := by
  induction h with
  | nil => intro n h; cases h
  | cons h t ih =>
    intro m hm
    rcases List.mem_cons.mp hm with rfl | hm
    · exact List.mem_map.mpr ⟨_, lk_mem h, rfl⟩
    · exact ih m hm
theorem Line.mono {cs cs' : Cs} {o : Option Str} {l : List Str} (h : Line cs o l) (e : ∀ n c, lk cs n = some c → ∃ c', lk cs' n = some c' ∧ c'.par = c.par) : Line cs' o l := by
  induction h with
  | nil => exact .nil
  | cons h t ih =>
    obtain ⟨c', h1, h2⟩ := e _ _ h
    exact .cons h1 (h2 ▸ ih)
theorem Line.uniq {cs : Cs} {o : Option Str} {l l' : List Str} (h : Line cs o l) (h' : Line cs o l') : l = l' := by
  induction h generalizing l' with
  | nil => cases h'; rfl
  | cons h t ih =>
    cases h' with
    | cons h2 t2 =>
      rw [h] at h2
      cases h2
      rw [ih t2]
def ownOf (cs : Cs) (n : Str) : List Str := match lk cs n with
  | some c => c.own
  | none => []
def msOf (cs : Cs) (n : Str) : List (Str × Str) := match lk cs n with
  | some c => c.ms
  | none => []
/-- all fields, along a line from the farthest -/
def fieldsL (cs : Cs) (l : List Str) : List Str := l.flatMap (ownOf cs)
def methodsL (cs : Cs) (l : List Str) : List (Str × Str) := l.foldl (fun acc n => (msOf cs n).foldl (fun a p => pt a p.1 p.2) acc) []
end WK
end

section
set_option Elab.async false
set_option linter.all false
set_option maxRecDepth 100000
set_option maxHeartbeats 4000000
open PySem L2 EE
-- W begin
local macro_rules | `(tactic| simp? [$ls,*]) => `(tactic| simp only [
    ↓run_pure, ↓run_bind, ↓run_of, ↓run_bad, ↓run_ite, ↓run_var, ↓run_take, ↓run_pk, ↓run_isL, ↓run_isDc, ↓run_mLst, ↓run_store, ↓run_meth, ↓run_putK, ↓run_frz, ↓run_put, ↓run_seq, ↓run_if, ↓run_ifE, ↓run_nx, 
    ↓run_then, ↓run_drop, ↓run_ret, ↓run_retO, ↓run_set, ↓run_setO, ↓run_asg, ↓ru_tup, ↓runU_stop, ↓run_tst, ↓run_notB, ↓run_and, ↓run_or, ↓run_andV, ↓run_orV, ↓run_notV, ↓run_ch, ↓run_m2, ↓run_m1, ↓run_mN, 
    ↓run_oLst, ↓run_ixO, ↓run_fz, ↓run_fzO, ↓run_disp, ↓run_aug, ↓ru_for, ↓run_raise1, ↓ru_call, ↓run_ag, ↓callP_v1, ↓callP_v2, ↓callP_v3, ↓callP_v4, ↓callP_o0, ↓callP_o1, ↓callP_o2, ↓callP_o3, ↓callP_1o, 
    ↓callP_3o, ↓run_comp, ↓run_oComp, ↓run_compD, ↓run_dcompD, ↓run_forD, ↓run_fldI, ↓run_putF, ↓run_self, ↓stop_forM, ↓stop_while, ↓stop_compM, ↓stop_dcompM, ↓stop_make, ↓stop_try, ↓stop_xf, ↓stop_potNew, 
    ↓onR_stop, ↓onS_stop, ↓onI_stop, ↓onT_stop, ↓onA_stop, ↓onL_stop, ↓onK_stop, ↓onB_stop, ↓onO_stop, ↓onN_stop, ↓onF_nx, ↓onF_rt, ↓onF_bk, ↓onF_ct, ↓onLp_nx, ↓onLp_ct, ↓onLp_bk, ↓onLp_rt, ↓retP_rt, ↓retP_nx, 
    ↓pt0, ↓pt1, ↓pt2, ↓pt3, ↓pt4, ↓pt5, ↓pt6, ↓pt7, ↓pt8, ↓pt9, ↓pt10, ↓pt11, ↓pt12, ↓pt13, ↓pt14, ↓pt15, ↓pt16, ↓pt17, ↓at0, ↓at1, ↓at2, ↓at3, ↓at4, ↓at5, ↓at6, ↓at7, ↓at8, ↓at9, ↓at10, ↓at11, ↓at12, ↓at13, 
    ↓at14, ↓at15, ↓at16, ↓at17, ↓st0, ↓st1, ↓st2, ↓st3, ↓st4, ↓st5, ↓st6, ↓st7, ↓st8, ↓st9, ↓st10, ↓st11, ↓st12, ↓st13, ↓st14, ↓st15, ↓st16, ↓st17, ↓sv0, ↓sv1, ↓sv2, ↓sv3, ↓sv4, ↓sv5, ↓sv6, ↓sv7, ↓sv8, ↓sv9, 
    ↓sv10, ↓sv11, ↓sv12, ↓sv13, ↓sv14, ↓sv15, ↓sv16, ↓sv17, onRD_ok, onRD_exc, onSD_some, onID_imm, onTD_imm, onTD_lst, onTD_dct, onTD_pot, onTD_obj, onAD_some, onLD_lst, onKD_dct, onBD_true, onBD_false, onBD_not, 
    onOD_obj, onND_lst, onND_dct, onND_pot, onND_obj, runUD_bind, runUD_pure, isBl_bl, frzD_imm, frzD_lst, frzD_dct, frzS_imm, frzS_lst, frzS_dct, frzO_obj, frzO_imm, fvS_imm, fvS_lst, fvS_dct, pkD_imm, pkD_lst, 
    pkD_dct, bind_some', itD_lst, itD_tup, itD_str, enD_lst, enD_tup, revD_lst, starD_tup, starD_lst, seqD_tup, seqD_lst, keyD_str, keyD_int, wkD_keys, wkD_vals, wkD_items, fTupOf_lst, fTupOf_tup, fDctOf_dct, 
    fListAll_lst, fListAll_tup, fLen_tup, fLen_lst, fLen_dct, fAbs_int, fInt_int, fLt_int, fLe_int, fGt_int, fGe_int, fSub_int, fAdd_int, fAddN_int, fNeg_int, fPop0_ok, isN_non, notN_non, isN_bl, notN_bl, 
    isN_int, notN_int, isN_str, notN_str, isN_tup, notN_tup, isN_lst, notN_lst, isN_dct, notN_dct, isN_ins, notN_ins, isi_int_non, isi_int_bl, isi_int_int, isi_int_str, isi_int_tup, isi_int_lst, isi_int_dct, 
    isi_bool_non, isi_bool_bl, isi_bool_int, isi_bool_str, isi_bool_tup, isi_bool_lst, isi_bool_dct, isi_str_non, isi_str_bl, isi_str_int, isi_str_str, isi_str_tup, isi_str_lst, isi_str_dct, isi_tuple_non, 
    isi_tuple_bl, isi_tuple_int, isi_tuple_str, isi_tuple_tup, isi_tuple_lst, isi_tuple_dct, isi_list_non, isi_list_bl, isi_list_int, isi_list_str, isi_list_tup, isi_list_lst, isi_list_dct, isi_dict_non, isi_dict_bl, 
    isi_dict_int, isi_dict_str, isi_dict_tup, isi_dict_lst, isi_dict_dct, fIx_tup, fIx_lst, fIx_dctS, fIx_dctI, fIy_tup, fIy_lst, fIy_dctS, fGet_S, isDD_dct, ix0, ix1, ix2, ix3, ix4, ix5, ix6, ix7, eqX_non, 
    eqX_int, neX_int, inDct_S, ninDct_S, inTb_f, inTb_t, ixTb_s, in_tupS, nin_tupS, in_lstS, nin_lstS, fAll_map, fAny_map, sIx, ks_nil, ks_non, ks_imm, ks_lst, ks_dct, ks_pot, ks_obj, fTup_ok, fLst_ok, okSz_of, 
    fApp_ok, fIns0_ok, fExt_lst, fExt_tup, List.map_cons, List.map_nil, List.length_cons, List.length_nil, List.length_map, List.nil_append, List.cons_append, List.getElem?_cons_zero, Option.getD_some, Nat.reduceAdd, 
    Nat.reduceLeDiff, Nat.reduceLT, Nat.reduceEqDiff, Nat.zero_le, ↓reduceIte, if_true, if_false, true_and, and_true, and_self, Bool.not_true, Bool.not_false, Bool.and_self, Bool.true_and, decide_true, decide_false, 
    cast0, cast1, Int.cast_ofNat_Int, eq_self, Int.reduceEq, Int.reduceLT, Int.reduceLE, Int.reduceAdd, Int.reduceNeg, Int.reduceSub, $ls,*])
-- W end
/-! P4: lines of classes, their fields and methods -/
namespace WK
open PySem L2 EE
theorem e_class_line (k : Nat) {cs : Cs} {o : Option Str} {l : List Str} (hL : Line cs o l) (nd : l.Nodup) (hl : l.length < 1000) : Tb (k + 2) 15 [.imm (csD cs), .imm (optD o)] = .ok (.lst (l.reverse.map .str)) [.non, .non] := by
  refine fn_e (tb_class_line k) (ds := [csD cs, optD o]) rfl ?_
  unfold b_class_line
  simp? [List.append_nil, List.replicate]
  refine run_while (fun n ρ => ∃ done rest o', l = done ++ rest ∧ n = rest.length ∧ Line cs o' rest ∧ ρ = [.imm (csD cs), .imm (optD o'), .lst (done.reverse.map .str)]) l.length ⟨[], l, o, rfl, rfl, hL, rfl⟩ (fun n ρ i => ?_) hl
  obtain ⟨done, rest, o', e, rfl, hr, rfl⟩ := i
  cases hr with
  | nil =>
    simp? [optD]
    rw [e]; simp
  | @cons m c rest h t =>
    have hm : m ∉ done.reverse := by
      rw [e] at nd
      intro hm
      exact (List.nodup_append.mp nd).2.2 m (by simpa using hm) m (by simp) rfl
    have hd : (done.reverse.map D.str).length ≤ 1000000 := by
      have : l.length = done.length + (rest.length + 1) := by rw [e]; simp
      simp; omega
    simp? [optD, csD, hm, decide_false, fIns0_ok hd, valD_kD, h, Option.map_some, Cl.d]
    refine ⟨rest.length, by omega, done ++ [m], rest, c.par, by rw [e]; simp, rfl, t, ?_⟩
    simp
theorem e_class_lineS (k : Nat) {cs : Cs} {n : Str} {l : List Str} (hL : Line cs (some n) l) (nd : l.Nodup) (hl : l.length < 1000) : Tb (k + 2) 15 [.imm (csD cs), .imm (.str n)] = .ok (.lst (l.reverse.map .str)) [.non, .non] := e_class_line k hL nd hl
theorem e_fields_by_line (k : Nat) {cs : Cs} {l : List Str} (hk : ∀ n ∈ l, n ∈ cs.map (·.1)) (hf : (fieldsL cs l).length ≤ 1000) : Tb (k + 2) 16 [.imm (csD cs), .imm (.lst (l.map .str))] = .ok (.imm (.tup ((fieldsL cs l).map .str))) [.non, .non] := by
  refine fn_e (tb_fields_by_line k) (ds := [csD cs, .lst (l.map .str)]) rfl ?_
  unfold b_fields_by_line
  simp? [List.append_nil, List.replicate]
  refine run_forM (fun pre ρ => ∃ x, ρ = [.imm (csD cs), .imm (.lst (l.map .str)), .lst ((fieldsL cs pre).map .str), x]) ⟨_, rfl⟩ (fun pre n post ρ e i => ?_) (fun ρ i => ?_)
  · obtain ⟨x, rfl⟩ := i
    have hn : n ∈ cs.map (·.1) := hk n (by rw [e]; simp)
    cases hc : lk cs n with
    | none => exact absurd hn (lk_none.mp hc)
    | some c =>
      have hz : ((fieldsL cs pre).map D.str).length + (c.own.map D.str).length ≤ 1000000 := by
        have : (fieldsL cs l).length = (fieldsL cs pre).length + (c.own.length + (fieldsL cs post).length) := by
          rw [e]; unfold fieldsL; simp [ownOf, hc]
        simp; omega
      simp? [csD, valD_kD, hc, Option.map_some, Cl.d, fExt_tup hz]
      refine ⟨.imm (.str n), ?_⟩
      congr 4
      unfold fieldsL
      simp [ownOf, hc]
  · obtain ⟨x, rfl⟩ := i
    simp? []
theorem e_methods_by_line (k : Nat) {cs : Cs} {l : List Str} (hk : ∀ n ∈ l, n ∈ cs.map (·.1)) (hf : ∀ a b, l = a ++ b → (methodsL cs a).length ≤ 1000) (hm : ∀ a n b c d, l = a ++ n :: b → msOf cs n = c ++ d → (c.foldl (fun a p => pt a p.1 p.2) (methodsL cs a)).length ≤ 1000) : Tb (k + 2) 17 [.imm (csD cs), .imm (.lst (l.map .str))] = .ok (.dct (kD .str (methodsL cs l))) [.non, .non] := by
  refine fn_e (tb_methods_by_line k) (ds := [csD cs, .lst (l.map .str)]) rfl ?_
  unfold b_methods_by_line
  simp? [List.append_nil, List.replicate]
  refine run_forM (fun pre ρ => ∃ x y z, ρ = [.imm (csD cs), .imm (.lst (l.map .str)), .dct (kD .str (methodsL cs pre)), x, y, z]) ⟨_, _, _, rfl⟩ (fun pre n post ρ e i => ?_) (fun ρ i => ?_)
  · obtain ⟨x, y, z, rfl⟩ := i
    have hn : n ∈ cs.map (·.1) := hk n (by rw [e]; simp)
    cases hc : lk cs n with
    | none => exact absurd hn (lk_none.mp hc)
    | some c =>
      simp? [csD, valD_kD, hc, Option.map_some, Cl.d, sIx, List.map_map]
      refine run_forM (fun pre2 ρ => ∃ y z, ρ = [.imm (csD cs), .imm (.lst (l.map .str)), .dct (kD .str (pre2.foldl (fun a p => pt a p.1 p.2) (methodsL cs pre))), .imm (.str n), y, z]) ⟨_, _, rfl⟩ (fun pre2 p post2 ρ e2 i2 => ?_) (fun ρ i2 => ?_)
      · obtain ⟨y, z, rfl⟩ := i2
        have hz := hm pre n post pre2 (p :: post2) e (by unfold msOf; rw [hc]; exact e2)
        simp? [Function.comp, keyV]
        refine ⟨by omega, .imm (.str p.1), .imm (.str p.2), ?_⟩
        rw [putD_kD, List.foldl_append]
        rfl
      · obtain ⟨y, z, rfl⟩ := i2
        simp? []
        refine ⟨.imm (.str n), y, z, ?_⟩
        unfold methodsL
        rw [List.foldl_append]
        simp [msOf, hc, csD]
  · obtain ⟨x, y, z, rfl⟩ := i
    simp? []
end WK
end

section
set_option Elab.async false
set_option linter.all false
set_option maxRecDepth 100000
set_option maxHeartbeats 4000000
open PySem L2 EE
-- W begin
local macro_rules | `(tactic| simp? [$ls,*]) => `(tactic| simp only [
    ↓run_pure, ↓run_bind, ↓run_of, ↓run_bad, ↓run_ite, ↓run_var, ↓run_take, ↓run_pk, ↓run_isL, ↓run_isDc, ↓run_mLst, ↓run_store, ↓run_meth, ↓run_putK, ↓run_frz, ↓run_put, ↓run_seq, ↓run_if, ↓run_ifE, ↓run_nx, 
    ↓run_then, ↓run_drop, ↓run_ret, ↓run_retO, ↓run_set, ↓run_setO, ↓run_asg, ↓ru_tup, ↓runU_stop, ↓run_tst, ↓run_notB, ↓run_and, ↓run_or, ↓run_andV, ↓run_orV, ↓run_notV, ↓run_ch, ↓run_m2, ↓run_m1, ↓run_mN, 
    ↓run_oLst, ↓run_ixO, ↓run_fz, ↓run_fzO, ↓run_disp, ↓run_aug, ↓ru_for, ↓run_raise1, ↓ru_call, ↓run_ag, ↓callP_v1, ↓callP_v2, ↓callP_v3, ↓callP_v4, ↓callP_o0, ↓callP_o1, ↓callP_o2, ↓callP_o3, ↓callP_1o, 
    ↓callP_3o, ↓run_comp, ↓run_oComp, ↓run_compD, ↓run_dcompD, ↓run_forD, ↓run_fldI, ↓run_putF, ↓run_self, ↓stop_forM, ↓stop_while, ↓stop_compM, ↓stop_dcompM, ↓stop_make, ↓stop_try, ↓stop_xf, ↓stop_potNew, 
    ↓onR_stop, ↓onS_stop, ↓onI_stop, ↓onT_stop, ↓onA_stop, ↓onL_stop, ↓onK_stop, ↓onB_stop, ↓onO_stop, ↓onN_stop, ↓onF_nx, ↓onF_rt, ↓onF_bk, ↓onF_ct, ↓onLp_nx, ↓onLp_ct, ↓onLp_bk, ↓onLp_rt, ↓retP_rt, ↓retP_nx, 
    ↓pt0, ↓pt1, ↓pt2, ↓pt3, ↓pt4, ↓pt5, ↓pt6, ↓pt7, ↓pt8, ↓pt9, ↓pt10, ↓pt11, ↓pt12, ↓pt13, ↓pt14, ↓pt15, ↓pt16, ↓pt17, ↓at0, ↓at1, ↓at2, ↓at3, ↓at4, ↓at5, ↓at6, ↓at7, ↓at8, ↓at9, ↓at10, ↓at11, ↓at12, ↓at13, 
    ↓at14, ↓at15, ↓at16, ↓at17, ↓st0, ↓st1, ↓st2, ↓st3, ↓st4, ↓st5, ↓st6, ↓st7, ↓st8, ↓st9, ↓st10, ↓st11, ↓st12, ↓st13, ↓st14, ↓st15, ↓st16, ↓st17, ↓sv0, ↓sv1, ↓sv2, ↓sv3, ↓sv4, ↓sv5, ↓sv6, ↓sv7, ↓sv8, ↓sv9, 
    ↓sv10, ↓sv11, ↓sv12, ↓sv13, ↓sv14, ↓sv15, ↓sv16, ↓sv17, onRD_ok, onRD_exc, onSD_some, onID_imm, onTD_imm, onTD_lst, onTD_dct, onTD_pot, onTD_obj, onAD_some, onLD_lst, onKD_dct, onBD_true, onBD_false, onBD_not, 
    onOD_obj, onND_lst, onND_dct, onND_pot, onND_obj, runUD_bind, runUD_pure, isBl_bl, frzD_imm, frzD_lst, frzD_dct, frzS_imm, frzS_lst, frzS_dct, frzO_obj, frzO_imm, fvS_imm, fvS_lst, fvS_dct, pkD_imm, pkD_lst, 
    pkD_dct, bind_some', itD_lst, itD_tup, itD_str, enD_lst, enD_tup, revD_lst, starD_tup, starD_lst, seqD_tup, seqD_lst, keyD_str, keyD_int, wkD_keys, wkD_vals, wkD_items, fTupOf_lst, fTupOf_tup, fDctOf_dct, 
    fListAll_lst, fListAll_tup, fLen_tup, fLen_lst, fLen_dct, fAbs_int, fInt_int, fLt_int, fLe_int, fGt_int, fGe_int, fSub_int, fAdd_int, fAddN_int, fNeg_int, fPop0_ok, isN_non, notN_non, isN_bl, notN_bl, 
    isN_int, notN_int, isN_str, notN_str, isN_tup, notN_tup, isN_lst, notN_lst, isN_dct, notN_dct, isN_ins, notN_ins, isi_int_non, isi_int_bl, isi_int_int, isi_int_str, isi_int_tup, isi_int_lst, isi_int_dct, 
    isi_bool_non, isi_bool_bl, isi_bool_int, isi_bool_str, isi_bool_tup, isi_bool_lst, isi_bool_dct, isi_str_non, isi_str_bl, isi_str_int, isi_str_str, isi_str_tup, isi_str_lst, isi_str_dct, isi_tuple_non, 
    isi_tuple_bl, isi_tuple_int, isi_tuple_str, isi_tuple_tup, isi_tuple_lst, isi_tuple_dct, isi_list_non, isi_list_bl, isi_list_int, isi_list_str, isi_list_tup, isi_list_lst, isi_list_dct, isi_dict_non, isi_dict_bl, 
    isi_dict_int, isi_dict_str, isi_dict_tup, isi_dict_lst, isi_dict_dct, fIx_tup, fIx_lst, fIx_dctS, fIx_dctI, fIy_tup, fIy_lst, fIy_dctS, fGet_S, isDD_dct, ix0, ix1, ix2, ix3, ix4, ix5, ix6, ix7, eqX_non, 
    eqX_int, neX_int, inDct_S, ninDct_S, inTb_f, inTb_t, ixTb_s, in_tupS, nin_tupS, in_lstS, nin_lstS, fAll_map, fAny_map, sIx, ks_nil, ks_non, ks_imm, ks_lst, ks_dct, ks_pot, ks_obj, fTup_ok, fLst_ok, okSz_of, 
    fApp_ok, fIns0_ok, fExt_lst, fExt_tup, List.map_cons, List.map_nil, List.length_cons, List.length_nil, List.length_map, List.nil_append, List.cons_append, List.getElem?_cons_zero, Option.getD_some, Nat.reduceAdd, 
    Nat.reduceLeDiff, Nat.reduceLT, Nat.reduceEqDiff, Nat.zero_le, ↓reduceIte, if_true, if_false, true_and, and_true, and_self, Bool.not_true, Bool.not_false, Bool.and_self, Bool.true_and, decide_true, decide_false, 
    cast0, cast1, Int.cast_ofNat_Int, eq_self, Int.reduceEq, Int.reduceLT, Int.reduceLE, Int.reduceAdd, Int.reduceNeg, Int.reduceSub, $ls,*])
-- W end
/-! P5: the checks of the three dicts, where they are right -/
namespace WK
open PySem L2 EE
theorem strsB_of {xs : List Str} (h : xs.Nodup) : strsB xs = true := by
  unfold strsB
  rw [cntS_nodup xs _ (Nat.le_refl _) h]
  simp
theorem nodup_len : ∀ (l ks : List Str), l.Nodup → (∀ x ∈ l, x ∈ ks) → l.length ≤ ks.length
  | [], _, _, _ => Nat.zero_le _
  | x :: l, ks, nd, h => by
    rw [List.nodup_cons] at nd
    have hx : x ∈ ks := h x List.mem_cons_self
    have ih := nodup_len l (ks.erase x) nd.2 fun y hy => (List.mem_erase_of_ne (a := y) (b := x) fun e => nd.1 (by rw [← e]; exact hy)).mpr (h y (List.mem_cons_of_mem _ hy))
    have := List.length_erase_of_mem hx
    have : 0 < ks.length := List.length_pos_of_mem hx
    simp; omega
theorem nameB_len {s : Str} (h : nameB s = true) : s.length ≤ 8 := by
  unfold nameB at h
  simp at h
  exact h.2.1
theorem e_is_methods (k : Nat) {ms : List (Str × Str)} (hl : ms.length ≤ 1000) (hn : ∀ p ∈ ms, nameB p.1 = true ∧ nameB p.2 = true) : Tb (k + 3) 19 [.imm (.dct (kD .str ms))] = .ok (.imm (.bl true)) [.non] := by
  refine fn_e (tb_is_methods (k + 1)) (ds := [.dct (kD .str ms)]) rfl ?_
  unfold b_is_methods
  simp? [List.append_nil, List.replicate, List.map_map]
  refine ⟨by rfl, run_compT (fun _ => D.bl true) (fun p hp => ?_) ?_ (by omega)⟩
  · obtain ⟨h1, h2⟩ := hn p hp
    simp? [wipeR, Function.comp, keyV, e_is_name (k := k) (d := .str p.1) rfl (fun s' e => by cases e; have := nameB_len h1; omega), e_is_name (k := k) (d := .str p.2) rfl (fun s' e => by cases e; have := nameB_len h2; omega), nameD, h1, h2]
  · simp? [fAll_map (f := fun _ => true)]
    simp
structure Row (cs : Cs) (c : Cl) : Prop where
  par : ∀ q, c.par = some q → nameB q = true ∧ q ∈ cs.map (·.1)
  lev : 1 ≤ c.lev ∧ c.lev ≤ 2
  own : c.own.length ≤ 3 ∧ (∀ x ∈ c.own, nameB x = true) ∧ c.own.Nodup
  msl : c.ms.length ≤ 2
  ms : ∀ p ∈ c.ms, nameB p.1 = true ∧ (p.2 = "f" ∨ p.2 = "g" ∨ p.2 = "h")
  mks : (c.ms.map (·.1)).Nodup
structure WF (cs : Cs) : Prop where
  nd : (cs.map (·.1)).Nodup
  len : cs.length ≤ 6
  nm : ∀ p ∈ cs, nameB p.1 = true ∧ p.1 ≠ "word" ∧ p.1 ≠ "row" ∧ p.1 ≠ "kept"
  row : ∀ p ∈ cs, Row cs p.2
  line : ∀ n ∈ cs.map (·.1), ∃ l, Line cs (some n) l ∧ l.Nodup ∧ (fieldsL cs l.reverse).length ≤ 4 ∧ (fieldsL cs l.reverse).Nodup
theorem name_fgh {s : Str} (h : s = "f" ∨ s = "g" ∨ s = "h") : nameB s = true := by
  rcases h with rfl | rfl | rfl <;> decide +kernel
theorem e_is_class_row (k : Nat) {cs : Cs} {c : Cl} (h : Row cs c) (hl : cs.length ≤ 1000) : Tb (k + 4) 20 [.imm (csD cs), .imm c.d] = .ok (.imm (.bl true)) [.non, .non] := by
  refine fn_e (tb_is_class_row (k + 2)) (ds := [csD cs, c.d]) rfl ?_
  unfold b_is_class_row
  have h3 : decide ((3 : Int) = 4) = false := rfl
  simp? [List.append_nil, List.replicate, Cl.d]
  obtain ⟨par, lev, own, ms⟩ := c
  have ho : own.length ≤ 3 ∧ (∀ x ∈ own, nameB x = true) ∧ own.Nodup := h.own
  have o1 : ((own.length : Int) ≤ 3) = True := by have := ho.1; simp; omega
  have o2 : own.all nameB = true := List.all_eq_true.mpr ho.2.1
  have fin : inB (.int lev) 1 2 = true := by unfold inB; have := h.lev; simp; exact this
  cases par with
  | none =>
    simp? [optD, e_is_number (k + 0) (d := .int lev) rfl, fin, e_is_names (k + 0) own 3 (fun x hx => by have := nameB_len (ho.2.1 x hx); omega) (by omega), o1, o2, strsB_of ho.2.2, e_is_methods (k + 0) (ms := ms) (by have := h.msl; simp at this; omega) (fun p hp => ⟨(h.ms p hp).1, name_fgh (h.ms p hp).2⟩)]
  | some q =>
    obtain ⟨h1, h2⟩ := h.par q rfl
    have h4 : (lk cs q).isSome = true := by rw [lk_isSome]; simpa using h2
    simp? [optD, csD, valD_kD, Option.isSome_map, h4, e_is_name (k := k + 1) (d := .str q) rfl (fun s' e => by cases e; have := nameB_len h1; omega), nameD, h1, e_is_number (k + 0) (d := .int lev) rfl, fin, e_is_names (k + 0) own 3 (fun x hx => by have := nameB_len (ho.2.1 x hx); omega) (by omega), o1, o2, strsB_of ho.2.2, e_is_methods (k + 0) (ms := ms) (by have := h.msl; simp at this; omega) (fun p hp => ⟨(h.ms p hp).1, name_fgh (h.ms p hp).2⟩)]
theorem kinds_in {s : Str} (h : s ≠ "word" ∧ s ≠ "row" ∧ s ≠ "kept") : fIn (.str s) c_KINDS = some (.bl false) := by
  have e : c_KINDS = .tup ((["word", "row", "kept"] : List Str).map D.str) := rfl
  rw [e, in_tupS]
  simp [h]
theorem e_is_classes (k : Nat) {cs : Cs} (h : WF cs) : Tb (k + 5) 21 [.imm (csD cs)] = .ok (.imm (.bl true)) [.non] := by
  refine fn_e (tb_is_classes (k + 3)) (ds := [csD cs]) rfl ?_
  unfold b_is_classes
  have l1 : ¬ (6 : Int) < (cs.length : Int) := by have := h.len; omega
  have hlen := h.len
  simp? [List.append_nil, List.replicate, csD, l1, decide_false, List.map_map]
  refine run_forM (fun pre ρ => ∃ x y, ρ = [.imm (csD cs), x, y, .non, .non]) ⟨_, _, rfl⟩ (fun pre p post ρ e i => ?_) (fun ρ i => ?_)
  · obtain ⟨x, y, rfl⟩ := i
    have hp : p ∈ cs := by rw [e]; simp
    obtain ⟨n1, n2⟩ := h.nm p hp
    simp? [Function.comp, keyV, e_is_name (k := k + 2) (d := .str p.1) rfl (fun s' e => by cases e; have := nameB_len n1; omega), nameD, n1, kinds_in n2, e_is_class_row k (h.row p hp) (by omega)]
    exact ⟨_, _, rfl⟩
  · obtain ⟨x, y, rfl⟩ := i
    simp? [csD, List.map_map]
    refine run_forM (fun pre ρ => ∃ x y z w, ρ = [.imm (csD cs), x, y, z, w]) ⟨_, _, _, _, rfl⟩ (fun pre p post ρ e i => ?_) (fun ρ i => ?_)
    · obtain ⟨x, y, z, w, rfl⟩ := i
      have hp : p.1 ∈ cs.map (·.1) := by rw [e]; simp
      obtain ⟨l, hL, nd, f4, fn⟩ := h.line p.1 hp
      have hl6 : l.length ≤ 6 := by
        have := nodup_len l _ nd fun n hn => hL.mem n hn
        simp at this; omega
      have f5 : ¬ (4 : Int) < ((fieldsL cs l.reverse).length : Int) := by omega
      simp? [Function.comp, keyV, e_class_lineS (k + 2) hL nd (by omega), e_fields_by_line (k + 2) (cs := cs) (l := l.reverse) (fun n hn => hL.mem n (by simpa using hn)) (by omega), f5, decide_false, e_is_unlike (k + 2) (fieldsL cs l.reverse) (by omega), strsB_of fn]
      exact ⟨_, _, _, _, rfl⟩
    · obtain ⟨x, y, z, w, rfl⟩ := i
      simp? []
end WK
end

section
set_option Elab.async false
set_option linter.all false
set_option maxRecDepth 100000
set_option maxHeartbeats 4000000
open PySem L2 EE
-- W begin
local macro_rules | `(tactic| simp? [$ls,*]) => `(tactic| simp only [
    ↓run_pure, ↓run_bind, ↓run_of, ↓run_bad, ↓run_ite, ↓run_var, ↓run_take, ↓run_pk, ↓run_isL, ↓run_isDc, ↓run_mLst, ↓run_store, ↓run_meth, ↓run_putK, ↓run_frz, ↓run_put, ↓run_seq, ↓run_if, ↓run_ifE, ↓run_nx, 
    ↓run_then, ↓run_drop, ↓run_ret, ↓run_retO, ↓run_set, ↓run_setO, ↓run_asg, ↓ru_tup, ↓runU_stop, ↓run_tst, ↓run_notB, ↓run_and, ↓run_or, ↓run_andV, ↓run_orV, ↓run_notV, ↓run_ch, ↓run_m2, ↓run_m1, ↓run_mN, 
    ↓run_oLst, ↓run_ixO, ↓run_fz, ↓run_fzO, ↓run_disp, ↓run_aug, ↓ru_for, ↓run_raise1, ↓ru_call, ↓run_ag, ↓callP_v1, ↓callP_v2, ↓callP_v3, ↓callP_v4, ↓callP_o0, ↓callP_o1, ↓callP_o2, ↓callP_o3, ↓callP_1o, 
    ↓callP_3o, ↓run_comp, ↓run_oComp, ↓run_compD, ↓run_dcompD, ↓run_forD, ↓run_fldI, ↓run_putF, ↓run_self, ↓stop_forM, ↓stop_while, ↓stop_compM, ↓stop_dcompM, ↓stop_make, ↓stop_try, ↓stop_xf, ↓stop_potNew, 
    ↓onR_stop, ↓onS_stop, ↓onI_stop, ↓onT_stop, ↓onA_stop, ↓onL_stop, ↓onK_stop, ↓onB_stop, ↓onO_stop, ↓onN_stop, ↓onF_nx, ↓onF_rt, ↓onF_bk, ↓onF_ct, ↓onLp_nx, ↓onLp_ct, ↓onLp_bk, ↓onLp_rt, ↓retP_rt, ↓retP_nx, 
    ↓pt0, ↓pt1, ↓pt2, ↓pt3, ↓pt4, ↓pt5, ↓pt6, ↓pt7, ↓pt8, ↓pt9, ↓pt10, ↓pt11, ↓pt12, ↓pt13, ↓pt14, ↓pt15, ↓pt16, ↓pt17, ↓at0, ↓at1, ↓at2, ↓at3, ↓at4, ↓at5, ↓at6, ↓at7, ↓at8, ↓at9, ↓at10, ↓at11, ↓at12, ↓at13, 
    ↓at14, ↓at15, ↓at16, ↓at17, ↓st0, ↓st1, ↓st2, ↓st3, ↓st4, ↓st5, ↓st6, ↓st7, ↓st8, ↓st9, ↓st10, ↓st11, ↓st12, ↓st13, ↓st14, ↓st15, ↓st16, ↓st17, ↓sv0, ↓sv1, ↓sv2, ↓sv3, ↓sv4, ↓sv5, ↓sv6, ↓sv7, ↓sv8, ↓sv9, 
    ↓sv10, ↓sv11, ↓sv12, ↓sv13, ↓sv14, ↓sv15, ↓sv16, ↓sv17, onRD_ok, onRD_exc, onSD_some, onID_imm, onTD_imm, onTD_lst, onTD_dct, onTD_pot, onTD_obj, onAD_some, onLD_lst, onKD_dct, onBD_true, onBD_false, onBD_not, 
    onOD_obj, onND_lst, onND_dct, onND_pot, onND_obj, runUD_bind, runUD_pure, isBl_bl, frzD_imm, frzD_lst, frzD_dct, frzS_imm, frzS_lst, frzS_dct, frzO_obj, frzO_imm, fvS_imm, fvS_lst, fvS_dct, pkD_imm, pkD_lst, 
    pkD_dct, bind_some', itD_lst, itD_tup, itD_str, enD_lst, enD_tup, revD_lst, starD_tup, starD_lst, seqD_tup, seqD_lst, keyD_str, keyD_int, wkD_keys, wkD_vals, wkD_items, fTupOf_lst, fTupOf_tup, fDctOf_dct, 
    fListAll_lst, fListAll_tup, fLen_tup, fLen_lst, fLen_dct, fAbs_int, fInt_int, fLt_int, fLe_int, fGt_int, fGe_int, fSub_int, fAdd_int, fAddN_int, fNeg_int, fPop0_ok, isN_non, notN_non, isN_bl, notN_bl, 
    isN_int, notN_int, isN_str, notN_str, isN_tup, notN_tup, isN_lst, notN_lst, isN_dct, notN_dct, isN_ins, notN_ins, isi_int_non, isi_int_bl, isi_int_int, isi_int_str, isi_int_tup, isi_int_lst, isi_int_dct, 
    isi_bool_non, isi_bool_bl, isi_bool_int, isi_bool_str, isi_bool_tup, isi_bool_lst, isi_bool_dct, isi_str_non, isi_str_bl, isi_str_int, isi_str_str, isi_str_tup, isi_str_lst, isi_str_dct, isi_tuple_non, 
    isi_tuple_bl, isi_tuple_int, isi_tuple_str, isi_tuple_tup, isi_tuple_lst, isi_tuple_dct, isi_list_non, isi_list_bl, isi_list_int, isi_list_str, isi_list_tup, isi_list_lst, isi_list_dct, isi_dict_non, isi_dict_bl, 
    isi_dict_int, isi_dict_str, isi_dict_tup, isi_dict_lst, isi_dict_dct, fIx_tup, fIx_lst, fIx_dctS, fIx_dctI, fIy_tup, fIy_lst, fIy_dctS, fGet_S, isDD_dct, ix0, ix1, ix2, ix3, ix4, ix5, ix6, ix7, eqX_non, 
    eqX_int, neX_int, inDct_S, ninDct_S, inTb_f, inTb_t, ixTb_s, in_tupS, nin_tupS, in_lstS, nin_lstS, fAll_map, fAny_map, sIx, ks_nil, ks_non, ks_imm, ks_lst, ks_dct, ks_pot, ks_obj, fTup_ok, fLst_ok, okSz_of, 
    fApp_ok, fIns0_ok, fExt_lst, fExt_tup, List.map_cons, List.map_nil, List.length_cons, List.length_nil, List.length_map, List.nil_append, List.cons_append, List.getElem?_cons_zero, Option.getD_some, Nat.reduceAdd, 
    Nat.reduceLeDiff, Nat.reduceLT, Nat.reduceEqDiff, Nat.zero_le, ↓reduceIte, if_true, if_false, true_and, and_true, and_self, Bool.not_true, Bool.not_false, Bool.and_self, Bool.true_and, decide_true, decide_false, 
    cast0, cast1, Int.cast_ofNat_Int, eq_self, Int.reduceEq, Int.reduceLT, Int.reduceLE, Int.reduceAdd, Int.reduceNeg, Int.reduceSub, $ls,*])
-- W end
/-! P6: a program made of the classes and the three functions -/
namespace WK
open PySem L2 EE
def fnF : D := .tup [.tup [.str "a"], .int 1, .tup []]
def fnG : D := .tup [.tup [.str "a", .str "b"], .int 2, .tup []]
def fnH : D := .tup [.tup [.str "x"], .int 2, .tup [.tup [.str "return", .str "x"]]]
def fnK : List (L2.Key × D) := [(.inr "f", fnF), (.inr "g", fnG), (.inr "h", fnH)]
theorem fn_sorted : fSorted [.dct fnK] = some (.lst [.str "f", .str "g", .str "h"]) := by
  show (none : Option D).or ((some (["f", "g", "h"] : List Str)).bind fun xs : List Str => if xs.length < 64 then some (D.lst ((sortS xs).map .str)) else none) = _
  have e : sortS (["f", "g", "h"] : List Str) = (["f", "g", "h"] : List Str) := by
    unfold sortS
    exact List.mergeSort_of_pairwise (by decide +kernel)
  simp [e]
theorem fn_f : valD fnK (.inr "f") = some fnF := by kernel_rfl
theorem fn_g : valD fnK (.inr "g") = some fnG := by kernel_rfl
theorem fn_h : valD fnK (.inr "h") = some fnH := by kernel_rfl
theorem e_is_functions (k : Nat) : Tb (k + 5) 23 [.imm (.dct fnK)] = .ok (.imm (.bl true)) [.non] := by kernel_rfl
theorem e_is_shared0 (k : Nat) : Tb (k + 5) 18 [.imm (.dct [])] = .ok (.imm (.bl true)) [.non] := by kernel_rfl
theorem e_block_e (k : Nat) {kn : D} : Tb (k + 9) 14 [.imm kn, .imm (.tup []), .imm (.int 1)] = .ok (.imm (.bl true)) [.non, .non, .non] := by kernel_rfl
theorem e_block_h (k : Nat) {kn : D} : Tb (k + 9) 14 [.imm kn, .imm (.tup [.tup [.str "return", .str "x"]]), .imm (.int 1)] = .ok (.imm (.bl true)) [.non, .non, .non] := by kernel_rfl
theorem e_plain_f (k : Nat) : Tb (k + 9) 30 [.imm (.tup [.str "a"]), .imm (.tup [])] = .ok (.imm (.tup [])) [.non, .non] := by kernel_rfl
theorem e_plain_g (k : Nat) : Tb (k + 9) 30 [.imm (.tup [.str "a", .str "b"]), .imm (.tup [])] = .ok (.imm (.tup [])) [.non, .non] := by kernel_rfl
theorem e_plain_h (k : Nat) : Tb (k + 9) 30 [.imm (.tup [.str "x"]), .imm (.tup [.tup [.str "return", .str "x"]])] = .ok (.imm (.tup [.tup [.str "return", .str "x"]])) [.non, .non] := by kernel_rfl
theorem e_places_e (k : Nat) : Tb (k + 9) 35 [.imm (.tup [])] = .ok (.imm (.tup [])) [.non] := by kernel_rfl
theorem e_places_h (k : Nat) : Tb (k + 9) 35 [.imm (.tup [.tup [.str "return", .str "x"]])] = .ok (.imm (.tup [.tup [.tup [.str "return", .str "x"], .int 1, .tup [], .int (-1)]])) [.non] := by kernel_rfl
theorem e_methods_fit (k : Nat) {cs : Cs} (h : WF cs) : Tb (k + 2) 24 [.imm (csD cs), .imm (.dct fnK)] = .ok (.imm (.bl true)) [.non, .non] := by
  refine fn_e (tb_methods_fit k) (ds := [csD cs, .dct fnK]) rfl ?_
  unfold b_methods_fit
  simp? [List.append_nil, List.replicate, csD, List.map_map]
  refine run_forM (fun pre ρ => ∃ x y, ρ = [.imm (csD cs), .imm (.dct fnK), x, y]) ⟨_, _, rfl⟩ (fun pre p post ρ e i => ?_) (fun ρ i => ?_)
  · obtain ⟨x, y, rfl⟩ := i
    have hp : p ∈ cs := by rw [e]; simp
    have hr := h.row p hp
    simp? [Function.comp, Cl.d, sIx, List.map_map]
    refine run_forM (fun pre ρ => ∃ y, ρ = [.imm (csD cs), .imm (.dct fnK), .imm p.2.d, y]) ⟨_, rfl⟩ (fun pre q post ρ e i => ?_) (fun ρ i => ?_)
    · obtain ⟨y, rfl⟩ := i
      have hq : q ∈ p.2.ms := by rw [e]; simp
      rcases (hr.ms q hq).2 with e | e | e
      · simp? [Function.comp, e, fn_f, Option.isSome_some, fnF]
        exact ⟨_, rfl⟩
      · simp? [Function.comp, e, fn_g, Option.isSome_some, fnG]
        exact ⟨_, rfl⟩
      · simp? [Function.comp, e, fn_h, Option.isSome_some, fnH]
        exact ⟨_, rfl⟩
    · obtain ⟨y, rfl⟩ := i
      simp? [Cl.d]
      exact ⟨_, _, rfl⟩
  · obtain ⟨x, y, rfl⟩ := i
    simp? []
theorem e_check_program (k : Nat) {cs : Cs} (h : WF cs) : Tb (k + 10) 25 [.imm (.dct []), .imm (csD cs), .imm (.dct fnK)] = .ok (.imm .non) [.non, .non, .non] := by
  refine fn_e (tb_check_program (k + 8)) (ds := [.dct [], csD cs, .dct fnK]) rfl ?_
  unfold b_check_program
  simp? [List.append_nil, List.replicate, e_is_shared0 (k + 4), e_is_classes (k + 4) h, e_is_functions (k + 4), e_methods_fit (k + 7) h, fn_sorted, rl_consD, rl_nilD, fn_f, fn_g, fn_h, fnF, fnG, fnH, e_block_e k, e_block_h k]
theorem e_copied_classes (k : Nat) {cs : Cs} (h : WF cs) : Tb (k + 2) 36 [.imm (csD cs)] = .ok (.imm (csD cs)) [.non] := by
  refine fn_e (tb_copied_classes k) (ds := [csD cs]) rfl ?_
  unfold b_copied_classes
  simp? [List.append_nil, List.replicate, csD, List.map_map]
  refine ⟨by rfl, run_dcompI (fun pre acc ρ => ρ = [.imm (csD cs), .non, .non] ∧ acc = kD Cl.d pre) ⟨rfl, rfl⟩ (fun pre p post acc ρ e i => ?_) (fun acc ρ i => ?_)⟩
  · obtain ⟨rfl, rfl⟩ := i
    have := h.len
    have hn : p.1 ∉ pre.map (·.1) := by
      have nd := h.nd
      rw [e, List.map_append, List.map_cons] at nd
      intro hm
      exact (List.nodup_append.mp nd).2.2 _ hm _ List.mem_cons_self rfl
    have hl : pre.length ≤ 1000000 := by
      have : cs.length = pre.length + (post.length + 1) := by rw [e]; simp
      omega
    refine ⟨by simpa using hl, ?_⟩
    simp? [Function.comp, keyV, Cl.d, wipeR]
    have e2 : D.tup [optD p.2.par, .int p.2.lev, .tup (p.2.own.map .str), .dct (kD .str p.2.ms)] = p.2.d := rfl
    rw [e2, putD_kD, pt_new hn]
  · obtain ⟨rfl, rfl⟩ := i
    simp? [backR, wipeR]
end WK
end

section
set_option Elab.async false
set_option linter.all false
set_option maxRecDepth 100000
set_option maxHeartbeats 4000000
open PySem L2 EE
-- W begin
local macro_rules | `(tactic| simp? [$ls,*]) => `(tactic| simp only [
    ↓run_pure, ↓run_bind, ↓run_of, ↓run_bad, ↓run_ite, ↓run_var, ↓run_take, ↓run_pk, ↓run_isL, ↓run_isDc, ↓run_mLst, ↓run_store, ↓run_meth, ↓run_putK, ↓run_frz, ↓run_put, ↓run_seq, ↓run_if, ↓run_ifE, ↓run_nx, 
    ↓run_then, ↓run_drop, ↓run_ret, ↓run_retO, ↓run_set, ↓run_setO, ↓run_asg, ↓ru_tup, ↓runU_stop, ↓run_tst, ↓run_notB, ↓run_and, ↓run_or, ↓run_andV, ↓run_orV, ↓run_notV, ↓run_ch, ↓run_m2, ↓run_m1, ↓run_mN, 
    ↓run_oLst, ↓run_ixO, ↓run_fz, ↓run_fzO, ↓run_disp, ↓run_aug, ↓ru_for, ↓run_raise1, ↓ru_call, ↓run_ag, ↓callP_v1, ↓callP_v2, ↓callP_v3, ↓callP_v4, ↓callP_o0, ↓callP_o1, ↓callP_o2, ↓callP_o3, ↓callP_1o, 
    ↓callP_3o, ↓run_comp, ↓run_oComp, ↓run_compD, ↓run_dcompD, ↓run_forD, ↓run_fldI, ↓run_putF, ↓run_self, ↓stop_forM, ↓stop_while, ↓stop_compM, ↓stop_dcompM, ↓stop_make, ↓stop_try, ↓stop_xf, ↓stop_potNew, 
    ↓onR_stop, ↓onS_stop, ↓onI_stop, ↓onT_stop, ↓onA_stop, ↓onL_stop, ↓onK_stop, ↓onB_stop, ↓onO_stop, ↓onN_stop, ↓onF_nx, ↓onF_rt, ↓onF_bk, ↓onF_ct, ↓onLp_nx, ↓onLp_ct, ↓onLp_bk, ↓onLp_rt, ↓retP_rt, ↓retP_nx, 
    ↓pt0, ↓pt1, ↓pt2, ↓pt3, ↓pt4, ↓pt5, ↓pt6, ↓pt7, ↓pt8, ↓pt9, ↓pt10, ↓pt11, ↓pt12, ↓pt13, ↓pt14, ↓pt15, ↓pt16, ↓pt17, ↓at0, ↓at1, ↓at2, ↓at3, ↓at4, ↓at5, ↓at6, ↓at7, ↓at8, ↓at9, ↓at10, ↓at11, ↓at12, ↓at13, 
    ↓at14, ↓at15, ↓at16, ↓at17, ↓st0, ↓st1, ↓st2, ↓st3, ↓st4, ↓st5, ↓st6, ↓st7, ↓st8, ↓st9, ↓st10, ↓st11, ↓st12, ↓st13, ↓st14, ↓st15, ↓st16, ↓st17, ↓sv0, ↓sv1, ↓sv2, ↓sv3, ↓sv4, ↓sv5, ↓sv6, ↓sv7, ↓sv8, ↓sv9, 
    ↓sv10, ↓sv11, ↓sv12, ↓sv13, ↓sv14, ↓sv15, ↓sv16, ↓sv17, onRD_ok, onRD_exc, onSD_some, onID_imm, onTD_imm, onTD_lst, onTD_dct, onTD_pot, onTD_obj, onAD_some, onLD_lst, onKD_dct, onBD_true, onBD_false, onBD_not, 
    onOD_obj, onND_lst, onND_dct, onND_pot, onND_obj, runUD_bind, runUD_pure, isBl_bl, frzD_imm, frzD_lst, frzD_dct, frzS_imm, frzS_lst, frzS_dct, frzO_obj, frzO_imm, fvS_imm, fvS_lst, fvS_dct, pkD_imm, pkD_lst, 
    pkD_dct, bind_some', itD_lst, itD_tup, itD_str, enD_lst, enD_tup, revD_lst, starD_tup, starD_lst, seqD_tup, seqD_lst, keyD_str, keyD_int, wkD_keys, wkD_vals, wkD_items, fTupOf_lst, fTupOf_tup, fDctOf_dct, 
    fListAll_lst, fListAll_tup, fLen_tup, fLen_lst, fLen_dct, fAbs_int, fInt_int, fLt_int, fLe_int, fGt_int, fGe_int, fSub_int, fAdd_int, fAddN_int, fNeg_int, fPop0_ok, isN_non, notN_non, isN_bl, notN_bl, 
    isN_int, notN_int, isN_str, notN_str, isN_tup, notN_tup, isN_lst, notN_lst, isN_dct, notN_dct, isN_ins, notN_ins, isi_int_non, isi_int_bl, isi_int_int, isi_int_str, isi_int_tup, isi_int_lst, isi_int_dct, 
    isi_bool_non, isi_bool_bl, isi_bool_int, isi_bool_str, isi_bool_tup, isi_bool_lst, isi_bool_dct, isi_str_non, isi_str_bl, isi_str_int, isi_str_str, isi_str_tup, isi_str_lst, isi_str_dct, isi_tuple_non, 
    isi_tuple_bl, isi_tuple_int, isi_tuple_str, isi_tuple_tup, isi_tuple_lst, isi_tuple_dct, isi_list_non, isi_list_bl, isi_list_int, isi_list_str, isi_list_tup, isi_list_lst, isi_list_dct, isi_dict_non, isi_dict_bl, 
    isi_dict_int, isi_dict_str, isi_dict_tup, isi_dict_lst, isi_dict_dct, fIx_tup, fIx_lst, fIx_dctS, fIx_dctI, fIy_tup, fIy_lst, fIy_dctS, fGet_S, isDD_dct, ix0, ix1, ix2, ix3, ix4, ix5, ix6, ix7, eqX_non, 
    eqX_int, neX_int, inDct_S, ninDct_S, inTb_f, inTb_t, ixTb_s, in_tupS, nin_tupS, in_lstS, nin_lstS, fAll_map, fAny_map, sIx, ks_nil, ks_non, ks_imm, ks_lst, ks_dct, ks_pot, ks_obj, fTup_ok, fLst_ok, okSz_of, 
    fApp_ok, fIns0_ok, fExt_lst, fExt_tup, List.map_cons, List.map_nil, List.length_cons, List.length_nil, List.length_map, List.nil_append, List.cons_append, List.getElem?_cons_zero, Option.getD_some, Nat.reduceAdd, 
    Nat.reduceLeDiff, Nat.reduceLT, Nat.reduceEqDiff, Nat.zero_le, ↓reduceIte, if_true, if_false, true_and, and_true, and_self, Bool.not_true, Bool.not_false, Bool.and_self, Bool.true_and, decide_true, decide_false, 
    cast0, cast1, Int.cast_ofNat_Int, eq_self, Int.reduceEq, Int.reduceLT, Int.reduceLE, Int.reduceAdd, Int.reduceNeg, Int.reduceSub, $ls,*])
-- W end
/-! P7: Program(..) -/
namespace WK
open PySem L2 EE
theorem fo_e {F : Fn} {n m : Nat} {P : List Nat} {mb : M Fl} {as as' : List Slot} {r : Slot} (e : F = runDef n m P mb) (hl : as.length = n) (ho : ownIn P as = true) (h : run mb (as ++ List.replicate m .non) (fun fl ρ => retP fl fun r' => r' = r ∧ keepS as ρ = as') NoW) : F as = .ok r as' := by
  rw [e]
  have := onR_def (P := P) (Q := fun r' a => r' = r ∧ a = as') (W := NoW) hl ho h
  unfold onR at this
  cases hm : runDef n m P mb as with
  | bad => rw [hm] at this; exact this.elim
  | exc _ _ => rw [hm] at this; exact this.elim
  | ok a b => rw [hm] at this; rw [this.1, this.2]
open Classical in
noncomputable def lineF (cs : Cs) (n : Str) : List Str := if h : ∃ l, Line cs (some n) l then Classical.choose h else []
theorem lineF_eq {cs : Cs} {n : Str} {l : List Str} (h : Line cs (some n) l) : lineF cs n = l := by
  unfold lineF
  have hh : ∃ l, Line cs (some n) l := ⟨l, h⟩
  rw [dif_pos hh]
  exact (Classical.choose_spec hh).uniq h
abbrev tupS (xs : List Str) : D := .tup (xs.map .str)
abbrev dctS (xs : List (Str × Str)) : D := .dct (kD .str xs)
noncomputable def afX (cs pre : Cs) : List (L2.Key × D) := kD tupS (pre.map fun p => (p.1, fieldsL cs (lineF cs p.1).reverse))
noncomputable def amX (cs pre : Cs) : List (L2.Key × D) := kD dctS (pre.map fun p => (p.1, methodsL cs (lineF cs p.1).reverse))
def PF (cs : Cs) (X Y : List (L2.Key × D)) : List (Str × Fv) := [("shared_words", .imm (.dct [])), ("shared_names", .imm (.tup [])), ("class_rows", .imm (csD cs)), ("function_rows", .imm (.dct fnK)), ("all_fields", .dct X), ("all_methods", .dct Y)]
def PG (cs : Cs) (X Y U V : List (L2.Key × D)) : List (Str × Fv) := [("shared_words", .imm (.dct [])), ("shared_names", .imm (.tup [])), ("class_rows", .imm (csD cs)), ("function_rows", .imm (.dct fnK)), ("all_fields", .dct X), ("all_methods", .dct Y), ("plain_blocks", .dct U), ("place_rows", .dct V)]
theorem PF1 {cs : Cs} {X Y : List (L2.Key × D)} : dctF (PF cs X Y) "all_fields" = some X := by kernel_rfl
theorem PF2 {cs : Cs} {X Y : List (L2.Key × D)} : dctF (PF cs X Y) "all_methods" = some Y := by kernel_rfl
theorem PF3 {cs : Cs} {X Y Z : List (L2.Key × D)} : setF "all_fields" (.dct Z) (PF cs X Y) = PF cs Z Y := by kernel_rfl
theorem PF4 {cs : Cs} {X Y Z : List (L2.Key × D)} : setF "all_methods" (.dct Z) (PF cs X Y) = PF cs X Z := by kernel_rfl
theorem PG1 {cs : Cs} {X Y U V : List (L2.Key × D)} : dctF (PG cs X Y U V) "plain_blocks" = some U := by kernel_rfl
theorem PG2 {cs : Cs} {X Y U V : List (L2.Key × D)} : dctF (PG cs X Y U V) "place_rows" = some V := by kernel_rfl
theorem PG3 {cs : Cs} {X Y U V Z : List (L2.Key × D)} : setF "plain_blocks" (.dct Z) (PG cs X Y U V) = PG cs X Y Z V := by kernel_rfl
theorem PG4 {cs : Cs} {X Y U V Z : List (L2.Key × D)} : setF "place_rows" (.dct Z) (PG cs X Y U V) = PG cs X Y U Z := by kernel_rfl
theorem ma1 : (("all_fields" : Str) ∈ at_Program) = True := eq_true (by decide +kernel)
theorem ma2 : (("all_methods" : Str) ∈ at_Program) = True := eq_true (by decide +kernel)
theorem ma3 : (("plain_blocks" : Str) ∈ at_Program) = True := eq_true (by decide +kernel)
theorem ma4 : (("place_rows" : Str) ∈ at_Program) = True := eq_true (by decide +kernel)
theorem ma5 : (("shared_words" : Str) ∈ at_Program) = True := eq_true (by decide +kernel)
theorem ma6 : (("shared_names" : Str) ∈ at_Program) = True := eq_true (by decide +kernel)
theorem ma7 : (("class_rows" : Str) ∈ at_Program) = True := eq_true (by decide +kernel)
theorem ma8 : (("function_rows" : Str) ∈ at_Program) = True := eq_true (by decide +kernel)
def uP : List (L2.Key × D) := [(.inr "f", .tup []), (.inr "g", .tup []), (.inr "h", .tup [.tup [.str "return", .str "x"]])]
def vP : List (L2.Key × D) := [(.inr "f", .tup []), (.inr "g", .tup []), (.inr "h", .tup [.tup [.tup [.str "return", .str "x"], .int 1, .tup [], .int (-1)]])]
noncomputable def PO (cs : Cs) : List (Str × Fv) := PG cs (afX cs cs) (amX cs cs) uP vP
theorem pt_len {β : Type} {xs : List (Str × β)} {n : Str} {v : β} : (pt xs n v).length ≤ xs.length + 1 := by
  unfold pt
  split <;> simp
theorem ptf_len {c acc : List (Str × Str)} : (c.foldl (fun a p => pt a p.1 p.2) acc).length ≤ acc.length + c.length := by
  induction c generalizing acc with
  | nil => simp
  | cons p c ih =>
    rw [List.foldl_cons]
    have := ih (acc := pt acc p.1 p.2)
    have := pt_len (xs := acc) (n := p.1) (v := p.2)
    simp; omega
theorem ms_len {cs : Cs} (h : WF cs) (n : Str) : (msOf cs n).length ≤ 2 := by
  unfold msOf
  cases e : lk cs n with
  | none => simp
  | some c => exact (h.row (n, c) (lk_mem e)).msl
theorem methods_len {cs : Cs} (h : WF cs) (l : List Str) : (methodsL cs l).length ≤ 2 * l.length := by
  unfold methodsL
  suffices hh : ∀ (l : List Str) (acc : List (Str × Str)), (l.foldl (fun acc n => (msOf cs n).foldl (fun a p => pt a p.1 p.2) acc) acc).length ≤ acc.length + 2 * l.length by
    have := hh l []
    simpa using this
  intro l
  induction l with
  | nil => intro acc; simp
  | cons n l ih =>
    intro acc
    rw [List.foldl_cons]
    have := ih ((msOf cs n).foldl (fun a p => pt a p.1 p.2) acc)
    have := ptf_len (c := msOf cs n) (acc := acc)
    have := ms_len h n
    simp; omega
theorem e_fill (k : Nat) {cs : Cs} (h : WF cs) : Tb (k + 10) 50 [.obj "Program" [], .imm (.dct []), .imm (csD cs), .imm (.dct fnK)] = .ok (.imm .non) [.obj "Program" (PO cs), .non, .non, .non] := by
  refine fo_e (tb_Program_fill (k + 8)) rfl rfl ?_
  unfold b_Program_fill
  simp? [List.append_nil, List.replicate, fSorted_nil, e_copied_classes (k + 7) h, ma5, ma6, ma7, ma8, ma1, ma2, Nat.zero_add, Nat.reduceLT]
  refine ⟨rfl, by kernel_rfl, by kernel_rfl, by kernel_rfl, by kernel_rfl, by kernel_rfl, ?_⟩
  simp? [csD, List.map_map]
  refine run_forM (fun pre ρ => ∃ x y z, ρ = [.obj "Program" (PF cs (afX cs pre) (amX cs pre)), .imm (.dct []), .imm (csD cs), .imm (.dct fnK), x, y, z]) ⟨_, _, _, rfl⟩ (fun pre p post ρ e i => ?_) (fun ρ i => ?_)
  · obtain ⟨x, y, z, rfl⟩ := i
    have hp : p.1 ∈ cs.map (·.1) := by rw [e]; simp
    obtain ⟨l, hL, nd, f4, fn⟩ := h.line p.1 hp
    have hlen := h.len
    have hl6 : l.length ≤ 6 := by
      have := nodup_len l _ nd fun n hn => hL.mem n hn
      simp at this; omega
    have hl : cs.length = pre.length + (post.length + 1) := by rw [e]; simp
    have hn : p.1 ∉ pre.map (·.1) := by
      have nd := h.nd
      rw [e, List.map_append, List.map_cons] at nd
      intro hm
      exact (List.nodup_append.mp nd).2.2 _ hm _ List.mem_cons_self rfl
    have hmem : ∀ n ∈ l.reverse, n ∈ cs.map (·.1) := fun n hn => hL.mem n (by simpa using hn)
    have hm1 : ∀ a b, l.reverse = a ++ b → (methodsL cs a).length ≤ 1000 := fun a b e => by
      have := methods_len h a
      have : l.reverse.length = a.length + b.length := by rw [e]; simp
      simp at this; omega
    have hm2 : ∀ a n b c d, l.reverse = a ++ n :: b → msOf cs n = c ++ d → (c.foldl (fun a p => pt a p.1 p.2) (methodsL cs a)).length ≤ 1000 := fun a n b c d e e2 => by
      have := methods_len h a
      have : l.reverse.length = a.length + (b.length + 1) := by rw [e]; simp
      have := ms_len h n
      rw [e2] at this
      have := ptf_len (c := c) (acc := methodsL cs a)
      simp at *; omega
    have la : (afX cs pre).length ≤ 1000000 := by unfold afX; simp; omega
    have lb : (amX cs pre).length ≤ 1000000 := by unfold amX; simp; omega
    simp? [Function.comp, keyV, e_class_lineS (k + 7) hL nd (by omega), e_fields_by_line (k + 7) (cs := cs) (l := l.reverse) hmem (by omega), e_methods_by_line (k + 7) (cs := cs) (l := l.reverse) hmem hm1 hm2, ma1, ma2, PF1, PF2, PF3, PF4, la, lb]
    have q1 : putD (afX cs pre) (Sum.inr p.1) (.tup ((fieldsL cs l.reverse).map .str)) = afX cs (pre ++ [p]) := by
      unfold afX
      have := putD_kD (g := tupS) (xs := pre.map fun p => (p.1, fieldsL cs (lineF cs p.1).reverse)) (n := p.1) (v := fieldsL cs l.reverse)
      rw [this, pt_new (by rw [List.map_map]; exact hn)]
      rw [List.map_append, List.map_cons, List.map_nil, lineF_eq hL]
    have q2 : putD (amX cs pre) (Sum.inr p.1) (.dct (kD .str (methodsL cs l.reverse))) = amX cs (pre ++ [p]) := by
      unfold amX
      have := putD_kD (g := dctS) (xs := pre.map fun p => (p.1, methodsL cs (lineF cs p.1).reverse)) (n := p.1) (v := methodsL cs l.reverse)
      rw [this, pt_new (by rw [List.map_map]; exact hn)]
      rw [List.map_append, List.map_cons, List.map_nil, lineF_eq hL]
    rw [q1, q2]
    exact ⟨_, _, _, rfl⟩
  · obtain ⟨x, y, z, rfl⟩ := i
    simp? [ma3, ma4]
    refine ⟨⟨by kernel_rfl, by simp [PF]⟩, ⟨by kernel_rfl, by simp [PF]⟩, ?_⟩
    have e : PF cs (afX cs cs) (amX cs cs) ++ [(("plain_blocks" : Str), Fv.dct [])] ++ [(("place_rows" : Str), Fv.dct [])] = PG cs (afX cs cs) (amX cs cs) [] [] := rfl
    rw [e]
    simp? [fn_sorted, rl_consD, rl_nilD, fn_f, fn_g, fn_h, fnF, fnG, fnH, e_plain_f k, e_plain_g k, e_plain_h k, e_places_e k, e_places_h k, ma3, ma4, PG1, PG2, PG3, PG4]
    refine ⟨by decide +kernel, by decide +kernel, by decide +kernel, by decide +kernel, ?_⟩
    unfold PO
    kernel_rfl
theorem e_init (k : Nat) {cs : Cs} (h : WF cs) : Tb (k + 12) 49 [.obj "Program" [], .imm (.dct []), .imm (csD cs), .imm (.dct fnK)] = .ok (.imm .non) [.obj "Program" (PO cs), .non, .non, .non] := by
  refine fo_e (tb_Program_init_ (k + 10)) rfl rfl ?_
  unfold b_Program_init_
  simp? [List.append_nil, List.replicate, e_check_program (k + 1) h, e_fill (k + 1) h, List.lookup_nil, keepS, plainS]
  rfl
noncomputable def PD (cs : Cs) : D := .ins "Program" ((PO cs).map fun p => (p.1, frzV p.2))
theorem run_mk (k : Nat) {cs : Cs} (h : WF cs) {ms : M (List Ag)} {ρ ρ1 : List Slot} {Q : Slot → List Slot → Prop} {W : Exn → List Slot → Prop} (hm : ms ρ = .ok [.v (.dct []), .v (csD cs), .v (.dct fnK)] ρ1) (q : Q (.obj "Program" (PO cs)) ρ1) : run (mMake "Program" 4 (Tb (k + 12) 49) ms) ρ Q W := by
  refine run_make ?_
  unfold EE.run
  rw [hm]
  show callP 4 _ [.o 0, .v (.dct []), .v (csD cs), .v (.dct fnK)] _ _ _
  simp? [e_init k h]
  exact ⟨_, _, rfl, q⟩
theorem fld_cr {cs : Cs} : fFld "Program" at_Program "class_rows" (PD cs) = some (csD cs) := by unfold PD PO; kernel_rfl
theorem fld_af {cs : Cs} : fFld "Program" at_Program "all_fields" (PD cs) = some (.dct (afX cs cs)) := by unfold PD PO; kernel_rfl
theorem fld_am {cs : Cs} : fFld "Program" at_Program "all_methods" (PD cs) = some (.dct (amX cs cs)) := by unfold PD PO; kernel_rfl
/-- what is a name of one of the classes -/
def clsB (cs : Cs) : D → Bool
  | .str s => decide (s ∈ cs.map (·.1))
  | _ => false
theorem e_fields_of (k : Nat) {cs : Cs} (h : WF cs) {n : Str} {l : List Str} (hL : Line cs (some n) l) (hn : n ∈ cs.map (·.1)) : Tb (k + 3) 37 [.imm (PD cs), .imm (.str n)] = .ok (.imm (tupS (fieldsL cs l.reverse))) [.non, .non] := by
  refine fn_e (tb_fields_of (k + 1)) (ds := [PD cs, .str n]) rfl ?_
  obtain ⟨p, hp, e⟩ := List.mem_map.mp hn
  have n1 := (h.nm p hp).1
  rw [e] at n1
  unfold b_fields_of
  have e1 : (lk cs n).isSome = true := by rw [lk_isSome]; simpa using hn
  have e2 : valD (afX cs cs) (.inr n) = some (tupS (fieldsL cs l.reverse)) := by
    unfold afX
    rw [valD_kD]
    have := lk_of_mem (xs := cs.map fun p => (p.1, fieldsL cs (lineF cs p.1).reverse)) (n := n) (v := fieldsL cs l.reverse) (by rw [List.map_map]; exact h.nd) (List.mem_map.mpr ⟨p, hp, by rw [← e]; rw [← e] at hL; rw [lineF_eq hL]⟩)
    rw [this]
    rfl
  simp? [List.append_nil, List.replicate, e_is_name (k := k) (d := .str n) rfl (fun s' e => by cases e; have := nameB_len n1; omega), nameD, n1, fld_cr, csD, valD_kD, Option.isSome_map, e1, fld_af, e2]
theorem no_name (k : Nat) {cs : Cs} {d : D} (h : WF cs) (hi : insD d = false) (hz : ∀ s, d = .str s → s.length ≤ 1000000) (hc : clsB cs d = false) : nameD d = true → ∃ s, d = .str s ∧ (lk cs s).isSome = false := by
  intro hn
  cases d with
  | str s =>
    refine ⟨s, rfl, ?_⟩
    rw [lk_isSome]
    exact hc
  | _ => cases hn
theorem x_fields_of (k : Nat) {cs : Cs} (h : WF cs) {d : D} (hi : insD d = false) (hz : ∀ s, d = .str s → s.length ≤ 1000000) (hc : clsB cs d = false) : Tb (k + 3) 37 [.imm (PD cs), .imm d] = .exc ⟨"NoName", [("name", d)]⟩ [.non, .non] := by
  refine fx_e (tb_fields_of (k + 1)) (ds := [PD cs, d]) rfl ?_
  unfold b_fields_of
  simp? [List.append_nil, List.replicate, e_is_name (k := k) hi hz]
  refine onB_i (fun h1 => ?_) (fun h1 => rfl)
  obtain ⟨s, rfl, h2⟩ := no_name k h hi hz hc h1
  simp? [fld_cr, csD, valD_kD, Option.isSome_map, h2]
theorem x_method_of (k : Nat) {cs : Cs} (h : WF cs) {d e : D} (hi : insD d = false) (hz : ∀ s, d = .str s → s.length ≤ 1000000) (hc : clsB cs d = false) : Tb (k + 3) 38 [.imm (PD cs), .imm d, .imm e] = .exc ⟨"NoName", [("name", d)]⟩ [.non, .non, .non] := by
  refine fx_e (tb_method_of (k + 1)) (ds := [PD cs, d, e]) rfl ?_
  unfold b_method_of
  simp? [List.append_nil, List.replicate, e_is_name (k := k) hi hz]
  refine onB_i (fun h1 => ?_) (fun h1 => rfl)
  obtain ⟨s, rfl, h2⟩ := no_name k h hi hz hc h1
  simp? [fld_cr, csD, valD_kD, Option.isSome_map, h2]
theorem e_method_of (k : Nat) {cs : Cs} (h : WF cs) {n m : Str} {l : List Str} (hL : Line cs (some n) l) (hn : n ∈ cs.map (·.1)) (hm : nameB m = true) : Tb (k + 3) 38 [.imm (PD cs), .imm (.str n), .imm (.str m)] = .ok (.imm (optD (lk (methodsL cs l.reverse) m))) [.non, .non, .non] := by
  refine fn_e (tb_method_of (k + 1)) (ds := [PD cs, .str n, .str m]) rfl ?_
  obtain ⟨p, hp, e⟩ := List.mem_map.mp hn
  have n1 := (h.nm p hp).1
  rw [e] at n1
  unfold b_method_of
  have e1 : (lk cs n).isSome = true := by rw [lk_isSome]; simpa using hn
  have e2 : valD (amX cs cs) (.inr n) = some (dctS (methodsL cs l.reverse)) := by
    unfold amX
    rw [valD_kD]
    have := lk_of_mem (xs := cs.map fun p => (p.1, methodsL cs (lineF cs p.1).reverse)) (n := n) (v := methodsL cs l.reverse) (by rw [List.map_map]; exact h.nd) (List.mem_map.mpr ⟨p, hp, by rw [← e]; rw [← e] at hL; rw [lineF_eq hL]⟩)
    rw [this]
    rfl
  simp? [List.append_nil, List.replicate, e_is_name (k := k) (d := .str n) rfl (fun s' e => by cases e; have := nameB_len n1; omega), e_is_name (k := k) (d := .str m) rfl (fun s' e => by cases e; have := nameB_len hm; omega), nameD, n1, hm, fld_cr, csD, valD_kD, Option.isSome_map, e1, fld_am, e2]
  cases lk (methodsL cs l.reverse) m <;> rfl
end WK
end

section
set_option Elab.async false
set_option linter.all false
set_option maxRecDepth 100000
set_option maxHeartbeats 4000000
open PySem L2 EE
-- W begin
local macro_rules | `(tactic| simp? [$ls,*]) => `(tactic| simp only [
    ↓run_pure, ↓run_bind, ↓run_of, ↓run_bad, ↓run_ite, ↓run_var, ↓run_take, ↓run_pk, ↓run_isL, ↓run_isDc, ↓run_mLst, ↓run_store, ↓run_meth, ↓run_putK, ↓run_frz, ↓run_put, ↓run_seq, ↓run_if, ↓run_ifE, ↓run_nx, 
    ↓run_then, ↓run_drop, ↓run_ret, ↓run_retO, ↓run_set, ↓run_setO, ↓run_asg, ↓ru_tup, ↓runU_stop, ↓run_tst, ↓run_notB, ↓run_and, ↓run_or, ↓run_andV, ↓run_orV, ↓run_notV, ↓run_ch, ↓run_m2, ↓run_m1, ↓run_mN, 
    ↓run_oLst, ↓run_ixO, ↓run_fz, ↓run_fzO, ↓run_disp, ↓run_aug, ↓ru_for, ↓run_raise1, ↓ru_call, ↓run_ag, ↓callP_v1, ↓callP_v2, ↓callP_v3, ↓callP_v4, ↓callP_o0, ↓callP_o1, ↓callP_o2, ↓callP_o3, ↓callP_1o, 
    ↓callP_3o, ↓run_comp, ↓run_oComp, ↓run_compD, ↓run_dcompD, ↓run_forD, ↓run_fldI, ↓run_putF, ↓run_self, ↓stop_forM, ↓stop_while, ↓stop_compM, ↓stop_dcompM, ↓stop_make, ↓stop_try, ↓stop_xf, ↓stop_potNew, 
    ↓onR_stop, ↓onS_stop, ↓onI_stop, ↓onT_stop, ↓onA_stop, ↓onL_stop, ↓onK_stop, ↓onB_stop, ↓onO_stop, ↓onN_stop, ↓onF_nx, ↓onF_rt, ↓onF_bk, ↓onF_ct, ↓onLp_nx, ↓onLp_ct, ↓onLp_bk, ↓onLp_rt, ↓retP_rt, ↓retP_nx, 
    ↓pt0, ↓pt1, ↓pt2, ↓pt3, ↓pt4, ↓pt5, ↓pt6, ↓pt7, ↓pt8, ↓pt9, ↓pt10, ↓pt11, ↓pt12, ↓pt13, ↓pt14, ↓pt15, ↓pt16, ↓pt17, ↓at0, ↓at1, ↓at2, ↓at3, ↓at4, ↓at5, ↓at6, ↓at7, ↓at8, ↓at9, ↓at10, ↓at11, ↓at12, ↓at13, 
    ↓at14, ↓at15, ↓at16, ↓at17, ↓st0, ↓st1, ↓st2, ↓st3, ↓st4, ↓st5, ↓st6, ↓st7, ↓st8, ↓st9, ↓st10, ↓st11, ↓st12, ↓st13, ↓st14, ↓st15, ↓st16, ↓st17, ↓sv0, ↓sv1, ↓sv2, ↓sv3, ↓sv4, ↓sv5, ↓sv6, ↓sv7, ↓sv8, ↓sv9, 
    ↓sv10, ↓sv11, ↓sv12, ↓sv13, ↓sv14, ↓sv15, ↓sv16, ↓sv17, onRD_ok, onRD_exc, onSD_some, onID_imm, onTD_imm, onTD_lst, onTD_dct, onTD_pot, onTD_obj, onAD_some, onLD_lst, onKD_dct, onBD_true, onBD_false, onBD_not, 
    onOD_obj, onND_lst, onND_dct, onND_pot, onND_obj, runUD_bind, runUD_pure, isBl_bl, frzD_imm, frzD_lst, frzD_dct, frzS_imm, frzS_lst, frzS_dct, frzO_obj, frzO_imm, fvS_imm, fvS_lst, fvS_dct, pkD_imm, pkD_lst, 
    pkD_dct, bind_some', itD_lst, itD_tup, itD_str, enD_lst, enD_tup, revD_lst, starD_tup, starD_lst, seqD_tup, seqD_lst, keyD_str, keyD_int, wkD_keys, wkD_vals, wkD_items, fTupOf_lst, fTupOf_tup, fDctOf_dct, 
    fListAll_lst, fListAll_tup, fLen_tup, fLen_lst, fLen_dct, fAbs_int, fInt_int, fLt_int, fLe_int, fGt_int, fGe_int, fSub_int, fAdd_int, fAddN_int, fNeg_int, fPop0_ok, isN_non, notN_non, isN_bl, notN_bl, 
    isN_int, notN_int, isN_str, notN_str, isN_tup, notN_tup, isN_lst, notN_lst, isN_dct, notN_dct, isN_ins, notN_ins, isi_int_non, isi_int_bl, isi_int_int, isi_int_str, isi_int_tup, isi_int_lst, isi_int_dct, 
    isi_bool_non, isi_bool_bl, isi_bool_int, isi_bool_str, isi_bool_tup, isi_bool_lst, isi_bool_dct, isi_str_non, isi_str_bl, isi_str_int, isi_str_str, isi_str_tup, isi_str_lst, isi_str_dct, isi_tuple_non, 
    isi_tuple_bl, isi_tuple_int, isi_tuple_str, isi_tuple_tup, isi_tuple_lst, isi_tuple_dct, isi_list_non, isi_list_bl, isi_list_int, isi_list_str, isi_list_tup, isi_list_lst, isi_list_dct, isi_dict_non, isi_dict_bl, 
    isi_dict_int, isi_dict_str, isi_dict_tup, isi_dict_lst, isi_dict_dct, fIx_tup, fIx_lst, fIx_dctS, fIx_dctI, fIy_tup, fIy_lst, fIy_dctS, fGet_S, isDD_dct, ix0, ix1, ix2, ix3, ix4, ix5, ix6, ix7, eqX_non, 
    eqX_int, neX_int, inDct_S, ninDct_S, inTb_f, inTb_t, ixTb_s, in_tupS, nin_tupS, in_lstS, nin_lstS, fAll_map, fAny_map, sIx, ks_nil, ks_non, ks_imm, ks_lst, ks_dct, ks_pot, ks_obj, fTup_ok, fLst_ok, okSz_of, 
    fApp_ok, fIns0_ok, fExt_lst, fExt_tup, List.map_cons, List.map_nil, List.length_cons, List.length_nil, List.length_map, List.nil_append, List.cons_append, List.getElem?_cons_zero, Option.getD_some, Nat.reduceAdd, 
    Nat.reduceLeDiff, Nat.reduceLT, Nat.reduceEqDiff, Nat.zero_le, ↓reduceIte, if_true, if_false, true_and, and_true, and_self, Bool.not_true, Bool.not_false, Bool.and_self, Bool.true_and, decide_true, decide_false, 
    cast0, cast1, Int.cast_ofNat_Int, eq_self, Int.reduceEq, Int.reduceLT, Int.reduceLE, Int.reduceAdd, Int.reduceNeg, Int.reduceSub, $ls,*])
-- W end
/-! P8: the law's pot, names -/
namespace WK
open PySem L2 EE
theorem fPow18 : fPow (.int 10) (.int 18) = some (.int 1000000000000000000) := by kernel_rfl
theorem fMul_ok {i j : Int} (h : -(2 ^ 64) < j ∧ j < 2 ^ 64) : fMul (.int i) (.int j) = some (.int (i * j)) := by
  show (if cMul i j = true then _ else _) = _
  rw [if_pos]
  unfold cMul
  exact decide_eq_true (.inr h)
theorem fMod_ok {i j : Int} (h : 0 < j) : fMod (.int i) (.int j) = some (.int (i % j)) := by
  show (if cMod i j = true then _ else _) = _
  exact if_pos (decide_eq_true h)
theorem intsD_map : ∀ ns : List Int, intsD (ns.map .int) = some ns
  | [] => rfl
  | n :: ns => by
    rw [List.map_cons]
    unfold intsD
    rw [intsD_map ns]
    rfl
theorem run_potNew {ρ : List Slot} {Q : Slot → List Slot → Prop} {W : Exn → List Slot → Prop} {i j k : Nat} {gs : List Int} {s m : Int} (h1 : ρ[i]? = some (.lst (gs.map .int))) (h2 : ρ[j]? = some (.imm (.int s))) (h3 : ρ[k]? = some (.imm (.int m))) (q : Q (.pot gs s 0 m) (ρ.set i .non)) : run (mPotNew i j k) ρ Q W := by
  unfold EE.run mPotNew
  rw [h1, h2, h3]
  show Res.post (match intsD (gs.map .int) with | some gs => _ | none => _) Q W
  rw [intsD_map]
  exact q
theorem s_pot (k : Nat) {ns : List Int} {m : Int} {Q : Slot → List Slot → Prop} {W : Exn → List Slot → Prop} (hl : ns.length ≤ 1000) (h : ∀ gs s, Q (.pot gs s 0 m) [.non, .non]) : onR (Tb (k + 2) 39 [.imm (.lst (ns.map .int)), .imm (.int m)]) Q W := by
  refine on_e (tb__law_pot k) rfl rfl ?_
  unfold b__law_pot
  simp? [List.append_nil, List.replicate]
  refine ⟨by rfl, run_compM (fun n => decide (1000000000000000000 ≤ if n < 0 then -n else n)) (fun n => D.int (if n < 0 then -n else n)) (fun n hn => ?_) ?_ (by omega)⟩
  · simp? [wipeR, fPow18]
    refine onB_i (fun h => ?_) (fun h => ?_)
    · simp? [wipeR]
    · simp? [wipeR]
  · simp? [wipeR, backR, List.append_nil, Option.getD_none]
    refine run_forM (fun pre ρ => ∃ gs x s, ρ = [.imm (.lst (ns.map .int)), .imm (.int m), .lst (gs.map D.int), x, .imm (.int s)]) ⟨(ns.filter fun n => decide (1000000000000000000 ≤ if n < 0 then -n else n)).map fun n => if n < 0 then -n else n, .non, 17, by rw [List.map_map]; rfl⟩ (fun pre n post ρ e i => ?_) (fun ρ i => ?_)
    · obtain ⟨gs, x, s, rfl⟩ := i
      simp? [fPow18]
      refine onB_i (fun h => ?_) (fun h => ?_)
      · simp? [fMul_ok (i := s) (j := 31) (by decide), fMul_ok (i := n) (j := 48271) (by decide), fMod_ok (show (0 : Int) < 2147483629 by decide)]
        exact ⟨_, _, _, rfl⟩
      · exact ⟨gs, .imm (.int n), s, rfl⟩
    · obtain ⟨gs, x, s, rfl⟩ := i
      simp? []
      refine run_potNew (gs := gs) (s := s) (m := m) rfl rfl rfl ?_
      simp? []
      exact h gs s
theorem s_take (k : Nat) {gs : List Int} {s c m n : Int} {Q : Slot → List Slot → Prop} {W : Exn → List Slot → Prop} (h0 : 0 < n) (h1 : n < 1073741824) (h : ∀ r gs' s' c', 0 ≤ r → r < n → Q (.imm (.int r)) [.pot gs' s' c' m, .non]) : onR (Tb (k + 2) 40 [.pot gs s c m, .imm (.int n)]) Q W := by
  rw [tb__law_take]
  unfold onR takeFn
  show Res.post (if 0 < n ∧ n < 1073741824 then _ else _) Q W
  rw [if_pos ⟨h0, h1⟩]
  cases gs with
  | nil => exact h _ _ _ _ (Int.emod_nonneg _ (by omega)) (Int.emod_lt_of_pos _ h0)
  | cons g gs => exact h _ _ _ _ (Int.emod_nonneg _ (by omega)) (Int.emod_lt_of_pos _ h0)
theorem atI_mem {α : Type} {xs : List α} {r : Int} (h0 : 0 ≤ r) (h1 : r < xs.length) : ∃ d ∈ xs, atI xs r = some d := by
  rw [atI_get h0]
  have : r.toNat < xs.length := by omega
  rw [List.getElem?_eq_getElem this]
  exact ⟨_, List.getElem_mem _, rfl⟩
theorem join_sg : ∀ cs : List Nat, Str.join "" (cs.map fun c => (⟨#[c]⟩ : Str)) = ⟨cs.toArray⟩
  | [] => rfl
  | [c] => rfl
  | c :: d :: cs => by
    rw [List.map_cons]
    have ih := join_sg (d :: cs)
    rw [List.map_cons] at ih ⊢
    show (⟨#[c]⟩ : Str) ++ ("" : Str) ++ Str.join "" _ = _
    rw [ih]
    show Str.append (Str.append ⟨#[c]⟩ ⟨#[]⟩) _ = _
    unfold Str.append
    simp
theorem fJoin_sg {cs : List Nat} (h : cs.length ≤ 1000) : fJoin (.str "") (.lst (cs.map fun c => D.str ⟨#[c]⟩)) = some (.str ⟨cs.toArray⟩) := by
  show joinS "" _ = _
  unfold joinS
  have e : (cs.map fun c => D.str ⟨#[c]⟩) = (cs.map fun c => (⟨#[c]⟩ : Str)).map D.str := by rw [List.map_map]; rfl
  rw [e, strsD_map]
  show (if _ then _ else _) = _
  have hs : ∀ cs : List Nat, ((cs.map fun c => (⟨#[c]⟩ : Str)).map (·.length)).sum = cs.length := by
    intro cs
    induction cs with
    | nil => rfl
    | cons c cs ih => simp only [List.map_cons, List.sum_cons, ih, List.length_cons]; simp [Str.length]; omega
  have hz : ("" : Str).length = 0 := by kernel_rfl
  rw [if_pos]
  · unfold Txt.join
    rw [StrLaws.glued_eq_join, join_sg]
  · rw [hs, hz]; simp; omega
theorem letters26 : ("abcdefghijklmnopqrstuvwxyz" : Str).cps.toList.length = 26 := by decide +kernel
theorem letter_at {z : Int} (h3 : 0 ≤ z) (h4 : z < 26) : ∃ x, fIx (.str "abcdefghijklmnopqrstuvwxyz") (.int z) = some (.str ⟨#[x]⟩) ∧ letterB x = true := by
  obtain ⟨x, hx, e⟩ := atI_mem (xs := ("abcdefghijklmnopqrstuvwxyz" : Str).cps.toList) h3 (by rw [letters26]; exact h4)
  refine ⟨x, ?_, decide_eq_true hx⟩
  have e3 : ("abcdefghijklmnopqrstuvwxyz" : Str).length ≤ 1000000 := by decide +kernel
  generalize ("abcdefghijklmnopqrstuvwxyz" : Str) = s at *
  show (none : Option D).or (none.or ((if s.length ≤ 1000000 then (atI s.cps.toList z).map fun c => D.str ⟨#[c]⟩ else none).or none)) = _
  rw [if_pos e3, e]
  rfl
theorem menu_at {r : Int} (h0 : 0 ≤ r) (h2 : r < 12) : ∃ x, atI [D.str "a", .str "b", .str "x", .str "y", .str "za", .str "zb", .str "none", .str "word", .str "row", .str "kept", .str "not", .str "last"] r = some (.str x) ∧ nameB x = true := by
  obtain ⟨d, hd, e⟩ := atI_mem (xs := [D.str "a", .str "b", .str "x", .str "y", .str "za", .str "zb", .str "none", .str "word", .str "row", .str "kept", .str "not", .str "last"]) h0 h2
  rw [e]
  have hn : ([D.str "a", .str "b", .str "x", .str "y", .str "za", .str "zb", .str "none", .str "word", .str "row", .str "kept", .str "not", .str "last"].all nameD) = true := by decide +kernel
  have hn := List.all_eq_true.mp hn d hd
  cases d with
  | str x => exact ⟨x, rfl, hn⟩
  | _ => cases hn
theorem size_at {r : Int} (h0 : 0 ≤ r) (h2 : r < 8) : ∃ n : Nat, atI [D.int 1, .int 3, .int 4, .int 5, .int 6, .int 7, .int 8, .int 8] r = some (.int n) ∧ 1 ≤ n ∧ n ≤ 8 := by
  obtain ⟨d, hd, e⟩ := atI_mem (xs := [D.int 1, .int 3, .int 4, .int 5, .int 6, .int 7, .int 8, .int 8]) h0 h2
  rw [e]
  have hn : ([D.int 1, .int 3, .int 4, .int 5, .int 6, .int 7, .int 8, .int 8].all fun d => inB d 1 8) = true := by decide +kernel
  have hn := List.all_eq_true.mp hn d hd
  cases d with
  | int z =>
    simp [inB] at hn
    refine ⟨z.toNat, ?_, by omega, by omega⟩
    rw [Int.toNat_of_nonneg (by omega)]
  | _ => cases hn
theorem nameB_of {cs : List Nat} (h1 : 1 ≤ cs.length) (h8 : cs.length ≤ 8) (hc : ∀ c ∈ cs, letterB c = true) : nameB ⟨cs.toArray⟩ = true := by
  unfold nameB
  have e1 : (⟨cs.toArray⟩ : Str).length = cs.length := by show cs.toArray.size = _; simp
  rw [e1]
  simp
  exact ⟨h1, h8, hc⟩
end WK
end

section
set_option Elab.async false
set_option linter.all false
set_option maxRecDepth 100000
set_option maxHeartbeats 4000000
open PySem L2 EE
-- W begin
local macro_rules | `(tactic| simp? [$ls,*]) => `(tactic| simp only [
    ↓run_pure, ↓run_bind, ↓run_of, ↓run_bad, ↓run_ite, ↓run_var, ↓run_take, ↓run_pk, ↓run_isL, ↓run_isDc, ↓run_mLst, ↓run_store, ↓run_meth, ↓run_putK, ↓run_frz, ↓run_put, ↓run_seq, ↓run_if, ↓run_ifE, ↓run_nx, 
    ↓run_then, ↓run_drop, ↓run_ret, ↓run_retO, ↓run_set, ↓run_setO, ↓run_asg, ↓ru_tup, ↓runU_stop, ↓run_tst, ↓run_notB, ↓run_and, ↓run_or, ↓run_andV, ↓run_orV, ↓run_notV, ↓run_ch, ↓run_m2, ↓run_m1, ↓run_mN, 
    ↓run_oLst, ↓run_ixO, ↓run_fz, ↓run_fzO, ↓run_disp, ↓run_aug, ↓ru_for, ↓run_raise1, ↓ru_call, ↓run_ag, ↓callP_v1, ↓callP_v2, ↓callP_v3, ↓callP_v4, ↓callP_o0, ↓callP_o1, ↓callP_o2, ↓callP_o3, ↓callP_1o, 
    ↓callP_3o, ↓run_comp, ↓run_oComp, ↓run_compD, ↓run_dcompD, ↓run_forD, ↓run_fldI, ↓run_putF, ↓run_self, ↓stop_forM, ↓stop_while, ↓stop_compM, ↓stop_dcompM, ↓stop_make, ↓stop_try, ↓stop_xf, ↓stop_potNew, 
    ↓onR_stop, ↓onS_stop, ↓onI_stop, ↓onT_stop, ↓onA_stop, ↓onL_stop, ↓onK_stop, ↓onB_stop, ↓onO_stop, ↓onN_stop, ↓onF_nx, ↓onF_rt, ↓onF_bk, ↓onF_ct, ↓onLp_nx, ↓onLp_ct, ↓onLp_bk, ↓onLp_rt, ↓retP_rt, ↓retP_nx, 
    ↓pt0, ↓pt1, ↓pt2, ↓pt3, ↓pt4, ↓pt5, ↓pt6, ↓pt7, ↓pt8, ↓pt9, ↓pt10, ↓pt11, ↓pt12, ↓pt13, ↓pt14, ↓pt15, ↓pt16, ↓pt17, ↓at0, ↓at1, ↓at2, ↓at3, ↓at4, ↓at5, ↓at6, ↓at7, ↓at8, ↓at9, ↓at10, ↓at11, ↓at12, ↓at13, 
    ↓at14, ↓at15, ↓at16, ↓at17, ↓st0, ↓st1, ↓st2, ↓st3, ↓st4, ↓st5, ↓st6, ↓st7, ↓st8, ↓st9, ↓st10, ↓st11, ↓st12, ↓st13, ↓st14, ↓st15, ↓st16, ↓st17, ↓sv0, ↓sv1, ↓sv2, ↓sv3, ↓sv4, ↓sv5, ↓sv6, ↓sv7, ↓sv8, ↓sv9, 
    ↓sv10, ↓sv11, ↓sv12, ↓sv13, ↓sv14, ↓sv15, ↓sv16, ↓sv17, onRD_ok, onRD_exc, onSD_some, onID_imm, onTD_imm, onTD_lst, onTD_dct, onTD_pot, onTD_obj, onAD_some, onLD_lst, onKD_dct, onBD_true, onBD_false, onBD_not, 
    onOD_obj, onND_lst, onND_dct, onND_pot, onND_obj, runUD_bind, runUD_pure, isBl_bl, frzD_imm, frzD_lst, frzD_dct, frzS_imm, frzS_lst, frzS_dct, frzO_obj, frzO_imm, fvS_imm, fvS_lst, fvS_dct, pkD_imm, pkD_lst, 
    pkD_dct, bind_some', itD_lst, itD_tup, itD_str, enD_lst, enD_tup, revD_lst, starD_tup, starD_lst, seqD_tup, seqD_lst, keyD_str, keyD_int, wkD_keys, wkD_vals, wkD_items, fTupOf_lst, fTupOf_tup, fDctOf_dct, 
    fListAll_lst, fListAll_tup, fLen_tup, fLen_lst, fLen_dct, fAbs_int, fInt_int, fLt_int, fLe_int, fGt_int, fGe_int, fSub_int, fAdd_int, fAddN_int, fNeg_int, fPop0_ok, isN_non, notN_non, isN_bl, notN_bl, 
    isN_int, notN_int, isN_str, notN_str, isN_tup, notN_tup, isN_lst, notN_lst, isN_dct, notN_dct, isN_ins, notN_ins, isi_int_non, isi_int_bl, isi_int_int, isi_int_str, isi_int_tup, isi_int_lst, isi_int_dct, 
    isi_bool_non, isi_bool_bl, isi_bool_int, isi_bool_str, isi_bool_tup, isi_bool_lst, isi_bool_dct, isi_str_non, isi_str_bl, isi_str_int, isi_str_str, isi_str_tup, isi_str_lst, isi_str_dct, isi_tuple_non, 
    isi_tuple_bl, isi_tuple_int, isi_tuple_str, isi_tuple_tup, isi_tuple_lst, isi_tuple_dct, isi_list_non, isi_list_bl, isi_list_int, isi_list_str, isi_list_tup, isi_list_lst, isi_list_dct, isi_dict_non, isi_dict_bl, 
    isi_dict_int, isi_dict_str, isi_dict_tup, isi_dict_lst, isi_dict_dct, fIx_tup, fIx_lst, fIx_dctS, fIx_dctI, fIy_tup, fIy_lst, fIy_dctS, fGet_S, isDD_dct, ix0, ix1, ix2, ix3, ix4, ix5, ix6, ix7, eqX_non, 
    eqX_int, neX_int, inDct_S, ninDct_S, inTb_f, inTb_t, ixTb_s, in_tupS, nin_tupS, in_lstS, nin_lstS, fAll_map, fAny_map, sIx, ks_nil, ks_non, ks_imm, ks_lst, ks_dct, ks_pot, ks_obj, fTup_ok, fLst_ok, okSz_of, 
    fApp_ok, fIns0_ok, fExt_lst, fExt_tup, List.map_cons, List.map_nil, List.length_cons, List.length_nil, List.length_map, List.nil_append, List.cons_append, List.getElem?_cons_zero, Option.getD_some, Nat.reduceAdd, 
    Nat.reduceLeDiff, Nat.reduceLT, Nat.reduceEqDiff, Nat.zero_le, ↓reduceIte, if_true, if_false, true_and, and_true, and_self, Bool.not_true, Bool.not_false, Bool.and_self, Bool.true_and, decide_true, decide_false, 
    cast0, cast1, Int.cast_ofNat_Int, eq_self, Int.reduceEq, Int.reduceLT, Int.reduceLE, Int.reduceAdd, Int.reduceNeg, Int.reduceSub, $ls,*])
-- W end
namespace WK
open PySem L2 EE
theorem s_name (k : Nat) {gs : List Int} {s c m : Int} {Q : Slot → List Slot → Prop} {W : Exn → List Slot → Prop} (h : ∀ x gs' s' c', nameB x = true → Q (.imm (.str x)) [.pot gs' s' c' m]) : onR (Tb (k + 3) 41 [.pot gs s c m]) Q W := by
  refine on_e (tb__law_name (k + 1)) rfl rfl ?_
  unfold b__law_name
  simp? [List.append_nil, List.replicate]
  refine s_take k (by decide) (by decide) fun r gs s c h0 h1 => ?_
  simp? []
  by_cases h2 : r < 12
  · obtain ⟨x, e, hn⟩ := menu_at h0 h2
    simp? [h2, e]
    exact h _ _ _ _ hn
  · simp? [h2]
    refine s_take k (by decide) (by decide) fun z gs s c h3 h4 => ?_
    obtain ⟨n, e, n1, n8⟩ := size_at h3 h4
    simp? [e, isStD, rng1_nat (n := n) (by omega)]
    refine ⟨by rfl, run_compI (fun pre acc ρ => ∃ gs s c cs l, ρ = [.pot gs s c m, .imm l, .imm (.int r), .imm (.int n), .non] ∧ acc = cs.map (fun c => D.str ⟨#[c]⟩) ∧ cs.length = pre.length ∧ ∀ c ∈ cs, letterB c = true) ⟨_, _, _, [], _, rfl, rfl, rfl, fun _ h => by cases h⟩ (fun pre i post acc ρ e ih => ?_) (fun acc ρ i => ?_) (by simp; omega)⟩
    · obtain ⟨gs, s, c, cs, l, rfl, rfl, hl, hc⟩ := ih
      simp? [wipeR]
      refine s_take k (by decide) (by decide) fun z gs s c h3 h4 => ?_
      obtain ⟨x, e2, hx⟩ := letter_at h3 h4
      simp? [e2, wipeR]
      refine ⟨_, _, _, cs ++ [x], _, rfl, by rw [List.map_append]; rfl, by simp [hl], fun y hy => ?_⟩
      rcases List.mem_append.mp hy with hy | hy
      · exact hc y hy
      · rw [List.mem_singleton.mp hy]
        exact hx
    · obtain ⟨gs, s, c, cs, l, rfl, rfl, hl, hc⟩ := i
      have hl : cs.length = n := by rw [hl, List.length_range]
      simp? [wipeR, backR, fJoin_sg (cs := cs) (by omega)]
      exact h _ _ _ _ (nameB_of (by omega) (by omega) hc)
end WK
end

section
set_option Elab.async false
set_option linter.all false
set_option maxRecDepth 100000
set_option maxHeartbeats 4000000
open PySem L2 EE
-- W begin
local macro_rules | `(tactic| simp? [$ls,*]) => `(tactic| simp only [
    ↓run_pure, ↓run_bind, ↓run_of, ↓run_bad, ↓run_ite, ↓run_var, ↓run_take, ↓run_pk, ↓run_isL, ↓run_isDc, ↓run_mLst, ↓run_store, ↓run_meth, ↓run_putK, ↓run_frz, ↓run_put, ↓run_seq, ↓run_if, ↓run_ifE, ↓run_nx, 
    ↓run_then, ↓run_drop, ↓run_ret, ↓run_retO, ↓run_set, ↓run_setO, ↓run_asg, ↓ru_tup, ↓runU_stop, ↓run_tst, ↓run_notB, ↓run_and, ↓run_or, ↓run_andV, ↓run_orV, ↓run_notV, ↓run_ch, ↓run_m2, ↓run_m1, ↓run_mN, 
    ↓run_oLst, ↓run_ixO, ↓run_fz, ↓run_fzO, ↓run_disp, ↓run_aug, ↓ru_for, ↓run_raise1, ↓ru_call, ↓run_ag, ↓callP_v1, ↓callP_v2, ↓callP_v3, ↓callP_v4, ↓callP_o0, ↓callP_o1, ↓callP_o2, ↓callP_o3, ↓callP_1o, 
    ↓callP_3o, ↓run_comp, ↓run_oComp, ↓run_compD, ↓run_dcompD, ↓run_forD, ↓run_fldI, ↓run_putF, ↓run_self, ↓stop_forM, ↓stop_while, ↓stop_compM, ↓stop_dcompM, ↓stop_make, ↓stop_try, ↓stop_xf, ↓stop_potNew, 
    ↓onR_stop, ↓onS_stop, ↓onI_stop, ↓onT_stop, ↓onA_stop, ↓onL_stop, ↓onK_stop, ↓onB_stop, ↓onO_stop, ↓onN_stop, ↓onF_nx, ↓onF_rt, ↓onF_bk, ↓onF_ct, ↓onLp_nx, ↓onLp_ct, ↓onLp_bk, ↓onLp_rt, ↓retP_rt, ↓retP_nx, 
    ↓pt0, ↓pt1, ↓pt2, ↓pt3, ↓pt4, ↓pt5, ↓pt6, ↓pt7, ↓pt8, ↓pt9, ↓pt10, ↓pt11, ↓pt12, ↓pt13, ↓pt14, ↓pt15, ↓pt16, ↓pt17, ↓at0, ↓at1, ↓at2, ↓at3, ↓at4, ↓at5, ↓at6, ↓at7, ↓at8, ↓at9, ↓at10, ↓at11, ↓at12, ↓at13, 
    ↓at14, ↓at15, ↓at16, ↓at17, ↓st0, ↓st1, ↓st2, ↓st3, ↓st4, ↓st5, ↓st6, ↓st7, ↓st8, ↓st9, ↓st10, ↓st11, ↓st12, ↓st13, ↓st14, ↓st15, ↓st16, ↓st17, ↓sv0, ↓sv1, ↓sv2, ↓sv3, ↓sv4, ↓sv5, ↓sv6, ↓sv7, ↓sv8, ↓sv9, 
    ↓sv10, ↓sv11, ↓sv12, ↓sv13, ↓sv14, ↓sv15, ↓sv16, ↓sv17, onRD_ok, onRD_exc, onSD_some, onID_imm, onTD_imm, onTD_lst, onTD_dct, onTD_pot, onTD_obj, onAD_some, onLD_lst, onKD_dct, onBD_true, onBD_false, onBD_not, 
    onOD_obj, onND_lst, onND_dct, onND_pot, onND_obj, runUD_bind, runUD_pure, isBl_bl, frzD_imm, frzD_lst, frzD_dct, frzS_imm, frzS_lst, frzS_dct, frzO_obj, frzO_imm, fvS_imm, fvS_lst, fvS_dct, pkD_imm, pkD_lst, 
    pkD_dct, bind_some', itD_lst, itD_tup, itD_str, enD_lst, enD_tup, revD_lst, starD_tup, starD_lst, seqD_tup, seqD_lst, keyD_str, keyD_int, wkD_keys, wkD_vals, wkD_items, fTupOf_lst, fTupOf_tup, fDctOf_dct, 
    fListAll_lst, fListAll_tup, fLen_tup, fLen_lst, fLen_dct, fAbs_int, fInt_int, fLt_int, fLe_int, fGt_int, fGe_int, fSub_int, fAdd_int, fAddN_int, fNeg_int, fPop0_ok, isN_non, notN_non, isN_bl, notN_bl, 
    isN_int, notN_int, isN_str, notN_str, isN_tup, notN_tup, isN_lst, notN_lst, isN_dct, notN_dct, isN_ins, notN_ins, isi_int_non, isi_int_bl, isi_int_int, isi_int_str, isi_int_tup, isi_int_lst, isi_int_dct, 
    isi_bool_non, isi_bool_bl, isi_bool_int, isi_bool_str, isi_bool_tup, isi_bool_lst, isi_bool_dct, isi_str_non, isi_str_bl, isi_str_int, isi_str_str, isi_str_tup, isi_str_lst, isi_str_dct, isi_tuple_non, 
    isi_tuple_bl, isi_tuple_int, isi_tuple_str, isi_tuple_tup, isi_tuple_lst, isi_tuple_dct, isi_list_non, isi_list_bl, isi_list_int, isi_list_str, isi_list_tup, isi_list_lst, isi_list_dct, isi_dict_non, isi_dict_bl, 
    isi_dict_int, isi_dict_str, isi_dict_tup, isi_dict_lst, isi_dict_dct, fIx_tup, fIx_lst, fIx_dctS, fIx_dctI, fIy_tup, fIy_lst, fIy_dctS, fGet_S, isDD_dct, ix0, ix1, ix2, ix3, ix4, ix5, ix6, ix7, eqX_non, 
    eqX_int, neX_int, inDct_S, ninDct_S, inTb_f, inTb_t, ixTb_s, in_tupS, nin_tupS, in_lstS, nin_lstS, fAll_map, fAny_map, sIx, ks_nil, ks_non, ks_imm, ks_lst, ks_dct, ks_pot, ks_obj, fTup_ok, fLst_ok, okSz_of, 
    fApp_ok, fIns0_ok, fExt_lst, fExt_tup, List.map_cons, List.map_nil, List.length_cons, List.length_nil, List.length_map, List.nil_append, List.cons_append, List.getElem?_cons_zero, Option.getD_some, Nat.reduceAdd, 
    Nat.reduceLeDiff, Nat.reduceLT, Nat.reduceEqDiff, Nat.zero_le, ↓reduceIte, if_true, if_false, true_and, and_true, and_self, Bool.not_true, Bool.not_false, Bool.and_self, Bool.true_and, decide_true, decide_false, 
    cast0, cast1, Int.cast_ofNat_Int, eq_self, Int.reduceEq, Int.reduceLT, Int.reduceLE, Int.reduceAdd, Int.reduceNeg, Int.reduceSub, $ls,*])
-- W end
/-! P10: drawn methods and classes -/
namespace WK
open PySem L2 EE
theorem fgh_at {r : Int} (h0 : 0 ≤ r) (h2 : r < 3) : ∃ s : Str, atI [D.str "f", .str "g", .str "h"] r = some (.str s) ∧ (s = "f" ∨ s = "g" ∨ s = "h") := by
  obtain ⟨d, hd, e⟩ := atI_mem (xs := [D.str "f", .str "g", .str "h"]) h0 h2
  rw [e]
  simp at hd
  rcases hd with rfl | rfl | rfl
  · exact ⟨_, rfl, .inl rfl⟩
  · exact ⟨_, rfl, .inr (.inl rfl)⟩
  · exact ⟨_, rfl, .inr (.inr rfl)⟩
theorem pt_mem {β : Type} {xs : List (Str × β)} {n : Str} {v : β} {p : Str × β} (h : p ∈ pt xs n v) : p ∈ xs ∨ p = (n, v) := by
  unfold pt at h
  split at h
  · obtain ⟨q, hq, e⟩ := List.mem_map.mp h
    by_cases e2 : q.1 = n
    · rw [if_pos e2] at e
      right; rw [← e, e2]
    · rw [if_neg e2] at e
      left; rw [← e]; exact hq
  · rcases List.mem_append.mp h with h | h
    · exact .inl h
    · exact .inr (List.mem_singleton.mp h)
theorem pt_nodup {β : Type} {xs : List (Str × β)} {n : Str} {v : β} (h : (xs.map (·.1)).Nodup) : ((pt xs n v).map (·.1)).Nodup := by
  rw [pt_keys]
  split
  · exact h
  · rename_i hn
    rw [List.nodup_append]
    refine ⟨h, by simp, fun a ha b hb => ?_⟩
    rw [List.mem_singleton.mp hb]
    exact fun e => hn (e ▸ ha)
structure MsOk (ms : List (Str × Str)) : Prop where
  ok : ∀ p ∈ ms, nameB p.1 = true ∧ (p.2 = "f" ∨ p.2 = "g" ∨ p.2 = "h")
  mks : (ms.map (·.1)).Nodup
theorem s_methods (k : Nat) {gs : List Int} {s c m : Int} {Q : Slot → List Slot → Prop} {W : Exn → List Slot → Prop} (h : ∀ ms gs' s' c', ms.length ≤ 2 → MsOk ms → Q (.dct (kD .str ms)) [.pot gs' s' c' m]) : onR (Tb (k + 4) 43 [.pot gs s c m]) Q W := by
  refine on_e (tb__law_methods (k + 2)) rfl rfl ?_
  unfold b__law_methods
  simp? [List.append_nil, List.replicate]
  refine s_take (k + 1) (by decide) (by decide) fun r gs s c h0 h1 => ?_
  obtain ⟨n, rfl⟩ : ∃ n : Nat, r = n := ⟨r.toNat, by omega⟩
  have hn : n ≤ 2 := by omega
  simp? [rng1_nat (n := n) (by omega)]
  refine run_forM (fun pre ρ => ∃ gs s c ms x y, ρ = [.pot gs s c m, .dct (kD .str ms), x, y] ∧ ms.length ≤ pre.length ∧ MsOk ms) ⟨_, _, _, [], _, _, rfl, by simp, ⟨fun _ h => (by cases h), by simp⟩⟩ (fun pre i post ρ e ih => ?_) (fun ρ i => ?_)
  · obtain ⟨gs, s, c, ms, x, y, rfl, hl, ok⟩ := ih
    have hlen : (List.range n).length = pre.length + (post.length + 1) := by rw [e]; simp
    rw [List.length_range] at hlen
    simp? []
    refine s_name k fun nm gs s c hnm => ?_
    simp? []
    refine s_take (k + 1) (by decide) (by decide) fun z gs s c h3 h4 => ?_
    obtain ⟨f, e2, hf⟩ := fgh_at h3 h4
    have l1 : ms.length ≤ 1000000 := by omega
    simp? [e2, l1]
    rw [putD_kD]
    refine ⟨_, _, _, pt ms nm f, _, _, rfl, ?_, ⟨fun p hp => ?_, pt_nodup ok.mks⟩⟩
    · have := pt_len (xs := ms) (n := nm) (v := f)
      simp; omega
    · rcases pt_mem hp with hp | rfl
      · exact ok.ok p hp
      · exact ⟨hnm, hf⟩
  · obtain ⟨gs, s, c, ms, x, y, rfl, hl, ok⟩ := i
    rw [List.length_range] at hl
    simp? []
    exact h ms _ _ _ (by omega) ok
/-- the fields of each class, kept beside -/
structure FsOk (cs : Cs) (fs : List (Str × List Str)) : Prop where
  keys : fs.map (·.1) = cs.map (·.1)
  at_ : ∀ n l, Line cs (some n) l → lk fs n = some (fieldsL cs l.reverse)
theorem lk_app_old {β : Type} {xs : List (Str × β)} {n m : Str} {v : β} (h : m ∈ xs.map (·.1)) : lk (xs ++ [(n, v)]) m = lk xs m := by
  rw [lk_append]
  cases e : lk xs m with
  | none => exact absurd h (lk_none.mp e)
  | some _ => rfl
theorem lk_app_new {β : Type} {xs : List (Str × β)} {n : Str} {v : β} (h : n ∉ xs.map (·.1)) : lk (xs ++ [(n, v)]) n = some v := by
  rw [lk_append, lk_none.mpr h, lk_cons]
  simp
theorem Line.app {cs : Cs} {n : Str} {c : Cl} {o : Option Str} {l : List Str} (h : Line cs o l) : Line (cs ++ [(n, c)]) o l := by
  refine h.mono fun m c' e => ⟨c', ?_, rfl⟩
  rw [lk_app_old]
  · exact e
  · exact List.mem_map.mpr ⟨_, lk_mem e, rfl⟩
theorem fieldsL_app {cs : Cs} {n : Str} {c : Cl} {l : List Str} (h : ∀ m ∈ l, m ∈ cs.map (·.1)) : fieldsL (cs ++ [(n, c)]) l = fieldsL cs l := by
  unfold fieldsL
  induction l with
  | nil => rfl
  | cons m l ih =>
    rw [List.flatMap_cons, List.flatMap_cons, ih fun x hx => h x (List.mem_cons_of_mem _ hx)]
    congr 1
    unfold ownOf
    rw [lk_app_old (h m List.mem_cons_self)]
theorem Line.old {cs : Cs} {n : Str} {c : Cl} {o : Option Str} {l : List Str} (wf : WF cs) (ho : ∀ q, o = some q → q ∈ cs.map (·.1)) (h : Line (cs ++ [(n, c)]) o l) : Line cs o l := by
  cases o with
  | none => cases h; exact .nil
  | some q =>
    obtain ⟨l', hl', _⟩ := wf.line q (ho q rfl)
    rw [h.uniq hl'.app]
    exact hl'
/-- one class more -/
theorem wf_app {cs : Cs} {fs : List (Str × List Str)} {n : Str} {c : Cl} {lp : List Str} (wf : WF cs) (fo : FsOk cs fs) (hn : n ∉ cs.map (·.1)) (hl : cs.length ≤ 5) (nm : nameB n = true ∧ n ≠ "word" ∧ n ≠ "row" ∧ n ≠ "kept")
    (par : ∀ q, c.par = some q → q ∈ cs.map (·.1)) (lev : 1 ≤ c.lev ∧ c.lev ≤ 2) (own : c.own.length ≤ 3 ∧ (∀ x ∈ c.own, nameB x = true) ∧ c.own.Nodup) (msl : c.ms.length ≤ 2) (ms : MsOk c.ms)
    (hp : Line cs c.par lp) (h4 : (fieldsL cs lp.reverse).length + c.own.length ≤ 4) (hd : ∀ x ∈ c.own, x ∉ fieldsL cs lp.reverse) (hpn : lp.Nodup) (hfn : (fieldsL cs lp.reverse).Nodup) :
    WF (cs ++ [(n, c)]) ∧ FsOk (cs ++ [(n, c)]) (fs ++ [(n, fieldsL cs lp.reverse ++ c.own)]) := by
  have kn : (cs ++ [(n, c)]).map (·.1) = cs.map (·.1) ++ [n] := by simp
  have newL : Line (cs ++ [(n, c)]) (some n) (n :: lp) := .cons (lk_app_new hn) hp.app
  have newF : fieldsL (cs ++ [(n, c)]) (n :: lp).reverse = fieldsL cs lp.reverse ++ c.own := by
    rw [List.reverse_cons]
    have e : ∀ (cs : Cs) (a b : List Str), fieldsL cs (a ++ b) = fieldsL cs a ++ fieldsL cs b := fun cs a b => by unfold fieldsL; rw [List.flatMap_append]
    rw [e, fieldsL_app fun m hm => hp.mem m (by simpa using hm)]
    congr 1
    unfold fieldsL ownOf
    simp [lk_app_new hn]
  refine ⟨⟨?_, ?_, ?_, ?_, ?_⟩, ⟨?_, ?_⟩⟩
  · rw [kn, List.nodup_append]
    refine ⟨wf.nd, by simp, fun a ha b hb => ?_⟩
    rw [List.mem_singleton.mp hb]
    exact fun e => hn (e ▸ ha)
  · simp; omega
  · intro p hp
    rcases List.mem_append.mp hp with hp | hp
    · exact wf.nm p hp
    · rw [List.mem_singleton.mp hp]
      exact nm
  · intro p hp
    rcases List.mem_append.mp hp with hp | hp
    · have r := wf.row p hp
      exact ⟨fun q hq => ⟨(r.par q hq).1, by rw [kn]; exact List.mem_append_left _ (r.par q hq).2⟩, r.lev, r.own, r.msl, r.ms, r.mks⟩
    · rw [List.mem_singleton.mp hp]
      refine ⟨fun q hq => ?_, lev, own, msl, ms.ok, ms.mks⟩
      have hq' := par q hq
      obtain ⟨p, hp, e⟩ := List.mem_map.mp hq'
      exact ⟨e ▸ (wf.nm p hp).1, by rw [kn]; exact List.mem_append_left _ hq'⟩
  · intro m hm
    rw [kn] at hm
    rcases List.mem_append.mp hm with hm | hm
    · obtain ⟨l, hL, nd, f4, fn⟩ := wf.line m hm
      refine ⟨l, hL.app, nd, ?_, ?_⟩
      · rw [fieldsL_app fun x hx => hL.mem x (by simpa using hx)]; exact f4
      · rw [fieldsL_app fun x hx => hL.mem x (by simpa using hx)]; exact fn
    · rw [List.mem_singleton.mp hm]
      refine ⟨n :: lp, newL, ?_, ?_, ?_⟩
      · rw [List.nodup_cons]
        exact ⟨fun h => hn (hp.mem n h), hpn⟩
      · rw [newF]; simp; omega
      · rw [newF, List.nodup_append]
        refine ⟨hfn, own.2.2, fun a ha b hb e => ?_⟩
        exact hd b hb (e ▸ ha)
  · rw [kn, List.map_append, fo.keys]; rfl
  · intro m l h
    by_cases e : m = n
    · subst e
      rw [h.uniq newL, newF, lk_app_new (by rw [fo.keys]; exact hn)]
    · have hm : m ∈ cs.map (·.1) := by
        have := h.mem m (by cases h; simp)
        rw [kn] at this
        rcases List.mem_append.mp this with h | h
        · exact h
        · exact absurd (List.mem_singleton.mp h) e
      have h' := h.old wf fun q hq => by cases hq; exact hm
      rw [fieldsL_app fun x hx => h'.mem x (by simpa using hx), lk_app_old (by rw [fo.keys]; exact hm)]
      exact fo.at_ m l h'
theorem wf_nil : WF [] := ⟨by simp, by simp, fun _ h => (by cases h), fun _ h => (by cases h), fun _ h => (by cases h)⟩
theorem fs_nil : FsOk [] [] := ⟨rfl, fun n l h => by cases h with | cons h _ => cases h⟩
end WK
end

section
set_option Elab.async false
set_option linter.all false
set_option maxRecDepth 100000
set_option maxHeartbeats 4000000
open PySem L2 EE
-- W begin
local macro_rules | `(tactic| simp? [$ls,*]) => `(tactic| simp only [
    ↓run_pure, ↓run_bind, ↓run_of, ↓run_bad, ↓run_ite, ↓run_var, ↓run_take, ↓run_pk, ↓run_isL, ↓run_isDc, ↓run_mLst, ↓run_store, ↓run_meth, ↓run_putK, ↓run_frz, ↓run_put, ↓run_seq, ↓run_if, ↓run_ifE, ↓run_nx, 
    ↓run_then, ↓run_drop, ↓run_ret, ↓run_retO, ↓run_set, ↓run_setO, ↓run_asg, ↓ru_tup, ↓runU_stop, ↓run_tst, ↓run_notB, ↓run_and, ↓run_or, ↓run_andV, ↓run_orV, ↓run_notV, ↓run_ch, ↓run_m2, ↓run_m1, ↓run_mN, 
    ↓run_oLst, ↓run_ixO, ↓run_fz, ↓run_fzO, ↓run_disp, ↓run_aug, ↓ru_for, ↓run_raise1, ↓ru_call, ↓run_ag, ↓callP_v1, ↓callP_v2, ↓callP_v3, ↓callP_v4, ↓callP_o0, ↓callP_o1, ↓callP_o2, ↓callP_o3, ↓callP_1o, 
    ↓callP_3o, ↓run_comp, ↓run_oComp, ↓run_compD, ↓run_dcompD, ↓run_forD, ↓run_fldI, ↓run_putF, ↓run_self, ↓stop_forM, ↓stop_while, ↓stop_compM, ↓stop_dcompM, ↓stop_make, ↓stop_try, ↓stop_xf, ↓stop_potNew, 
    ↓onR_stop, ↓onS_stop, ↓onI_stop, ↓onT_stop, ↓onA_stop, ↓onL_stop, ↓onK_stop, ↓onB_stop, ↓onO_stop, ↓onN_stop, ↓onF_nx, ↓onF_rt, ↓onF_bk, ↓onF_ct, ↓onLp_nx, ↓onLp_ct, ↓onLp_bk, ↓onLp_rt, ↓retP_rt, ↓retP_nx, 
    ↓pt0, ↓pt1, ↓pt2, ↓pt3, ↓pt4, ↓pt5, ↓pt6, ↓pt7, ↓pt8, ↓pt9, ↓pt10, ↓pt11, ↓pt12, ↓pt13, ↓pt14, ↓pt15, ↓pt16, ↓pt17, ↓at0, ↓at1, ↓at2, ↓at3, ↓at4, ↓at5, ↓at6, ↓at7, ↓at8, ↓at9, ↓at10, ↓at11, ↓at12, ↓at13, 
    ↓at14, ↓at15, ↓at16, ↓at17, ↓st0, ↓st1, ↓st2, ↓st3, ↓st4, ↓st5, ↓st6, ↓st7, ↓st8, ↓st9, ↓st10, ↓st11, ↓st12, ↓st13, ↓st14, ↓st15, ↓st16, ↓st17, ↓sv0, ↓sv1, ↓sv2, ↓sv3, ↓sv4, ↓sv5, ↓sv6, ↓sv7, ↓sv8, ↓sv9, 
    ↓sv10, ↓sv11, ↓sv12, ↓sv13, ↓sv14, ↓sv15, ↓sv16, ↓sv17, onRD_ok, onRD_exc, onSD_some, onID_imm, onTD_imm, onTD_lst, onTD_dct, onTD_pot, onTD_obj, onAD_some, onLD_lst, onKD_dct, onBD_true, onBD_false, onBD_not, 
    onOD_obj, onND_lst, onND_dct, onND_pot, onND_obj, runUD_bind, runUD_pure, isBl_bl, frzD_imm, frzD_lst, frzD_dct, frzS_imm, frzS_lst, frzS_dct, frzO_obj, frzO_imm, fvS_imm, fvS_lst, fvS_dct, pkD_imm, pkD_lst, 
    pkD_dct, bind_some', itD_lst, itD_tup, itD_str, enD_lst, enD_tup, revD_lst, starD_tup, starD_lst, seqD_tup, seqD_lst, keyD_str, keyD_int, wkD_keys, wkD_vals, wkD_items, fTupOf_lst, fTupOf_tup, fDctOf_dct, 
    fListAll_lst, fListAll_tup, fLen_tup, fLen_lst, fLen_dct, fAbs_int, fInt_int, fLt_int, fLe_int, fGt_int, fGe_int, fSub_int, fAdd_int, fAddN_int, fNeg_int, fPop0_ok, isN_non, notN_non, isN_bl, notN_bl, 
    isN_int, notN_int, isN_str, notN_str, isN_tup, notN_tup, isN_lst, notN_lst, isN_dct, notN_dct, isN_ins, notN_ins, isi_int_non, isi_int_bl, isi_int_int, isi_int_str, isi_int_tup, isi_int_lst, isi_int_dct, 
    isi_bool_non, isi_bool_bl, isi_bool_int, isi_bool_str, isi_bool_tup, isi_bool_lst, isi_bool_dct, isi_str_non, isi_str_bl, isi_str_int, isi_str_str, isi_str_tup, isi_str_lst, isi_str_dct, isi_tuple_non, 
    isi_tuple_bl, isi_tuple_int, isi_tuple_str, isi_tuple_tup, isi_tuple_lst, isi_tuple_dct, isi_list_non, isi_list_bl, isi_list_int, isi_list_str, isi_list_tup, isi_list_lst, isi_list_dct, isi_dict_non, isi_dict_bl, 
    isi_dict_int, isi_dict_str, isi_dict_tup, isi_dict_lst, isi_dict_dct, fIx_tup, fIx_lst, fIx_dctS, fIx_dctI, fIy_tup, fIy_lst, fIy_dctS, fGet_S, isDD_dct, ix0, ix1, ix2, ix3, ix4, ix5, ix6, ix7, eqX_non, 
    eqX_int, neX_int, inDct_S, ninDct_S, inTb_f, inTb_t, ixTb_s, in_tupS, nin_tupS, in_lstS, nin_lstS, fAll_map, fAny_map, sIx, ks_nil, ks_non, ks_imm, ks_lst, ks_dct, ks_pot, ks_obj, fTup_ok, fLst_ok, okSz_of, 
    fApp_ok, fIns0_ok, fExt_lst, fExt_tup, List.map_cons, List.map_nil, List.length_cons, List.length_nil, List.length_map, List.nil_append, List.cons_append, List.getElem?_cons_zero, Option.getD_some, Nat.reduceAdd, 
    Nat.reduceLeDiff, Nat.reduceLT, Nat.reduceEqDiff, Nat.zero_le, ↓reduceIte, if_true, if_false, true_and, and_true, and_self, Bool.not_true, Bool.not_false, Bool.and_self, Bool.true_and, decide_true, decide_false, 
    cast0, cast1, Int.cast_ofNat_Int, eq_self, Int.reduceEq, Int.reduceLT, Int.reduceLE, Int.reduceAdd, Int.reduceNeg, Int.reduceSub, $ls,*])
-- W end
/-! P11: the drawn classes -/
namespace WK
open PySem L2 EE
theorem kinds_lst {s : Str} : fIn (.str s) (.lst [.str "word", .str "row", .str "kept"]) = some (.bl (decide (s = "word" ∨ s = "row" ∨ s = "kept"))) := by
  have e : ([.str "word", .str "row", .str "kept"] : List D) = (["word", "row", "kept"] : List Str).map D.str := rfl
  rw [e, in_lstS]
  simp
theorem name_s {s : Str} (h : s = "word" ∨ s = "row" ∨ s = "kept") : fAdd (.str s) (.str "s") = some (.str (s ++ "s")) ∧ (nameB (s ++ "s") = true ∧ s ++ "s" ≠ "word" ∧ s ++ "s" ≠ "row" ∧ s ++ "s" ≠ "kept") := by
  rcases h with rfl | rfl | rfl
  · exact ⟨fAdd_str (by decide +kernel), by decide +kernel⟩
  · exact ⟨fAdd_str (by decide +kernel), by decide +kernel⟩
  · exact ⟨fAdd_str (by decide +kernel), by decide +kernel⟩
theorem str_at {xs : List Str} {r : Int} (h0 : 0 ≤ r) (h1 : r < xs.length) : ∃ s ∈ xs, atI (xs.map D.str) r = some (.str s) := by
  obtain ⟨d, hd, e⟩ := atI_mem (xs := xs.map D.str) h0 (by simpa using h1)
  obtain ⟨s, hs, rfl⟩ := List.mem_map.mp hd
  exact ⟨s, hs, e⟩
theorem str_last {xs : List Str} (h : 0 < xs.length) : ∃ s ∈ xs, atI (xs.map D.str) (-1) = some (.str s) := by
  rw [atI_m1, List.getLast?_map]
  cases e : xs.getLast? with
  | none => rw [List.getLast?_eq_none_iff] at e; subst e; simp at h
  | some s => exact ⟨s, List.mem_of_getLast? e, rfl⟩
/-- own fields, drawn so far -/
structure OwnOk (had own : List Str) : Prop where
  nm : ∀ x ∈ own, nameB x = true
  nd : own.Nodup
  dis : ∀ x ∈ own, x ∉ had
  len : had.length + own.length ≤ 4
theorem s_own (k : Nat) {gs : List Int} {s c m : Int} {x1 x2 x3 x4 x5 x6 x7 x10 x11 : Slot} {had : List Str} {Q : Fl → List Slot → Prop} {W : Exn → List Slot → Prop} {n : Nat} (hn : n ≤ 3) (h4 : had.length ≤ 4)
    (h : ∀ gs s c own y z, own.length ≤ 3 → OwnOk had own → Q .nx [.pot gs s c m, x1, x2, x3, x4, x5, x6, x7, .imm (tupS had), .imm (tupS own), y, z])
    : run (forM (fun d => mPut 10 (.imm d)) (mSeq (mSet 11 (mFz (mCall 1 (Tb (k + 3) 41) ((mAg 0).bind fun d => (M.pure []).bind fun ds => M.pure (d :: ds)))))
    (mIf (mAnd (mTst (m2 fNotIn (mVar 11) (mVar 8))) (mAnd (mTst (m2 fNotIn (mVar 11) (mVar 9))) (mTst (m2 fLt (m2 fAdd (mN fLen ((mVar 8).bind fun d => (M.pure []).bind fun ds => M.pure (d :: ds))) (mN fLen ((mVar 9).bind fun d => (M.pure []).bind fun ds => M.pure (d :: ds)))) (M.pure (.int 4)))))) (mSet 9 (m2 fAdd (mVar 9) (mN fTup ((mVar 11).bind fun d => (M.pure []).bind fun ds => M.pure (d :: ds))))) mNx)) ((List.range n).map fun (i : Nat) => D.int (0 + i))) [.pot gs s c m, x1, x2, x3, x4, x5, x6, x7, .imm (tupS had), .imm (.tup []), x10, x11] Q W := by
  refine run_forM (fun pre ρ => ∃ gs s c own y z, ρ = [.pot gs s c m, x1, x2, x3, x4, x5, x6, x7, .imm (tupS had), .imm (tupS own), y, z] ∧ own.length ≤ pre.length ∧ OwnOk had own) ⟨_, _, _, [], _, _, rfl, by simp, ⟨fun _ h => (by cases h), by simp, fun _ h => (by cases h), by simpa using h4⟩⟩ (fun pre i post ρ e ih => ?_) (fun ρ i => ?_)
  · obtain ⟨gs, s, c, own, y, z, rfl, hl, ok⟩ := ih
    have hlen : (List.range n).length = pre.length + (post.length + 1) := by rw [e]; simp
    rw [List.length_range] at hlen
    simp? []
    refine s_name k fun nm gs s c hnm => ?_
    simp? []
    refine onB_i (fun _ => ?_) (fun h1 => ?_)
    · simp? []
      exact ⟨_, _, _, own, _, _, rfl, by simp; omega, ok⟩
    · simp? []
      refine onB_i (fun _ => ?_) (fun h2 => ?_)
      · simp? []
        exact ⟨_, _, _, own, _, _, rfl, by simp; omega, ok⟩
      · simp? []
        refine onB_i (fun h3 => ?_) (fun _ => ?_)
        · have hz : (own.map D.str).length + [D.str nm].length ≤ 1000000 := by have := ok.len; simp; omega
          simp? [fAdd_tup hz]
          have h3 := of_decide_eq_true h3
          have h1 := of_decide_eq_false h1
          have h2 := of_decide_eq_false h2
          refine ⟨_, _, _, own ++ [nm], _, _, by rw [tupS, tupS, List.map_append]; rfl, by simp; omega, ⟨fun x hx => ?_, ?_, fun x hx => ?_, by simp; omega⟩⟩
          · rcases List.mem_append.mp hx with hx | hx
            · exact ok.nm x hx
            · rw [List.mem_singleton.mp hx]; exact hnm
          · rw [List.nodup_append]
            refine ⟨ok.nd, by simp, fun a ha b hb e => h2 ?_⟩
            rw [List.mem_singleton.mp hb] at e
            exact e ▸ ha
          · rcases List.mem_append.mp hx with hx | hx
            · exact ok.dis x hx
            · rw [List.mem_singleton.mp hx]; exact h1
        · simp? []
          exact ⟨_, _, _, own, _, _, rfl, by simp; omega, ok⟩
  · obtain ⟨gs, s, c, own, y, z, rfl, hl, ok⟩ := i
    rw [List.length_range] at hl
    exact h _ _ _ own _ _ (by omega) ok
end WK
end

section
set_option Elab.async false
set_option linter.all false
set_option maxRecDepth 100000
set_option maxHeartbeats 4000000
open PySem L2 EE
-- W begin
local macro_rules | `(tactic| simp? [$ls,*]) => `(tactic| simp only [
    ↓run_pure, ↓run_bind, ↓run_of, ↓run_bad, ↓run_ite, ↓run_var, ↓run_take, ↓run_pk, ↓run_isL, ↓run_isDc, ↓run_mLst, ↓run_store, ↓run_meth, ↓run_putK, ↓run_frz, ↓run_put, ↓run_seq, ↓run_if, ↓run_ifE, ↓run_nx, 
    ↓run_then, ↓run_drop, ↓run_ret, ↓run_retO, ↓run_set, ↓run_setO, ↓run_asg, ↓ru_tup, ↓runU_stop, ↓run_tst, ↓run_notB, ↓run_and, ↓run_or, ↓run_andV, ↓run_orV, ↓run_notV, ↓run_ch, ↓run_m2, ↓run_m1, ↓run_mN, 
    ↓run_oLst, ↓run_ixO, ↓run_fz, ↓run_fzO, ↓run_disp, ↓run_aug, ↓ru_for, ↓run_raise1, ↓ru_call, ↓run_ag, ↓callP_v1, ↓callP_v2, ↓callP_v3, ↓callP_v4, ↓callP_o0, ↓callP_o1, ↓callP_o2, ↓callP_o3, ↓callP_1o, 
    ↓callP_3o, ↓run_comp, ↓run_oComp, ↓run_compD, ↓run_dcompD, ↓run_forD, ↓run_fldI, ↓run_putF, ↓run_self, ↓stop_forM, ↓stop_while, ↓stop_compM, ↓stop_dcompM, ↓stop_make, ↓stop_try, ↓stop_xf, ↓stop_potNew, 
    ↓onR_stop, ↓onS_stop, ↓onI_stop, ↓onT_stop, ↓onA_stop, ↓onL_stop, ↓onK_stop, ↓onB_stop, ↓onO_stop, ↓onN_stop, ↓onF_nx, ↓onF_rt, ↓onF_bk, ↓onF_ct, ↓onLp_nx, ↓onLp_ct, ↓onLp_bk, ↓onLp_rt, ↓retP_rt, ↓retP_nx, 
    ↓pt0, ↓pt1, ↓pt2, ↓pt3, ↓pt4, ↓pt5, ↓pt6, ↓pt7, ↓pt8, ↓pt9, ↓pt10, ↓pt11, ↓pt12, ↓pt13, ↓pt14, ↓pt15, ↓pt16, ↓pt17, ↓at0, ↓at1, ↓at2, ↓at3, ↓at4, ↓at5, ↓at6, ↓at7, ↓at8, ↓at9, ↓at10, ↓at11, ↓at12, ↓at13, 
    ↓at14, ↓at15, ↓at16, ↓at17, ↓st0, ↓st1, ↓st2, ↓st3, ↓st4, ↓st5, ↓st6, ↓st7, ↓st8, ↓st9, ↓st10, ↓st11, ↓st12, ↓st13, ↓st14, ↓st15, ↓st16, ↓st17, ↓sv0, ↓sv1, ↓sv2, ↓sv3, ↓sv4, ↓sv5, ↓sv6, ↓sv7, ↓sv8, ↓sv9, 
    ↓sv10, ↓sv11, ↓sv12, ↓sv13, ↓sv14, ↓sv15, ↓sv16, ↓sv17, onRD_ok, onRD_exc, onSD_some, onID_imm, onTD_imm, onTD_lst, onTD_dct, onTD_pot, onTD_obj, onAD_some, onLD_lst, onKD_dct, onBD_true, onBD_false, onBD_not, 
    onOD_obj, onND_lst, onND_dct, onND_pot, onND_obj, runUD_bind, runUD_pure, isBl_bl, frzD_imm, frzD_lst, frzD_dct, frzS_imm, frzS_lst, frzS_dct, frzO_obj, frzO_imm, fvS_imm, fvS_lst, fvS_dct, pkD_imm, pkD_lst, 
    pkD_dct, bind_some', itD_lst, itD_tup, itD_str, enD_lst, enD_tup, revD_lst, starD_tup, starD_lst, seqD_tup, seqD_lst, keyD_str, keyD_int, wkD_keys, wkD_vals, wkD_items, fTupOf_lst, fTupOf_tup, fDctOf_dct, 
    fListAll_lst, fListAll_tup, fLen_tup, fLen_lst, fLen_dct, fAbs_int, fInt_int, fLt_int, fLe_int, fGt_int, fGe_int, fSub_int, fAdd_int, fAddN_int, fNeg_int, fPop0_ok, isN_non, notN_non, isN_bl, notN_bl, 
    isN_int, notN_int, isN_str, notN_str, isN_tup, notN_tup, isN_lst, notN_lst, isN_dct, notN_dct, isN_ins, notN_ins, isi_int_non, isi_int_bl, isi_int_int, isi_int_str, isi_int_tup, isi_int_lst, isi_int_dct, 
    isi_bool_non, isi_bool_bl, isi_bool_int, isi_bool_str, isi_bool_tup, isi_bool_lst, isi_bool_dct, isi_str_non, isi_str_bl, isi_str_int, isi_str_str, isi_str_tup, isi_str_lst, isi_str_dct, isi_tuple_non, 
    isi_tuple_bl, isi_tuple_int, isi_tuple_str, isi_tuple_tup, isi_tuple_lst, isi_tuple_dct, isi_list_non, isi_list_bl, isi_list_int, isi_list_str, isi_list_tup, isi_list_lst, isi_list_dct, isi_dict_non, isi_dict_bl, 
    isi_dict_int, isi_dict_str, isi_dict_tup, isi_dict_lst, isi_dict_dct, fIx_tup, fIx_lst, fIx_dctS, fIx_dctI, fIy_tup, fIy_lst, fIy_dctS, fGet_S, isDD_dct, ix0, ix1, ix2, ix3, ix4, ix5, ix6, ix7, eqX_non, 
    eqX_int, neX_int, inDct_S, ninDct_S, inTb_f, inTb_t, ixTb_s, in_tupS, nin_tupS, in_lstS, nin_lstS, fAll_map, fAny_map, sIx, ks_nil, ks_non, ks_imm, ks_lst, ks_dct, ks_pot, ks_obj, fTup_ok, fLst_ok, okSz_of, 
    fApp_ok, fIns0_ok, fExt_lst, fExt_tup, List.map_cons, List.map_nil, List.length_cons, List.length_nil, List.length_map, List.nil_append, List.cons_append, List.getElem?_cons_zero, Option.getD_some, Nat.reduceAdd, 
    Nat.reduceLeDiff, Nat.reduceLT, Nat.reduceEqDiff, Nat.zero_le, ↓reduceIte, if_true, if_false, true_and, and_true, and_self, Bool.not_true, Bool.not_false, Bool.and_self, Bool.true_and, decide_true, decide_false, 
    cast0, cast1, Int.cast_ofNat_Int, eq_self, Int.reduceEq, Int.reduceLT, Int.reduceLE, Int.reduceAdd, Int.reduceNeg, Int.reduceSub, $ls,*])
-- W end
/-! P12: the drawn classes, joined -/
namespace WK
open PySem L2 EE
def lcD (T T' : Nat → Fn) : M Fl := (mSeq (mFor ((mFz (mCall 2 (T 40) ((mAg 0).bind fun d => (((M.pure (.int 4)).bind fun d => M.pure (.v d)).bind fun d => (M.pure []).bind fun ds => M.pure (d :: ds)).bind fun ds => M.pure (d :: ds)))).bind fun d => M.of (rng1 d)) (fun d => mPut 10 (.imm d)) (mSeq (mSet 11 (mFz (mCall 1 (T 41) ((mAg 0).bind fun d => (M.pure []).bind fun ds => M.pure (d :: ds)))))
    (mIf (mAnd (mTst (m2 fNotIn (mVar 11) (mVar 8))) (mAnd (mTst (m2 fNotIn (mVar 11) (mVar 9))) (mTst (m2 fLt (m2 fAdd (mN fLen ((mVar 8).bind fun d => (M.pure []).bind fun ds => M.pure (d :: ds))) (mN fLen ((mVar 9).bind fun d => (M.pure []).bind fun ds => M.pure (d :: ds)))) (M.pure (.int 4)))))) (mSet 9 (m2 fAdd (mVar 9) (mN fTup ((mVar 11).bind fun d => (M.pure []).bind fun ds => M.pure (d :: ds))))) mNx)))
    (mSeq (mDrop (mMeth 2 fApp ((mVar 5).bind fun d => (M.pure []).bind fun ds => M.pure (d :: ds))))
    (mSeq (mPutK 3 (m2 fAdd (mVar 8) (mVar 9)) (mVar 5))
    (mPutK 1 (mN fTup ((mVar 6).bind fun d => ((m2 fAdd (M.pure (.int 1)) (mFz (mCall 2 (T 40) ((mAg 0).bind fun d => (((M.pure (.int 2)).bind fun d => M.pure (.v d)).bind fun d => (M.pure []).bind fun ds => M.pure (d :: ds)).bind fun ds => M.pure (d :: ds))))).bind fun d => ((mVar 9).bind fun d => ((mFz (mCall 1 (T 43) ((mAg 0).bind fun d => (M.pure []).bind fun ds => M.pure (d :: ds)))).bind fun d => (M.pure []).bind fun ds => M.pure (d :: ds)).bind fun ds => M.pure (d :: ds)).bind fun ds => M.pure (d :: ds)).bind fun ds => M.pure (d :: ds))) (mVar 5)))))
theorem stop_lcD {T T' : Nat → Fn} {ρ : List Slot} {Q : Fl → List Slot → Prop} {W : Exn → List Slot → Prop} : run (lcD T T') ρ Q W = runD (lcD T T') ρ Q W ⟨⟩ := propext Iff.rfl
def lcC (T T' : Nat → Fn) : M Fl := (mSeq (mSet 8 (mN fTup (M.pure [])))
    (mSeq (mIf (mTst (m2 fNotN (mVar 6) (M.pure .non))) (mSet 8 (mIxO 3 (mVar 6))) mNx)
    (mSeq (mSet 9 (mN fTup (M.pure [])))
    (lcD T T'))))
theorem stop_lcC {T T' : Nat → Fn} {ρ : List Slot} {Q : Fl → List Slot → Prop} {W : Exn → List Slot → Prop} : run (lcC T T') ρ Q W = runD (lcC T T') ρ Q W ⟨⟩ := propext Iff.rfl
def lcB (T T' : Nat → Fn) : M Fl := (mIf (mTst (m2 fNotIn (mVar 5) (mPk 1))) (mSeq (mSet 6 (M.pure .non))
    (mSeq (mSet 7 (mFz (mCall 2 (T 40) ((mAg 0).bind fun d => (((m2 fAdd (m1 (fun d => fLen [d]) (mPk 2)) (M.pure (.int 3))).bind fun d => M.pure (.v d)).bind fun d => (M.pure []).bind fun ds => M.pure (d :: ds)).bind fun ds => M.pure (d :: ds)))))
    (mSeq (mIf (mTst (m2 fLt (mVar 7) (m1 (fun d => fLen [d]) (mPk 2)))) (mSet 6 (mIxO 2 (mVar 7))) (mIf (mAnd (mTst (m2 fEqX (mVar 7) (m1 (fun d => fLen [d]) (mPk 2)))) (mTst (m2 fGt (m1 (fun d => fLen [d]) (mPk 2)) (M.pure (.int 0))))) (mSet 6 (mIxO 2 (m1 fNeg (M.pure (.int 1))))) mNx))
    (lcC T T')))) mNx)
theorem stop_lcB {T T' : Nat → Fn} {ρ : List Slot} {Q : Fl → List Slot → Prop} {W : Exn → List Slot → Prop} : run (lcB T T') ρ Q W = runD (lcB T T') ρ Q W ⟨⟩ := propext Iff.rfl
def lcA (T T' : Nat → Fn) : M Fl := (mSeq (mSetO 1 (M.pure (.dct [])))
    (mSeq (mSetO 2 (mOLst (M.pure [])))
    (mSeq (mSetO 3 (M.pure (.dct [])))
    (mSeq (mFor ((mFz (mCall 2 (T 40) ((mAg 0).bind fun d => (((M.pure (.int 7)).bind fun d => M.pure (.v d)).bind fun d => (M.pure []).bind fun ds => M.pure (d :: ds)).bind fun ds => M.pure (d :: ds)))).bind fun d => M.of (rng1 d)) (fun d => mPut 4 (.imm d)) (mSeq (mSet 5 (mFz (mCall 1 (T 41) ((mAg 0).bind fun d => (M.pure []).bind fun ds => M.pure (d :: ds)))))
    (mSeq (mIf (mTst (m2 fIn (mVar 5) (mN fLst ((M.pure (.str "word")).bind fun d => ((M.pure (.str "row")).bind fun d => ((M.pure (.str "kept")).bind fun d => (M.pure []).bind fun ds => M.pure (d :: ds)).bind fun ds => M.pure (d :: ds)).bind fun ds => M.pure (d :: ds))))) (mSet 5 (m2 fAdd (mVar 5) (M.pure (.str "s")))) mNx)
    (lcB T T'))))
    (mRetO (mTake 1))))))
theorem stop_lcA {T T' : Nat → Fn} {ρ : List Slot} {Q : Fl → List Slot → Prop} {W : Exn → List Slot → Prop} : run (lcA T T') ρ Q W = runD (lcA T T') ρ Q W ⟨⟩ := propext Iff.rfl
theorem s_lcC (k : Nat) {gs : List Int} {s c m : Int} {cs : Cs} {fs : List (Str × List Str)} {nm : Str} {par : Option Str} {x4 x7 x8 x9 x10 x11 : Slot} {Q : Fl → List Slot → Prop} {W : Exn → List Slot → Prop} (wf : WF cs) (fo : FsOk cs fs) (hn : nm ∉ cs.map (·.1)) (hl : cs.length ≤ 5) (hnm : nameB nm = true ∧ nm ≠ "word" ∧ nm ≠ "row" ∧ nm ≠ "kept") (hp : ∀ q, par = some q → q ∈ cs.map (·.1))
    (h : ∀ gs s c cs' fs' x7 x8 x9 x10 x11, WF cs' → FsOk cs' fs' → cs'.length = cs.length + 1 → Q .nx [.pot gs s c m, .dct (kD Cl.d cs'), .lst ((cs'.map (·.1)).map .str), .dct (kD tupS fs'), x4, .imm (.str nm), .imm (optD par), x7, x8, x9, x10, x11])
    : run (lcC (Tb (k + 4)) (Tb (k + 3))) [.pot gs s c m, .dct (kD Cl.d cs), .lst ((cs.map (·.1)).map .str), .dct (kD tupS fs), x4, .imm (.str nm), .imm (optD par), x7, x8, x9, x10, x11] Q W := by
  unfold lcC
  obtain ⟨lp, hlp, hpn, h4, hfn⟩ : ∃ lp, Line cs par lp ∧ lp.Nodup ∧ (fieldsL cs lp.reverse).length ≤ 4 ∧ (fieldsL cs lp.reverse).Nodup := by
    cases par with
    | none => exact ⟨[], .nil, by simp, by simp [fieldsL], by simp [fieldsL]⟩
    | some q => exact wf.line q (hp q rfl)
  have tail : ∀ x8' : Slot, x8' = .imm (tupS (fieldsL cs lp.reverse)) → run (lcD (Tb (k + 4)) (Tb (k + 3))) [.pot gs s c m, .dct (kD Cl.d cs), .lst ((cs.map (·.1)).map .str), .dct (kD tupS fs), x4, .imm (.str nm), .imm (optD par), x7, x8', .imm (.tup []), x10, x11] Q W := by
    rintro _ rfl
    unfold lcD
    simp? []
    refine s_take (k + 2) (by decide) (by decide) fun r gs s c h0 h1 => ?_
    obtain ⟨n, rfl⟩ : ∃ n : Nat, r = n := ⟨r.toNat, by omega⟩
    simp? [rng1_nat (n := n) (by omega)]
    refine s_own (k + 1) (by omega) h4 fun gs s c own y z ol ok => ?_
    have z1 : ((cs.map (·.1)).map D.str).length ≤ 1000000 := by simp; omega
    have z2 : ((fieldsL cs lp.reverse).map D.str).length + (own.map D.str).length ≤ 1000000 := by simp; omega
    have z3 : fs.length ≤ 1000000 := by
      have := congrArg List.length fo.keys
      simp at this; omega
    have z4 : cs.length ≤ 1000000 := by omega
    simp? [fApp_ok z1, fAdd_tup z2, z3, z4]
    refine s_take (k + 2) (by decide) (by decide) fun r gs s c h2 h3 => ?_
    simp? []
    refine s_methods k fun ms gs s c ml mok => ?_
    simp? [z4]
    have w := wf_app (cs := cs) (fs := fs) (n := nm) (c := ⟨par, 1 + r, own, ms⟩) (lp := lp) wf fo hn hl hnm hp (by simp; omega) ⟨ol, ok.nm, ok.nd⟩ ml mok hlp (by simpa using ok.len) (fun x hx => ok.dis x hx) hpn hfn
    have e1 : putD (kD Cl.d cs) (.inr nm) (.tup [optD par, .int (1 + r), .tup (own.map .str), .dct (kD .str ms)]) = kD Cl.d (cs ++ [(nm, ⟨par, 1 + r, own, ms⟩)]) := by
      rw [← pt_new (xs := cs) (v := (⟨par, 1 + r, own, ms⟩ : Cl)) hn, ← putD_kD]
      rfl
    have e2 : putD (kD tupS fs) (.inr nm) (.tup ((fieldsL cs lp.reverse).map .str ++ own.map .str)) = kD tupS (fs ++ [(nm, fieldsL cs lp.reverse ++ own)]) := by
      rw [← pt_new (xs := fs) (v := fieldsL cs lp.reverse ++ own) (by rw [fo.keys]; exact hn), ← putD_kD]
      rw [tupS, List.map_append]
    have e3 : (cs.map (·.1)).map D.str ++ [.str nm] = ((cs ++ [(nm, (⟨par, 1 + r, own, ms⟩ : Cl))]).map (·.1)).map D.str := by simp
    rw [e1, e2, e3]
    exact h _ _ _ _ _ _ _ _ _ _ w.1 w.2 (by simp)
  cases par with
  | none =>
    simp? [optD, ↓stop_lcD]
    exact tail (.imm (.tup [])) (by cases hlp; rfl)
  | some q =>
    have e := fo.at_ q lp hlp
    simp? [optD, valD_kD, e, Option.map_some, ↓stop_lcD]
    exact tail _ rfl
theorem s_lcB (k : Nat) {gs : List Int} {s c m : Int} {cs : Cs} {fs : List (Str × List Str)} {nm : Str} {x4 x6 x7 x8 x9 x10 x11 : Slot} {Q : Fl → List Slot → Prop} {W : Exn → List Slot → Prop} (wf : WF cs) (fo : FsOk cs fs) (hl : cs.length ≤ 5) (hnm : nameB nm = true ∧ nm ≠ "word" ∧ nm ≠ "row" ∧ nm ≠ "kept")
    (h : ∀ gs s c cs' fs' x6 x7 x8 x9 x10 x11, WF cs' → FsOk cs' fs' → cs'.length ≤ cs.length + 1 → Q .nx [.pot gs s c m, .dct (kD Cl.d cs'), .lst ((cs'.map (·.1)).map .str), .dct (kD tupS fs'), x4, .imm (.str nm), x6, x7, x8, x9, x10, x11])
    : run (lcB (Tb (k + 4)) (Tb (k + 3))) [.pot gs s c m, .dct (kD Cl.d cs), .lst ((cs.map (·.1)).map .str), .dct (kD tupS fs), x4, .imm (.str nm), x6, x7, x8, x9, x10, x11] Q W := by
  unfold lcB
  simp? [valD_kD, Option.isSome_map, lk_isSome]
  refine onB_i (fun h1 => ?_) (fun h1 => ?_)
  · simp? []
    exact h _ _ _ cs fs _ _ _ _ _ _ wf fo (by omega)
  · have hn := of_decide_eq_false h1
    simp? []
    refine s_take (k + 2) (by omega) (by omega) fun r gs s c h2 h3 => ?_
    simp? []
    have fin : ∀ par x7, (∀ q, par = some q → q ∈ cs.map (·.1)) → run (lcC (Tb (k + 4)) (Tb (k + 3))) [.pot gs s c m, .dct (kD Cl.d cs), .lst ((cs.map (·.1)).map .str), .dct (kD tupS fs), x4, .imm (.str nm), .imm (optD par), x7, x8, x9, x10, x11] Q W := fun par x7 hp =>
      s_lcC k wf fo hn hl hnm hp fun gs s c cs' fs' x7 x8 x9 x10 x11 w f l => h _ _ _ cs' fs' _ _ _ _ _ _ w f (by omega)
    refine onB_i (fun h4 => ?_) (fun h4 => ?_)
    · have h4 := of_decide_eq_true h4
      obtain ⟨q, hq, e⟩ := str_at (xs := cs.map (·.1)) h2 (by simpa using h4)
      simp? [e, ↓stop_lcC]
      exact fin (some q) _ fun q' e => by cases e; exact hq
    · simp? []
      refine onB_i (fun h5 => ?_) (fun h5 => ?_)
      · simp? []
        refine onB_i (fun h6 => ?_) (fun h6 => ?_)
        · obtain ⟨q, hq, e⟩ := str_last (xs := cs.map (·.1)) (by have := of_decide_eq_true h6; simp at this; simp; omega)
          simp? [e, ↓stop_lcC]
          exact fin (some q) _ fun q' e => by cases e; exact hq
        · simp? [↓stop_lcC]
          exact fin none _ fun q' e => by cases e
      · simp? [↓stop_lcC]
        exact fin none _ fun q' e => by cases e
theorem s_classes (k : Nat) {gs : List Int} {s c m : Int} {Q : Slot → List Slot → Prop} {W : Exn → List Slot → Prop} (h : ∀ cs gs' s' c', WF cs → Q (.dct (kD Cl.d cs)) [.pot gs' s' c' m]) : onR (Tb (k + 5) 44 [.pot gs s c m]) Q W := by
  refine on_e (tb__law_classes (k + 3)) rfl rfl ?_
  have eb : b__law_classes (Tb (k + 3 + 1)) (Tb (k + 3)) = lcA (Tb (k + 3 + 1)) (Tb (k + 3)) := rfl
  rw [eb]
  unfold lcA
  simp? [List.append_nil, List.replicate]
  refine s_take (k + 2) (by decide) (by decide) fun r gs s c h0 h1 => ?_
  obtain ⟨n, rfl⟩ : ∃ n : Nat, r = n := ⟨r.toNat, by omega⟩
  simp? [rng1_nat (n := n) (by omega)]
  refine run_forM (fun pre ρ => ∃ gs s c cs fs x4 x5 x6 x7 x8 x9 x10 x11, ρ = [.pot gs s c m, .dct (kD Cl.d cs), .lst ((cs.map (·.1)).map .str), .dct (kD tupS fs), x4, x5, x6, x7, x8, x9, x10, x11] ∧ WF cs ∧ FsOk cs fs ∧ cs.length ≤ pre.length) ⟨_, _, _, [], [], _, _, _, _, _, _, _, _, rfl, wf_nil, fs_nil, by simp⟩ (fun pre i post ρ e ih => ?_) (fun ρ i => ?_)
  · obtain ⟨gs, s, c, cs, fs, x4, x5, x6, x7, x8, x9, x10, x11, rfl, wf, fo, hl⟩ := ih
    have hlen : (List.range n).length = pre.length + (post.length + 1) := by rw [e]; simp
    rw [List.length_range] at hlen
    simp? []
    refine s_name (k + 1) fun nm gs s c hnm => ?_
    simp? [kinds_lst]
    refine onB_i (fun h2 => ?_) (fun h2 => ?_)
    · obtain ⟨e1, e2⟩ := name_s (of_decide_eq_true h2)
      simp? [e1, ↓stop_lcB]
      refine s_lcB k wf fo (by omega) e2 fun gs s c cs' fs' x6 x7 x8 x9 x10 x11 w f l => ?_
      simp? []
      exact ⟨_, _, _, cs', fs', _, _, _, _, _, _, _, _, rfl, w, f, by simp; omega⟩
    · simp? [↓stop_lcB]
      have h2 := of_decide_eq_false h2
      refine s_lcB k wf fo (by omega) ⟨hnm, fun e => h2 (.inl e), fun e => h2 (.inr (.inl e)), fun e => h2 (.inr (.inr e))⟩ fun gs s c cs' fs' x6 x7 x8 x9 x10 x11 w f l => ?_
      simp? []
      exact ⟨_, _, _, cs', fs', _, _, _, _, _, _, _, _, rfl, w, f, by simp; omega⟩
  · obtain ⟨gs, s, c, cs, fs, x4, x5, x6, x7, x8, x9, x10, x11, rfl, wf, fo, hl⟩ := i
    simp? []
    exact h cs _ _ _ wf
end WK
end

section
set_option Elab.async false
set_option linter.all false
set_option maxRecDepth 100000
set_option maxHeartbeats 4000000
open PySem L2 EE
-- W begin
local macro_rules | `(tactic| simp? [$ls,*]) => `(tactic| simp only [
    ↓run_pure, ↓run_bind, ↓run_of, ↓run_bad, ↓run_ite, ↓run_var, ↓run_take, ↓run_pk, ↓run_isL, ↓run_isDc, ↓run_mLst, ↓run_store, ↓run_meth, ↓run_putK, ↓run_frz, ↓run_put, ↓run_seq, ↓run_if, ↓run_ifE, ↓run_nx, 
    ↓run_then, ↓run_drop, ↓run_ret, ↓run_retO, ↓run_set, ↓run_setO, ↓run_asg, ↓ru_tup, ↓runU_stop, ↓run_tst, ↓run_notB, ↓run_and, ↓run_or, ↓run_andV, ↓run_orV, ↓run_notV, ↓run_ch, ↓run_m2, ↓run_m1, ↓run_mN, 
    ↓run_oLst, ↓run_ixO, ↓run_fz, ↓run_fzO, ↓run_disp, ↓run_aug, ↓ru_for, ↓run_raise1, ↓ru_call, ↓run_ag, ↓callP_v1, ↓callP_v2, ↓callP_v3, ↓callP_v4, ↓callP_o0, ↓callP_o1, ↓callP_o2, ↓callP_o3, ↓callP_1o, 
    ↓callP_3o, ↓run_comp, ↓run_oComp, ↓run_compD, ↓run_dcompD, ↓run_forD, ↓run_fldI, ↓run_putF, ↓run_self, ↓stop_forM, ↓stop_while, ↓stop_compM, ↓stop_dcompM, ↓stop_make, ↓stop_try, ↓stop_xf, ↓stop_potNew, 
    ↓onR_stop, ↓onS_stop, ↓onI_stop, ↓onT_stop, ↓onA_stop, ↓onL_stop, ↓onK_stop, ↓onB_stop, ↓onO_stop, ↓onN_stop, ↓onF_nx, ↓onF_rt, ↓onF_bk, ↓onF_ct, ↓onLp_nx, ↓onLp_ct, ↓onLp_bk, ↓onLp_rt, ↓retP_rt, ↓retP_nx, 
    ↓pt0, ↓pt1, ↓pt2, ↓pt3, ↓pt4, ↓pt5, ↓pt6, ↓pt7, ↓pt8, ↓pt9, ↓pt10, ↓pt11, ↓pt12, ↓pt13, ↓pt14, ↓pt15, ↓pt16, ↓pt17, ↓at0, ↓at1, ↓at2, ↓at3, ↓at4, ↓at5, ↓at6, ↓at7, ↓at8, ↓at9, ↓at10, ↓at11, ↓at12, ↓at13, 
    ↓at14, ↓at15, ↓at16, ↓at17, ↓st0, ↓st1, ↓st2, ↓st3, ↓st4, ↓st5, ↓st6, ↓st7, ↓st8, ↓st9, ↓st10, ↓st11, ↓st12, ↓st13, ↓st14, ↓st15, ↓st16, ↓st17, ↓sv0, ↓sv1, ↓sv2, ↓sv3, ↓sv4, ↓sv5, ↓sv6, ↓sv7, ↓sv8, ↓sv9, 
    ↓sv10, ↓sv11, ↓sv12, ↓sv13, ↓sv14, ↓sv15, ↓sv16, ↓sv17, onRD_ok, onRD_exc, onSD_some, onID_imm, onTD_imm, onTD_lst, onTD_dct, onTD_pot, onTD_obj, onAD_some, onLD_lst, onKD_dct, onBD_true, onBD_false, onBD_not, 
    onOD_obj, onND_lst, onND_dct, onND_pot, onND_obj, runUD_bind, runUD_pure, isBl_bl, frzD_imm, frzD_lst, frzD_dct, frzS_imm, frzS_lst, frzS_dct, frzO_obj, frzO_imm, fvS_imm, fvS_lst, fvS_dct, pkD_imm, pkD_lst, 
    pkD_dct, bind_some', itD_lst, itD_tup, itD_str, enD_lst, enD_tup, revD_lst, starD_tup, starD_lst, seqD_tup, seqD_lst, keyD_str, keyD_int, wkD_keys, wkD_vals, wkD_items, fTupOf_lst, fTupOf_tup, fDctOf_dct, 
    fListAll_lst, fListAll_tup, fLen_tup, fLen_lst, fLen_dct, fAbs_int, fInt_int, fLt_int, fLe_int, fGt_int, fGe_int, fSub_int, fAdd_int, fAddN_int, fNeg_int, fPop0_ok, isN_non, notN_non, isN_bl, notN_bl, 
    isN_int, notN_int, isN_str, notN_str, isN_tup, notN_tup, isN_lst, notN_lst, isN_dct, notN_dct, isN_ins, notN_ins, isi_int_non, isi_int_bl, isi_int_int, isi_int_str, isi_int_tup, isi_int_lst, isi_int_dct, 
    isi_bool_non, isi_bool_bl, isi_bool_int, isi_bool_str, isi_bool_tup, isi_bool_lst, isi_bool_dct, isi_str_non, isi_str_bl, isi_str_int, isi_str_str, isi_str_tup, isi_str_lst, isi_str_dct, isi_tuple_non, 
    isi_tuple_bl, isi_tuple_int, isi_tuple_str, isi_tuple_tup, isi_tuple_lst, isi_tuple_dct, isi_list_non, isi_list_bl, isi_list_int, isi_list_str, isi_list_tup, isi_list_lst, isi_list_dct, isi_dict_non, isi_dict_bl, 
    isi_dict_int, isi_dict_str, isi_dict_tup, isi_dict_lst, isi_dict_dct, fIx_tup, fIx_lst, fIx_dctS, fIx_dctI, fIy_tup, fIy_lst, fIy_dctS, fGet_S, isDD_dct, ix0, ix1, ix2, ix3, ix4, ix5, ix6, ix7, eqX_non, 
    eqX_int, neX_int, inDct_S, ninDct_S, inTb_f, inTb_t, ixTb_s, in_tupS, nin_tupS, in_lstS, nin_lstS, fAll_map, fAny_map, sIx, ks_nil, ks_non, ks_imm, ks_lst, ks_dct, ks_pot, ks_obj, fTup_ok, fLst_ok, okSz_of, 
    fApp_ok, fIns0_ok, fExt_lst, fExt_tup, List.map_cons, List.map_nil, List.length_cons, List.length_nil, List.length_map, List.nil_append, List.cons_append, List.getElem?_cons_zero, Option.getD_some, Nat.reduceAdd, 
    Nat.reduceLeDiff, Nat.reduceLT, Nat.reduceEqDiff, Nat.zero_le, ↓reduceIte, if_true, if_false, true_and, and_true, and_self, Bool.not_true, Bool.not_false, Bool.and_self, Bool.true_and, decide_true, decide_false, 
    cast0, cast1, Int.cast_ofNat_Int, eq_self, Int.reduceEq, Int.reduceLT, Int.reduceLE, Int.reduceAdd, Int.reduceNeg, Int.reduceSub, $ls,*])
-- W end
/-! P13: classes turned about; lines as the law walks them -/
namespace WK
open PySem L2 EE
def dctB : D → Bool
  | .dct _ => true
  | _ => false
theorem e_turn_flat (k : Nat) {d : D} (h1 : dctB d = false) (h2 : insD d = false) : Tb (k + 2) 42 [.imm d] = .ok (.imm d) [.non] := by
  refine fn_e (tb__law_turned k) (ds := [d]) rfl ?_
  unfold b__law_turned
  cases d <;> first | (cases h1; done) | (cases h2; done) | simp? [List.append_nil, List.replicate]
theorem fListAll_dct {kvs : List (L2.Key × D)} : fListAll [.dct kvs] = some (.lst (kvs.map fun p => keyV p.1)) := rfl
theorem e_turn_ms (k : Nat) {ms : List (Str × Str)} (nd : (ms.map (·.1)).Nodup) (hl : ms.length ≤ 1000) : Tb (k + 2) 42 [.imm (.dct (kD .str ms))] = .ok (.dct (kD .str ms.reverse)) [.non] := by
  refine fn_e (tb__law_turned k) (ds := [.dct (kD .str ms)]) rfl ?_
  unfold b__law_turned
  simp? [List.append_nil, List.replicate, fListAll_dct, List.map_map, ← List.map_reverse]
  refine run_forM (fun pre ρ => ∃ x y z, ρ = [.imm (.dct (kD .str ms)), .dct (kD .str pre), x, y, z]) ⟨_, _, _, rfl⟩ (fun pre p post ρ e i => ?_) (fun ρ i => ?_)
  · obtain ⟨x, y, z, rfl⟩ := i
    have hp : p ∈ ms := List.mem_reverse.mp (by rw [e]; simp)
    have e1 : lk ms p.1 = some p.2 := lk_of_mem nd hp
    have hn : p.1 ∉ pre.map (·.1) := by
      have nd := ((List.reverse_perm (ms.map (·.1))).nodup_iff).mpr nd
      rw [← List.map_reverse, e, List.map_append, List.map_cons] at nd
      intro hm
      exact (List.nodup_append.mp nd).2.2 _ hm _ List.mem_cons_self rfl
    have hlen : ms.reverse.length = pre.length + (post.length + 1) := by rw [e]; simp
    have hz : pre.length ≤ 1000000 := by simp at hlen; omega
    simp? [Function.comp, keyV, valD_kD, e1, Option.map_some, hz]
    rw [putD_kD, pt_new hn]
    exact ⟨_, _, _, rfl⟩
  · obtain ⟨x, y, z, rfl⟩ := i
    simp? []
def Cl.turn (c : Cl) : Cl := { c with ms := c.ms.reverse }
def turnC (cs : Cs) : Cs := (cs.map fun p => (p.1, p.2.turn)).reverse
theorem e_turn_cs (k : Nat) {cs : Cs} (wf : WF cs) : Tb (k + 3) 42 [.imm (csD cs)] = .ok (.dct (kD Cl.d (turnC cs))) [.non] := by
  refine fn_e (tb__law_turned (k + 1)) (ds := [csD cs]) rfl ?_
  unfold b__law_turned
  have hlen := wf.len
  simp? [List.append_nil, List.replicate, csD, fListAll_dct, List.map_map, ← List.map_reverse]
  refine run_forM (fun pre ρ => ∃ x y, ρ = [.imm (csD cs), .dct (kD Cl.d (pre.map fun p => (p.1, p.2.turn))), x, y, .non]) ⟨_, _, rfl⟩ (fun pre p post ρ e i => ?_) (fun ρ i => ?_)
  · obtain ⟨x, y, rfl⟩ := i
    have hp : p ∈ cs := List.mem_reverse.mp (by rw [e]; simp)
    have e1 : lk cs p.1 = some p.2 := lk_of_mem wf.nd hp
    have r := wf.row p hp
    have hn : p.1 ∉ (pre.map fun p => (p.1, p.2.turn)).map (·.1) := by
      have nd := ((List.reverse_perm (cs.map (·.1))).nodup_iff).mpr wf.nd
      rw [← List.map_reverse, e, List.map_append, List.map_cons] at nd
      intro hm
      rw [List.map_map] at hm
      exact (List.nodup_append.mp nd).2.2 _ hm _ List.mem_cons_self rfl
    have hl2 : cs.reverse.length = pre.length + (post.length + 1) := by rw [e]; simp
    have hz : pre.length ≤ 1000000 := by simp at hl2; omega
    have t1 : Tb (k + 2) 42 [.imm (optD p.2.par)] = .ok (.imm (optD p.2.par)) [.non] := by
      cases p.2.par <;> exact e_turn_flat k rfl rfl
    have t2 : Tb (k + 2) 42 [.imm (.int p.2.lev)] = .ok (.imm (.int p.2.lev)) [.non] := e_turn_flat k rfl rfl
    have t3 : Tb (k + 2) 42 [.imm (.tup (p.2.own.map .str))] = .ok (.imm (.tup (p.2.own.map .str))) [.non] := e_turn_flat k rfl rfl
    have t4 : Tb (k + 2) 42 [.imm (.dct (kD .str p.2.ms))] = .ok (.dct (kD .str p.2.ms.reverse)) [.non] := e_turn_ms k r.mks (by have := r.msl; omega)
    simp? [Function.comp, keyV, csD, valD_kD, e1, Option.map_some, hz, Cl.d, wipeR, backR, cl_consD, cl_nilD, t1, t2, t3, t4]
    refine ⟨by rfl, ?_⟩
    have e2 : D.tup [optD p.2.par, .int p.2.lev, .tup (p.2.own.map .str), .dct (kD .str p.2.ms.reverse)] = p.2.turn.d := rfl
    rw [e2]
    have e3 : (fun c : Cl => D.tup [optD c.par, .int c.lev, .tup (c.own.map .str), .dct (kD .str c.ms)]) = Cl.d := rfl
    try rw [e3]
    rw [putD_kD, pt_new hn]
    exact ⟨_, _, by rw [List.map_append]; rfl⟩
  · obtain ⟨x, y, rfl⟩ := i
    simp? []
    unfold turnC
    rw [List.map_reverse]
theorem lk_turn {cs : Cs} (nd : (cs.map (·.1)).Nodup) {n : Str} : lk (turnC cs) n = (lk cs n).map Cl.turn := by
  unfold turnC
  rw [lk_reverse, lk_map]
  rw [List.map_map]
  exact nd
theorem keys_turn {cs : Cs} {n : Str} : n ∈ (turnC cs).map (·.1) ↔ n ∈ cs.map (·.1) := by
  unfold turnC
  simp
theorem line_turn {cs : Cs} (nd : (cs.map (·.1)).Nodup) {o : Option Str} {l : List Str} (h : Line cs o l) : Line (turnC cs) o l := by
  refine h.mono fun n c e => ⟨c.turn, ?_, rfl⟩
  rw [lk_turn nd, e]
  rfl
theorem fields_turn {cs : Cs} (nd : (cs.map (·.1)).Nodup) {l : List Str} : fieldsL (turnC cs) l = fieldsL cs l := by
  unfold fieldsL
  congr 1
  funext n
  unfold ownOf
  rw [lk_turn nd]
  cases lk cs n <;> rfl
theorem wf_turn {cs : Cs} (wf : WF cs) : WF (turnC cs) := by
  refine ⟨?_, ?_, fun p hp => ?_, fun p hp => ?_, fun n hn => ?_⟩
  · unfold turnC
    rw [List.map_reverse, List.map_map]
    exact ((List.reverse_perm _).nodup_iff).mpr wf.nd
  · unfold turnC
    simp
    exact wf.len
  · unfold turnC at hp
    obtain ⟨q, hq, rfl⟩ := List.mem_map.mp (List.mem_reverse.mp hp)
    exact wf.nm q hq
  · unfold turnC at hp
    obtain ⟨q, hq, rfl⟩ := List.mem_map.mp (List.mem_reverse.mp hp)
    have r := wf.row q hq
    refine ⟨fun x hx => ⟨(r.par x hx).1, keys_turn.mpr (r.par x hx).2⟩, r.lev, r.own, ?_, fun x hx => r.ms x (List.mem_reverse.mp hx), ?_⟩
    · show q.2.ms.reverse.length ≤ 2
      rw [List.length_reverse]; exact r.msl
    · show (q.2.ms.reverse.map (·.1)).Nodup
      rw [List.map_reverse]
      exact ((List.reverse_perm _).nodup_iff).mpr r.mks
  · obtain ⟨l, h1, h2, h3, h4⟩ := wf.line n (keys_turn.mp hn)
    exact ⟨l, line_turn wf.nd h1, h2, by rw [fields_turn wf.nd]; exact h3, by rw [fields_turn wf.nd]; exact h4⟩
theorem e_law_line (k : Nat) {cs : Cs} {n : Str} {l : List Str} (hL : Line cs (some n) l) (hl : l.length ≤ 6) : Tb (k + 2) 45 [.imm (csD cs), .imm (.str n)] = .ok (.lst (l.map .str)) [.non, .non] := by
  refine fn_e (tb__law_line k) (ds := [csD cs, .str n]) rfl ?_
  unfold b__law_line
  have e7 : rng1 (.int 7) = some ((List.range 7).map fun (i : Nat) => D.int (0 + i)) := rng1_nat (n := 7) (by decide)
  simp? [List.append_nil, List.replicate, e7]
  refine run_forM (fun pre ρ => ∃ done rest o' x, l = done ++ rest ∧ Line cs o' rest ∧ (rest = [] ∨ done.length = pre.length) ∧ ρ = [.imm (csD cs), .imm (optD o'), .lst (done.map .str), x]) ⟨[], l, some n, _, rfl, hL, .inr rfl, rfl⟩ (fun pre i post ρ e ih => ?_) (fun ρ i => ?_)
  · obtain ⟨done, rest, o', x, e1, h, hd, rfl⟩ := ih
    cases h with
    | nil =>
      simp? [optD]
      exact ⟨done, [], none, _, e1, .nil, .inl rfl, rfl⟩
    | @cons m c rest h t =>
      have hz : (done.map D.str).length ≤ 1000000 := by
        have : l.length = done.length + (rest.length + 1) := by rw [e1]; simp
        simp; omega
      simp? [optD, fApp_ok hz, csD, valD_kD, h, Option.map_some, Cl.d]
      refine ⟨done ++ [m], rest, c.par, _, by rw [e1]; simp, t, .inr ?_, by rw [List.map_append]; rfl⟩
      rcases hd with hd | hd
      · cases hd
      · simp [hd]
  · obtain ⟨done, rest, o', x, e1, h, hd, rfl⟩ := i
    have hr : rest = [] := by
      rcases hd with hd | hd
      · exact hd
      · rw [List.length_range] at hd
        have : l.length = done.length + rest.length := by rw [e1]; simp
        omega
    subst hr
    simp? []
    rw [e1]; simp
end WK
end

section
set_option Elab.async false
set_option linter.all false
set_option maxRecDepth 100000
set_option maxHeartbeats 4000000
open PySem L2 EE
-- W begin
local macro_rules | `(tactic| simp? [$ls,*]) => `(tactic| simp only [
    ↓run_pure, ↓run_bind, ↓run_of, ↓run_bad, ↓run_ite, ↓run_var, ↓run_take, ↓run_pk, ↓run_isL, ↓run_isDc, ↓run_mLst, ↓run_store, ↓run_meth, ↓run_putK, ↓run_frz, ↓run_put, ↓run_seq, ↓run_if, ↓run_ifE, ↓run_nx, 
    ↓run_then, ↓run_drop, ↓run_ret, ↓run_retO, ↓run_set, ↓run_setO, ↓run_asg, ↓ru_tup, ↓runU_stop, ↓run_tst, ↓run_notB, ↓run_and, ↓run_or, ↓run_andV, ↓run_orV, ↓run_notV, ↓run_ch, ↓run_m2, ↓run_m1, ↓run_mN, 
    ↓run_oLst, ↓run_ixO, ↓run_fz, ↓run_fzO, ↓run_disp, ↓run_aug, ↓ru_for, ↓run_raise1, ↓ru_call, ↓run_ag, ↓callP_v1, ↓callP_v2, ↓callP_v3, ↓callP_v4, ↓callP_o0, ↓callP_o1, ↓callP_o2, ↓callP_o3, ↓callP_1o, 
    ↓callP_3o, ↓run_comp, ↓run_oComp, ↓run_compD, ↓run_dcompD, ↓run_forD, ↓run_fldI, ↓run_putF, ↓run_self, ↓stop_forM, ↓stop_while, ↓stop_compM, ↓stop_dcompM, ↓stop_make, ↓stop_try, ↓stop_xf, ↓stop_potNew, 
    ↓onR_stop, ↓onS_stop, ↓onI_stop, ↓onT_stop, ↓onA_stop, ↓onL_stop, ↓onK_stop, ↓onB_stop, ↓onO_stop, ↓onN_stop, ↓onF_nx, ↓onF_rt, ↓onF_bk, ↓onF_ct, ↓onLp_nx, ↓onLp_ct, ↓onLp_bk, ↓onLp_rt, ↓retP_rt, ↓retP_nx, 
    ↓pt0, ↓pt1, ↓pt2, ↓pt3, ↓pt4, ↓pt5, ↓pt6, ↓pt7, ↓pt8, ↓pt9, ↓pt10, ↓pt11, ↓pt12, ↓pt13, ↓pt14, ↓pt15, ↓pt16, ↓pt17, ↓at0, ↓at1, ↓at2, ↓at3, ↓at4, ↓at5, ↓at6, ↓at7, ↓at8, ↓at9, ↓at10, ↓at11, ↓at12, ↓at13, 
    ↓at14, ↓at15, ↓at16, ↓at17, ↓st0, ↓st1, ↓st2, ↓st3, ↓st4, ↓st5, ↓st6, ↓st7, ↓st8, ↓st9, ↓st10, ↓st11, ↓st12, ↓st13, ↓st14, ↓st15, ↓st16, ↓st17, ↓sv0, ↓sv1, ↓sv2, ↓sv3, ↓sv4, ↓sv5, ↓sv6, ↓sv7, ↓sv8, ↓sv9, 
    ↓sv10, ↓sv11, ↓sv12, ↓sv13, ↓sv14, ↓sv15, ↓sv16, ↓sv17, onRD_ok, onRD_exc, onSD_some, onID_imm, onTD_imm, onTD_lst, onTD_dct, onTD_pot, onTD_obj, onAD_some, onLD_lst, onKD_dct, onBD_true, onBD_false, onBD_not, 
    onOD_obj, onND_lst, onND_dct, onND_pot, onND_obj, runUD_bind, runUD_pure, isBl_bl, frzD_imm, frzD_lst, frzD_dct, frzS_imm, frzS_lst, frzS_dct, frzO_obj, frzO_imm, fvS_imm, fvS_lst, fvS_dct, pkD_imm, pkD_lst, 
    pkD_dct, bind_some', itD_lst, itD_tup, itD_str, enD_lst, enD_tup, revD_lst, starD_tup, starD_lst, seqD_tup, seqD_lst, keyD_str, keyD_int, wkD_keys, wkD_vals, wkD_items, fTupOf_lst, fTupOf_tup, fDctOf_dct, 
    fListAll_lst, fListAll_tup, fLen_tup, fLen_lst, fLen_dct, fAbs_int, fInt_int, fLt_int, fLe_int, fGt_int, fGe_int, fSub_int, fAdd_int, fAddN_int, fNeg_int, fPop0_ok, isN_non, notN_non, isN_bl, notN_bl, 
    isN_int, notN_int, isN_str, notN_str, isN_tup, notN_tup, isN_lst, notN_lst, isN_dct, notN_dct, isN_ins, notN_ins, isi_int_non, isi_int_bl, isi_int_int, isi_int_str, isi_int_tup, isi_int_lst, isi_int_dct, 
    isi_bool_non, isi_bool_bl, isi_bool_int, isi_bool_str, isi_bool_tup, isi_bool_lst, isi_bool_dct, isi_str_non, isi_str_bl, isi_str_int, isi_str_str, isi_str_tup, isi_str_lst, isi_str_dct, isi_tuple_non, 
    isi_tuple_bl, isi_tuple_int, isi_tuple_str, isi_tuple_tup, isi_tuple_lst, isi_tuple_dct, isi_list_non, isi_list_bl, isi_list_int, isi_list_str, isi_list_tup, isi_list_lst, isi_list_dct, isi_dict_non, isi_dict_bl, 
    isi_dict_int, isi_dict_str, isi_dict_tup, isi_dict_lst, isi_dict_dct, fIx_tup, fIx_lst, fIx_dctS, fIx_dctI, fIy_tup, fIy_lst, fIy_dctS, fGet_S, isDD_dct, ix0, ix1, ix2, ix3, ix4, ix5, ix6, ix7, eqX_non, 
    eqX_int, neX_int, inDct_S, ninDct_S, inTb_f, inTb_t, ixTb_s, in_tupS, nin_tupS, in_lstS, nin_lstS, fAll_map, fAny_map, sIx, ks_nil, ks_non, ks_imm, ks_lst, ks_dct, ks_pot, ks_obj, fTup_ok, fLst_ok, okSz_of, 
    fApp_ok, fIns0_ok, fExt_lst, fExt_tup, List.map_cons, List.map_nil, List.length_cons, List.length_nil, List.length_map, List.nil_append, List.cons_append, List.getElem?_cons_zero, Option.getD_some, Nat.reduceAdd, 
    Nat.reduceLeDiff, Nat.reduceLT, Nat.reduceEqDiff, Nat.zero_le, ↓reduceIte, if_true, if_false, true_and, and_true, and_self, Bool.not_true, Bool.not_false, Bool.and_self, Bool.true_and, decide_true, decide_false, 
    cast0, cast1, Int.cast_ofNat_Int, eq_self, Int.reduceEq, Int.reduceLT, Int.reduceLE, Int.reduceAdd, Int.reduceNeg, Int.reduceSub, $ls,*])
-- W end
/-! P14: refused names -/
namespace WK
open PySem L2 EE
theorem m_nn : m_NoName.lookup ("NoName" : Str) = some true := by kernel_rfl
theorem x_nn : ("NoName" : Str) ∈ x_name := by decide +kernel
theorem f_nn {d : D} : ([("name", d)] : List (Str × D)).lookup ("name" : Str) = some d := by kernel_rfl
theorem e_refused_in (k : Nat) {cs : Cs} (wf : WF cs) {n : Str} (hn : n ∈ cs.map (·.1)) : Tb (k + 5) 46 [.imm (PD cs), .imm (.str n)] = .ok (.lst []) [.non, .non] := by
  refine fn_e (tb__law_refused (k + 3)) (ds := [PD cs, .str n]) rfl ?_
  unfold b__law_refused
  obtain ⟨l, hL, _⟩ := wf.line n hn
  simp? [List.append_nil, List.replicate]
  refine run_tryAs ?_
  simp? [e_fields_of (k + 1) wf hL hn]
  refine run_tryAs ?_
  simp? [e_method_of (k + 1) wf hL hn (m := "a") (by decide +kernel)]
theorem e_refused_no (k : Nat) {cs : Cs} (wf : WF cs) {d : D} (hi : insD d = false) (hz : ∀ s, d = .str s → s.length ≤ 1000000) (hc : clsB cs d = false) : Tb (k + 5) 46 [.imm (PD cs), .imm d] = .ok (.lst [d, d]) [.non, .non] := by
  refine fn_e (tb__law_refused (k + 3)) (ds := [PD cs, d]) rfl ?_
  unfold b__law_refused
  simp? [List.append_nil, List.replicate]
  refine run_tryAs ?_
  simp? [x_fields_of (k + 1) wf hi hz hc, m_nn]
  refine ⟨rfl, by decide, ?_⟩
  simp? []
  refine ⟨rfl, run_tryAs ?_⟩
  simp? [x_method_of (k + 1) wf hi hz hc, m_nn]
  refine ⟨rfl, rfl, rfl, ?_⟩
  simp? []
theorem letters_ok : (c_LETTERS.cps.toList.all fun c => decide (c < 0x110000)) = true := by decide +kernel
theorem nameB_ok {s : Str} (h : nameB s = true) : PyData.strOk s = true := by
  have h3 : s.cps.toList.all letterB = true := by
    unfold nameB at h
    exact (Bool.and_eq_true_iff.mp (Bool.and_eq_true_iff.mp h).2).2
  unfold PyData.strOk
  rw [← Array.all_toList, List.all_eq_true]
  intro c hc
  have hl := List.all_eq_true.mp h3 c hc
  have hl := of_decide_eq_true hl
  exact List.all_eq_true.mp letters_ok c hl
/-- the function of the nearest class of a line that has the method -/
def havL (cs : Cs) (m : Str) (l : List Str) : List Str := l.filter fun a => (lk (msOf cs a) m).isSome
theorem lk_foldl : ∀ (ms : List (Str × Str)) (acc : List (Str × Str)) (m : Str), (ms.map (·.1)).Nodup → lk (ms.foldl (fun a p => pt a p.1 p.2) acc) m = (lk ms m).or (lk acc m)
  | [], acc, m, _ => by simp [lk_nil]
  | p :: ms, acc, m, nd => by
    rw [List.map_cons, List.nodup_cons] at nd
    rw [List.foldl_cons, lk_foldl ms _ m nd.2, lk_pt, lk_cons]
    by_cases h : p.1 = m
    · rw [if_pos h, if_pos h, lk_none.mpr (h ▸ nd.1)]; rfl
    · rw [if_neg h, if_neg h]
theorem ms_nodup {cs : Cs} (wf : WF cs) (a : Str) : ((msOf cs a).map (·.1)).Nodup := by
  unfold msOf
  cases e : lk cs a with
  | none => simp
  | some c => exact (wf.row (a, c) (lk_mem e)).mks
theorem lk_methods {cs : Cs} (wf : WF cs) (m : Str) : ∀ l : List Str, lk (methodsL cs l.reverse) m = (havL cs m l).head?.bind fun a => lk (msOf cs a) m
  | [] => rfl
  | a :: l => by
    have e : methodsL cs (a :: l).reverse = (msOf cs a).foldl (fun a p => pt a p.1 p.2) (methodsL cs l.reverse) := by
      rw [List.reverse_cons]
      unfold methodsL
      rw [List.foldl_append]
      rfl
    rw [e, lk_foldl _ _ _ (ms_nodup wf a), lk_methods wf m l]
    unfold havL
    rw [List.filter_cons]
    cases h : lk (msOf cs a) m with
    | none => simp
    | some f => simp [h]
theorem msOf_at {cs : Cs} {a : Str} {c : Cl} (h : lk cs a = some c) : msOf cs a = c.ms := by unfold msOf; rw [h]
theorem ownOf_at {cs : Cs} {a : Str} {c : Cl} (h : lk cs a = some c) : ownOf cs a = c.own := by unfold ownOf; rw [h]
theorem fields_ok {cs : Cs} (wf : WF cs) (l : List Str) : ∀ x ∈ fieldsL cs l, PyData.strOk x = true := by
  intro x hx
  unfold fieldsL at hx
  obtain ⟨n, _, hn⟩ := List.mem_flatMap.mp hx
  unfold ownOf at hn
  cases e : lk cs n with
  | none => rw [e] at hn; cases hn
  | some c => rw [e] at hn; exact nameB_ok ((wf.row (n, c) (lk_mem e)).own.2.1 x hn)
theorem e_right (k : Nat) {cs : Cs} (wf : WF cs) {ms : List Str} (hm : ∀ m ∈ ms, nameB m = true) (hml : ms.length ≤ 1000) : Tb (k + 5) 47 [.imm (PD cs), .imm (csD cs), .imm (.lst (ms.map .str))] = .ok (.imm (.bl true)) [.non, .non, .non] := by
  refine fn_e (tb__law_right (k + 3)) (ds := [PD cs, csD cs, .lst (ms.map .str)]) rfl ?_
  unfold b__law_right
  have hlen := wf.len
  simp? [List.append_nil, List.replicate, csD, List.map_map]
  refine run_forM (fun pre ρ => ∃ x3 x4 x5 x7 x8 x9, ρ = [.imm (PD cs), .imm (csD cs), .imm (.lst (ms.map .str)), x3, x4, x5, .non, x7, x8, x9] ∨ ∃ x6 : D, ρ = [.imm (PD cs), .imm (csD cs), .imm (.lst (ms.map .str)), x3, x4, x5, .imm x6, x7, x8, x9]) ⟨_, _, _, _, _, _, .inl rfl⟩ (fun pre p post ρ e i => ?_) (fun ρ i => ?_)
  · have hp : p ∈ cs := by rw [e]; simp
    have hk : p.1 ∈ cs.map (·.1) := List.mem_map.mpr ⟨p, hp, rfl⟩
    obtain ⟨l, hL, nd, f4, fn⟩ := wf.line p.1 hk
    have hl6 : l.length ≤ 6 := by
      have := nodup_len l _ nd fun n hn => hL.mem n hn
      simp at this; omega
    have at_ : ∀ a ∈ l, ∃ c, lk cs a = some c := fun a ha => by
      cases h : lk cs a with
      | none => exact absurd (hL.mem a ha) (lk_none.mp h)
      | some c => exact ⟨c, rfl⟩
    obtain ⟨x3, x4, x5, x7, x8, x9, x6, hx6, rfl⟩ : ∃ x3 x4 x5 x7 x8 x9 x6, plainS x6 = true ∧ ρ = [.imm (PD cs), .imm (csD cs), .imm (.lst (ms.map .str)), x3, x4, x5, x6, x7, x8, x9] := by
      obtain ⟨x3, x4, x5, x7, x8, x9, i | ⟨x6, i⟩⟩ := i
      · exact ⟨_, _, _, _, _, _, .non, rfl, i⟩
      · exact ⟨_, _, _, _, _, _, .imm x6, rfl, i⟩
    simp? [Function.comp, keyV, e_law_line (k + 2) hL hl6]
    refine run_forM (fun pre ρ => ∃ x6, plainS x6 = true ∧ ρ = [.imm (PD cs), .imm (csD cs), .imm (.lst (ms.map .str)), .imm (.str p.1), .imm (.lst (l.map .str)), .imm (tupS (fieldsL cs pre.reverse)), x6, x7, x8, x9]) ⟨_, hx6, rfl⟩ (fun pre a post ρ e2 i => ?_) (fun ρ i => ?_)
    · obtain ⟨x6, hx6, rfl⟩ := i
      obtain ⟨c, hc⟩ := at_ a (by rw [e2]; simp)
      have ef : fieldsL cs (pre ++ [a]).reverse = c.own ++ fieldsL cs pre.reverse := by
        rw [List.reverse_append]
        unfold fieldsL
        simp [ownOf_at hc]
      have hz : (c.own.map D.str).length + ((fieldsL cs pre.reverse).map D.str).length ≤ 1000000 := by
        have e3 : fieldsL cs l.reverse = fieldsL cs post.reverse ++ (c.own ++ fieldsL cs pre.reverse) := by
          rw [e2, List.reverse_append, List.reverse_cons]
          unfold fieldsL
          simp [ownOf_at hc]
        rw [e3] at f4
        simp at f4 ⊢; omega
      simp? [csD, valD_kD, hc, Option.map_some, Cl.d, fAdd_tup hz]
      exact ⟨_, rfl, by rw [ef, tupS, List.map_append]⟩
    · obtain ⟨x6, hx6, rfl⟩ := i
      simp? [e_fields_of (k + 1) wf hL hk, neX_tupS (fields_ok wf l.reverse) (fields_ok wf l.reverse)]
      refine run_forM (fun pre ρ => ∃ x7 x8 x9, ρ = [.imm (PD cs), .imm (csD cs), .imm (.lst (ms.map .str)), .imm (.str p.1), .imm (.lst (l.map .str)), .imm (tupS (fieldsL cs l.reverse)), x6, x7, x8, x9]) ⟨_, _, _, rfl⟩ (fun pre m post ρ e3 i => ?_) (fun ρ i => ?_)
      · obtain ⟨x7, x8, x9, rfl⟩ := i
        have hmm := hm m (by rw [e3]; simp)
        simp? []
        refine ⟨by simp [plainAt, hx6], run_compM (fun a => (lk (msOf cs a) m).isSome) (fun a => D.str a) (fun a ha => ?_) ?_ (by omega)⟩
        · obtain ⟨c, hc⟩ := at_ a ha
          simp? [csD, valD_kD, hc, Option.map_some, Cl.d, Option.isSome_map, msOf_at hc, wipeR]
          refine onB_i (fun h => ?_) (fun h => ?_)
          · simp? [wipeR]
          · simp? [wipeR]
        · have hv := lk_methods wf m l
          have eh : (l.filter fun a => (lk (msOf cs a) m).isSome) = havL cs m l := rfl
          rw [eh]
          simp? [wipeR, backR, e_method_of (k + 1) wf hL hk hmm, hv]
          cases hh : havL cs m l with
          | nil =>
            simp? [optD, List.head?_nil, Option.bind_none]
            exact ⟨_, _, _, rfl⟩
          | cons a r =>
            have ha : a ∈ havL cs m l := by rw [hh]; exact List.mem_cons_self
            obtain ⟨ha, hs⟩ := List.mem_filter.mp ha
            obtain ⟨c, hc⟩ := at_ a ha
            have h0 : ¬ ((r.length : Int) + 1 = 0) := by omega
            have h1 : (0 : Int) < (r.length : Int) + 1 := by omega
            obtain ⟨f, hf⟩ := Option.isSome_iff_exists.mp hs
            have hok : PyData.strOk f = true := by
              rw [msOf_at hc] at hf
              exact nameB_ok (name_fgh ((wf.row (a, c) (lk_mem hc)).ms (m, f) (lk_mem hf)).2)
            have hf2 : lk c.ms m = some f := by rw [← msOf_at hc]; exact hf
            simp? [optD, List.head?_cons, bind_some', hf, hf2, csD, valD_kD, hc, Option.map_some, Cl.d, Int.natCast_add, h0, h1, neX_str hok hok]
            exact ⟨_, _, _, rfl⟩
      · obtain ⟨x7, x8, x9, rfl⟩ := i
        simp? []
        cases x6 with
        | non => exact ⟨_, _, _, _, _, _, .inl rfl⟩
        | imm d => exact ⟨_, _, _, _, _, _, .inr ⟨d, rfl⟩⟩
        | _ => cases hx6
  · obtain ⟨x3, x4, x5, x7, x8, x9, rfl | ⟨x6, rfl⟩⟩ := i
    · simp? []
    · simp? []
end WK
end

section
set_option Elab.async false
set_option linter.all false
set_option maxRecDepth 100000
set_option maxHeartbeats 4000000
/-! P15: the law -/
namespace WK
open PySem L2 EE
theorem wk_cs {cs : Cs} : wkD .keys (csD cs) = some (cs.map fun p => D.str p.1) := by
  show some ((kD Cl.d cs).map _) = _
  rw [List.map_map]
  rfl
theorem ix_cs {cs : Cs} {n : Str} : fIx (csD cs) (.str n) = (lk cs n).map Cl.d := by
  show fIx (.dct (kD Cl.d cs)) (.str n) = _
  rw [fIx_dctS, valD_kD]
theorem in_cs {cs : Cs} {n : Str} : fIn (.str n) (csD cs) = some (.bl (decide (n ∈ cs.map (·.1)))) := by
  show fIn (.str n) (.dct (kD Cl.d cs)) = _
  rw [inDct_S, valD_kD, Option.isSome_map, lk_isSome]
theorem cs_fold {cs : Cs} : D.dct (kD Cl.d cs) = csD cs := rfl
theorem keysS_kD {g : Str → D} : ∀ ms : List (Str × Str), keysS (kD g ms) = some (ms.map (·.1))
  | [] => rfl
  | p :: ms => by
    show keysS ((.inr p.1, g p.2) :: kD g ms) = _
    unfold keysS
    rw [keysS_kD ms]
    rfl
theorem sorted_kD {ms : List (Str × Str)} (h : ms.length < 64) : fSorted [.dct (kD .str ms)] = some (.lst ((sortS (ms.map (·.1))).map .str)) := by
  show (none : Option D).or ((keysS (kD .str ms)).bind fun xs => if xs.length < 64 then some (D.lst ((sortS xs).map .str)) else none) = _
  rw [keysS_kD]
  simp [h]
theorem mrg : mergeD [] [(.inr "f", .tup [.tup [.str "a"], .int 1, .tup []]), (.inr "g", .tup [.tup [.str "a", .str "b"], .int 2, .tup []]), (.inr "h", .tup [.tup [.str "x"], .int 2, .tup [.tup [.str "return", .str "x"]]])] = fnK := by kernel_rfl
structure OddP (d : D) : Prop where
  ni : insD d = false
  sz : ∀ s, d = .str s → s.length ≤ 1000000
  ne : fNeX (.lst [d, d]) (.lst [d, d]) = some (.bl false)
theorem odd_str {s : Str} (h : nameB s = true) : OddP (.str s) := by
  have hk := nameB_ok h
  have sh : SeqAt.shaped (.list [.str s, .str s]) = true := by
    unfold SeqAt.shaped
    simp [PyData.canLay0, PyData.canLayAll0, PyData.depth, PyData.depthAll, hk]
  refine ⟨rfl, fun s' e => by cases e; have := nameB_len h; omega, ?_⟩
  rw [neX_of (x := .list [.str s, .str s]) (y := .list [.str s, .str s]) rfl rfl sh sh]
  simp [PyData.eqv, PyData.eqvAll]
def strB : D → Bool
  | .str _ => true
  | _ => false
theorem isi_str_gen {d : D} {c : List Str} (h : insD d = false) : fIsi "str" c d = some (.bl (strB d)) := by
  cases d <;> first | rfl | cases h
theorem ne_nil : fNeX (.lst []) (.lst []) = some (.bl false) := by kernel_rfl
def lawB (T T' : Nat → Fn) : M Fl := (mSeq (mSet 8 (mFzO (mMake "Program" 4 (T' 49) (((M.pure (.dct [])).bind fun d => M.pure (.v d)).bind fun d => (((mVar 4).bind fun d => M.pure (.v d)).bind fun d => (((mVar 3).bind fun d => M.pure (.v d)).bind fun d => (M.pure []).bind fun ds => M.pure (d :: ds)).bind fun ds => M.pure (d :: ds)).bind fun ds => M.pure (d :: ds)))))
    (mSeq (mSet 9 (mFzO (mMake "Program" 4 (T' 49) (((M.pure (.dct [])).bind fun d => M.pure (.v d)).bind fun d => (((mVar 5).bind fun d => M.pure (.v d)).bind fun d => (((mVar 3).bind fun d => M.pure (.v d)).bind fun d => (M.pure []).bind fun ds => M.pure (d :: ds)).bind fun ds => M.pure (d :: ds)).bind fun ds => M.pure (d :: ds)))))
    (mSeq (mFor ((M.pure (.int 2)).bind fun d => M.of (rng1 d)) (fun d => mPut 10 (.imm d)) (mFrz 6 (mIf (mOr (mNotB (mTst (mFz (mCall 3 (T 47) (((mVar 8).bind fun d => M.pure (.v d)).bind fun d => (((mVar 4).bind fun d => M.pure (.v d)).bind fun d => (((mVar 6).bind fun d => M.pure (.v d)).bind fun d => (M.pure []).bind fun ds => M.pure (d :: ds)).bind fun ds => M.pure (d :: ds)).bind fun ds => M.pure (d :: ds)))))) (mNotB (mTst (mFz (mCall 3 (T 47) (((mVar 9).bind fun d => M.pure (.v d)).bind fun d => (((mVar 5).bind fun d => M.pure (.v d)).bind fun d => (((mVar 6).bind fun d => M.pure (.v d)).bind fun d => (M.pure []).bind fun ds => M.pure (d :: ds)).bind fun ds => M.pure (d :: ds)).bind fun ds => M.pure (d :: ds))))))) (mRet (M.pure (.bl false))) mNx)))
    (mSeq (mSetO 11 (mOLst ((M.pure .non).bind fun d => ((M.pure (.bl true)).bind fun d => ((M.pure (.int 0)).bind fun d => ((M.pure (.str "")).bind fun d => ((M.pure (.str "A")).bind fun d => ((M.pure (.str "abcdefghi")).bind fun d => ((M.pure (.str "word")).bind fun d => ((M.pure (.str "f")).bind fun d => ((mN fTup (M.pure [])).bind fun d => ((mN fTup ((M.pure (.str "a")).bind fun d => (M.pure []).bind fun ds => M.pure (d :: ds))).bind fun d => ((mN fLst (M.pure [])).bind fun d => ((M.pure (.dct [])).bind fun d => ((M.pure (.str "nothing")).bind fun d => ((mFz (mCall 1 (T 41) ((mAg 1).bind fun d => (M.pure []).bind fun ds => M.pure (d :: ds)))).bind fun d => (M.pure []).bind fun ds => M.pure (d :: ds)).bind fun ds => M.pure (d :: ds)).bind fun ds => M.pure (d :: ds)).bind fun ds => M.pure (d :: ds)).bind fun ds => M.pure (d :: ds)).bind fun ds => M.pure (d :: ds)).bind fun ds => M.pure (d :: ds)).bind fun ds => M.pure (d :: ds)).bind fun ds => M.pure (d :: ds)).bind fun ds => M.pure (d :: ds)).bind fun ds => M.pure (d :: ds)).bind fun ds => M.pure (d :: ds)).bind fun ds => M.pure (d :: ds)).bind fun ds => M.pure (d :: ds))))
    (mSeq (mDrop (mMeth 11 fExt ((mN fLst ((M.pure (.str "a1")).bind fun d => ((M.pure (.str "a_b")).bind fun d => ((M.pure (.str "1")).bind fun d => ((M.pure (.str "a\n")).bind fun d => ((M.pure (.str "-")).bind fun d => (M.pure []).bind fun ds => M.pure (d :: ds)).bind fun ds => M.pure (d :: ds)).bind fun ds => M.pure (d :: ds)).bind fun ds => M.pure (d :: ds)).bind fun ds => M.pure (d :: ds))).bind fun d => (M.pure []).bind fun ds => M.pure (d :: ds))))
    (mFrz 11 (mSeq (mFor ((mVar 11).bind fun d => M.of (itD d)) (fun d => mPut 12 (.imm d)) (mIf (mAnd (mTst (m1 (fIsi "str" cs) (mVar 12))) (mTst (m2 fIn (mVar 12) (mVar 4)))) (mIf (mTst (m2 fNeX (mFz (mCall 2 (T 46) (((mVar 8).bind fun d => M.pure (.v d)).bind fun d => (((mVar 12).bind fun d => M.pure (.v d)).bind fun d => (M.pure []).bind fun ds => M.pure (d :: ds)).bind fun ds => M.pure (d :: ds)))) (mN fLst (M.pure [])))) (mRet (M.pure (.bl false))) mNx) (mIf (mTst (m2 fNeX (mFz (mCall 2 (T 46) (((mVar 8).bind fun d => M.pure (.v d)).bind fun d => (((mVar 12).bind fun d => M.pure (.v d)).bind fun d => (M.pure []).bind fun ds => M.pure (d :: ds)).bind fun ds => M.pure (d :: ds)))) (mN fLst ((mVar 12).bind fun d => ((mVar 12).bind fun d => (M.pure []).bind fun ds => M.pure (d :: ds)).bind fun ds => M.pure (d :: ds))))) (mRet (M.pure (.bl false))) mNx)))
    (mSeq (mSet 13 (m2 fAdd (mFz (mCall 2 (T 46) (((mVar 8).bind fun d => M.pure (.v d)).bind fun d => (((M.pure (.bl true)).bind fun d => M.pure (.v d)).bind fun d => (M.pure []).bind fun ds => M.pure (d :: ds)).bind fun ds => M.pure (d :: ds)))) (mFz (mCall 2 (T 46) (((mVar 8).bind fun d => M.pure (.v d)).bind fun d => (((M.pure (.int 0)).bind fun d => M.pure (.v d)).bind fun d => (M.pure []).bind fun ds => M.pure (d :: ds)).bind fun ds => M.pure (d :: ds))))))
    (mRet (m2 fEqX (mN fLen ((mComp 14 ((mVar 13).bind fun d => M.of (itD d)) (fun d => mPut 12 (.imm d)) (mTst (m1 (fIsi "bool" cs) (mVar 12))) (mVar 12) [12]).bind fun d => (M.pure []).bind fun ds => M.pure (d :: ds))) (M.pure (.int 2))))))))))))
theorem stop_lawB {T T' : Nat → Fn} {ρ : List Slot} {Q : Fl → List Slot → Prop} {W : Exn → List Slot → Prop} : run (lawB T T') ρ Q W = runD (lawB T T') ρ Q W ⟨⟩ := propext Iff.rfl
def lawA (T T' : Nat → Fn) : M Fl := (mSeq (mSetO 1 (mCall 2 (T 39) (((mVar 0).bind fun d => M.pure (.v d)).bind fun d => (((M.pure (.int 0)).bind fun d => M.pure (.v d)).bind fun d => (M.pure []).bind fun ds => M.pure (d :: ds)).bind fun ds => M.pure (d :: ds))))
    (mSeq (mSet 2 (mFz (mCall 2 (T 40) ((mAg 1).bind fun d => (((M.pure (.int 2)).bind fun d => M.pure (.v d)).bind fun d => (M.pure []).bind fun ds => M.pure (d :: ds)).bind fun ds => M.pure (d :: ds)))))
    (mSeq (mSet 3 (mDisp ((mN fTup ((mN fTup ((M.pure (.str "a")).bind fun d => (M.pure []).bind fun ds => M.pure (d :: ds))).bind fun d => ((M.pure (.int 1)).bind fun d => ((mN fTup (M.pure [])).bind fun d => (M.pure []).bind fun ds => M.pure (d :: ds)).bind fun ds => M.pure (d :: ds)).bind fun ds => M.pure (d :: ds))).bind fun d => ((mN fTup ((mN fTup ((M.pure (.str "a")).bind fun d => ((M.pure (.str "b")).bind fun d => (M.pure []).bind fun ds => M.pure (d :: ds)).bind fun ds => M.pure (d :: ds))).bind fun d => ((M.pure (.int 2)).bind fun d => ((mN fTup (M.pure [])).bind fun d => (M.pure []).bind fun ds => M.pure (d :: ds)).bind fun ds => M.pure (d :: ds)).bind fun ds => M.pure (d :: ds))).bind fun d => ((mN fTup ((mN fTup ((M.pure (.str "x")).bind fun d => (M.pure []).bind fun ds => M.pure (d :: ds))).bind fun d => ((M.pure (.int 2)).bind fun d => ((mN fTup ((mN fTup ((M.pure (.str "return")).bind fun d => ((M.pure (.str "x")).bind fun d => (M.pure []).bind fun ds => M.pure (d :: ds)).bind fun ds => M.pure (d :: ds))).bind fun d => (M.pure []).bind fun ds => M.pure (d :: ds))).bind fun d => (M.pure []).bind fun ds => M.pure (d :: ds)).bind fun ds => M.pure (d :: ds)).bind fun ds => M.pure (d :: ds))).bind fun d => (M.pure []).bind fun kvs => M.pure ((.inr "h", d) :: kvs)).bind fun kvs => M.pure ((.inr "g", d) :: kvs)).bind fun kvs => M.pure ((.inr "f", d) :: kvs))))
    (mSeq (mSet 4 (mFz (mCall 1 (T 44) ((mAg 1).bind fun d => (M.pure []).bind fun ds => M.pure (d :: ds)))))
    (mSeq (mSet 5 (mFz (mCall 1 (T 44) ((mAg 1).bind fun d => (M.pure []).bind fun ds => M.pure (d :: ds)))))
    (mSeq (mSetO 6 (mOLst ((M.pure (.str "nothing")).bind fun d => (M.pure []).bind fun ds => M.pure (d :: ds))))
    (mSeq (mForD .keys (sVar 4) (fun d => mPut 7 (.imm d)) (mDrop (mMeth 6 fExt ((mN fSorted ((m2 fIx (m2 fIx (mVar 4) (mVar 7)) (M.pure (.int 3))).bind fun d => (M.pure []).bind fun ds => M.pure (d :: ds))).bind fun d => (M.pure []).bind fun ds => M.pure (d :: ds)))))
    (mSeq (mForD .keys (sVar 5) (fun d => mPut 7 (.imm d)) (mDrop (mMeth 6 fExt ((mN fSorted ((m2 fIx (m2 fIx (mVar 5) (mVar 7)) (M.pure (.int 3))).bind fun d => (M.pure []).bind fun ds => M.pure (d :: ds))).bind fun d => (M.pure []).bind fun ds => M.pure (d :: ds)))))
    (mSeq (mIf (mTst (m2 fEqX (mVar 2) (M.pure (.int 1)))) (mSet 4 (mFz (mCall 1 (T 42) (((mVar 4).bind fun d => M.pure (.v d)).bind fun d => (M.pure []).bind fun ds => M.pure (d :: ds))))) mNx)
    (lawB T T'))))))))))
theorem stop_lawA {T T' : Nat → Fn} {ρ : List Slot} {Q : Fl → List Slot → Prop} {W : Exn → List Slot → Prop} : run (lawA T T') ρ Q W = runD (lawA T T') ρ Q W ⟨⟩ := propext Iff.rfl
theorem frz_PO {cs : Cs} : frzO (.obj "Program" (PO cs)) = some (PD cs) := rfl
end WK
end

section
set_option Elab.async false
set_option linter.all false
set_option maxRecDepth 100000
set_option maxHeartbeats 400000
open PySem L2 EE
-- W begin
local macro_rules | `(tactic| simp? [$ls,*]) => `(tactic| simp only [
    ↓run_pure, ↓run_bind, ↓run_of, ↓run_bad, ↓run_ite, ↓run_var, ↓run_take, ↓run_pk, ↓run_isL, ↓run_isDc, ↓run_mLst, ↓run_store, ↓run_meth, ↓run_putK, ↓run_frz, ↓run_put, ↓run_seq, ↓run_if, ↓run_ifE, ↓run_nx, 
    ↓run_then, ↓run_drop, ↓run_ret, ↓run_retO, ↓run_set, ↓run_setO, ↓run_asg, ↓ru_tup, ↓runU_stop, ↓run_tst, ↓run_notB, ↓run_and, ↓run_or, ↓run_andV, ↓run_orV, ↓run_notV, ↓run_ch, ↓run_m2, ↓run_m1, ↓run_mN, 
    ↓run_oLst, ↓run_ixO, ↓run_fz, ↓run_fzO, ↓run_disp, ↓run_aug, ↓ru_for, ↓run_raise1, ↓ru_call, ↓run_ag, ↓callP_v1, ↓callP_v2, ↓callP_v3, ↓callP_v4, ↓callP_o0, ↓callP_o1, ↓callP_o2, ↓callP_o3, ↓callP_1o, 
    ↓callP_3o, ↓run_comp, ↓run_oComp, ↓run_compD, ↓run_dcompD, ↓run_forD, ↓run_fldI, ↓run_putF, ↓run_self, ↓stop_forM, ↓stop_while, ↓stop_compM, ↓stop_dcompM, ↓stop_make, ↓stop_try, ↓stop_xf, ↓stop_potNew, 
    ↓onR_stop, ↓onS_stop, ↓onI_stop, ↓onT_stop, ↓onA_stop, ↓onL_stop, ↓onK_stop, ↓onB_stop, ↓onO_stop, ↓onN_stop, ↓onF_nx, ↓onF_rt, ↓onF_bk, ↓onF_ct, ↓onLp_nx, ↓onLp_ct, ↓onLp_bk, ↓onLp_rt, ↓retP_rt, ↓retP_nx, 
    ↓pt0, ↓pt1, ↓pt2, ↓pt3, ↓pt4, ↓pt5, ↓pt6, ↓pt7, ↓pt8, ↓pt9, ↓pt10, ↓pt11, ↓pt12, ↓pt13, ↓pt14, ↓pt15, ↓pt16, ↓pt17, ↓at0, ↓at1, ↓at2, ↓at3, ↓at4, ↓at5, ↓at6, ↓at7, ↓at8, ↓at9, ↓at10, ↓at11, ↓at12, ↓at13, 
    ↓at14, ↓at15, ↓at16, ↓at17, ↓st0, ↓st1, ↓st2, ↓st3, ↓st4, ↓st5, ↓st6, ↓st7, ↓st8, ↓st9, ↓st10, ↓st11, ↓st12, ↓st13, ↓st14, ↓st15, ↓st16, ↓st17, ↓sv0, ↓sv1, ↓sv2, ↓sv3, ↓sv4, ↓sv5, ↓sv6, ↓sv7, ↓sv8, ↓sv9, 
    ↓sv10, ↓sv11, ↓sv12, ↓sv13, ↓sv14, ↓sv15, ↓sv16, ↓sv17, onRD_ok, onRD_exc, onSD_some, onID_imm, onTD_imm, onTD_lst, onTD_dct, onTD_pot, onTD_obj, onAD_some, onLD_lst, onKD_dct, onBD_true, onBD_false, onBD_not, 
    onOD_obj, onND_lst, onND_dct, onND_pot, onND_obj, runUD_bind, runUD_pure, isBl_bl, frzD_imm, frzD_lst, frzD_dct, frzS_imm, frzS_lst, frzS_dct, frzO_obj, frzO_imm, fvS_imm, fvS_lst, fvS_dct, pkD_imm, pkD_lst, 
    pkD_dct, bind_some', itD_lst, itD_tup, itD_str, enD_lst, enD_tup, revD_lst, starD_tup, starD_lst, seqD_tup, seqD_lst, keyD_str, keyD_int, wkD_keys, wkD_vals, wkD_items, fTupOf_lst, fTupOf_tup, fDctOf_dct, 
    fListAll_lst, fListAll_tup, fLen_tup, fLen_lst, fLen_dct, fAbs_int, fInt_int, fLt_int, fLe_int, fGt_int, fGe_int, fSub_int, fAdd_int, fAddN_int, fNeg_int, fPop0_ok, isN_non, notN_non, isN_bl, notN_bl, 
    isN_int, notN_int, isN_str, notN_str, isN_tup, notN_tup, isN_lst, notN_lst, isN_dct, notN_dct, isN_ins, notN_ins, isi_int_non, isi_int_bl, isi_int_int, isi_int_str, isi_int_tup, isi_int_lst, isi_int_dct, 
    isi_bool_non, isi_bool_bl, isi_bool_int, isi_bool_str, isi_bool_tup, isi_bool_lst, isi_bool_dct, isi_str_non, isi_str_bl, isi_str_int, isi_str_str, isi_str_tup, isi_str_lst, isi_str_dct, isi_tuple_non, 
    isi_tuple_bl, isi_tuple_int, isi_tuple_str, isi_tuple_tup, isi_tuple_lst, isi_tuple_dct, isi_list_non, isi_list_bl, isi_list_int, isi_list_str, isi_list_tup, isi_list_lst, isi_list_dct, isi_dict_non, isi_dict_bl, 
    isi_dict_int, isi_dict_str, isi_dict_tup, isi_dict_lst, isi_dict_dct, fIx_tup, fIx_lst, fIx_dctS, fIx_dctI, fIy_tup, fIy_lst, fIy_dctS, fGet_S, isDD_dct, ix0, ix1, ix2, ix3, ix4, ix5, ix6, ix7, eqX_non, 
    eqX_int, neX_int, inDct_S, ninDct_S, inTb_f, inTb_t, ixTb_s, in_tupS, nin_tupS, in_lstS, nin_lstS, fAll_map, fAny_map, sIx, ks_nil, ks_non, ks_imm, ks_lst, ks_dct, ks_pot, ks_obj, fTup_ok, fLst_ok, okSz_of, 
    fApp_ok, fIns0_ok, fExt_lst, fExt_tup, List.map_cons, List.map_nil, List.length_cons, List.length_nil, List.length_map, List.nil_append, List.cons_append, List.getElem?_cons_zero, Option.getD_some, Nat.reduceAdd, 
    Nat.reduceLeDiff, Nat.reduceLT, Nat.reduceEqDiff, Nat.zero_le, ↓reduceIte, if_true, if_false, true_and, and_true, and_self, Bool.not_true, Bool.not_false, Bool.and_self, Bool.true_and, decide_true, decide_false, 
    cast0, cast1, Int.cast_ofNat_Int, eq_self, Int.reduceEq, Int.reduceLT, Int.reduceLE, Int.reduceAdd, Int.reduceNeg, Int.reduceSub, $ls,*])
-- W end
/-! P16: the law, second half -/
namespace WK
open PySem L2 EE
theorem odd_s {s : Str} (h : s.length ≤ 1000000) (ne : fNeX (.lst [.str s, .str s]) (.lst [.str s, .str s]) = some (.bl false)) : OddP (.str s) := ⟨rfl, fun s' e => (by cases e; exact h), ne⟩
theorem odd_n {d : D} (h : strB d = false) (hi : insD d = false) (ne : fNeX (.lst [d, d]) (.lst [d, d]) = some (.bl false)) : OddP d := ⟨hi, fun s e => (by subst e; cases h), ne⟩
theorem odd_all {nm : Str} (h : nameB nm = true) : ∀ d ∈ ([.non, .bl true, .int 0, .str "", .str "A", .str "abcdefghi", .str "word", .str "f", .tup [], .tup [.str "a"], .lst [], .dct [], .str "nothing", .str nm, .str "a1", .str "a_b", .str "1", .str "a\n", .str "-"] : List D), OddP d := by
  repeat' (first | refine List.forall_mem_cons.mpr ⟨?_, ?_⟩ | exact fun _ h => by cases h)
  all_goals first | exact odd_str h | exact odd_n rfl rfl (by kernel_rfl) | exact odd_s (by decide +kernel) (by kernel_rfl)
theorem s_lawB (k : Nat) {gs : List Int} {s c m : Int} {x0 x2 x7 x8 x9 x10 x11 x13 : Slot} {cs os : Cs} {ms : List Str} (wf : WF cs) (wo : WF os) (hm : ∀ m ∈ ms, nameB m = true) (hml : ms.length ≤ 1000) (h10 : x10 = .non) :
    run (lawB (Tb (k + 13)) (Tb (k + 12))) [x0, .pot gs s c m, x2, .imm (.dct fnK), .imm (csD cs), .imm (csD os), .lst (ms.map .str), x7, x8, x9, x10, x11, .non, x13] (fun fl _ => retP fl fun r => r = .imm (.bl true)) NoW := by
  subst h10
  unfold lawB
  simp? []
  refine run_mk k wf rfl ?_
  simp? [frz_PO]
  refine run_mk k wo rfl ?_
  have e2 : rng1 (.int 2) = some ((List.range 2).map fun (i : Nat) => D.int (0 + i)) := rng1_nat (n := 2) (by decide)
  simp? [frz_PO, e2]
  refine run_forM (fun pre ρ => ∃ s6 x10, (s6 = .lst (ms.map .str) ∨ s6 = .imm (.lst (ms.map .str))) ∧ ρ = [x0, .pot gs s c m, x2, .imm (.dct fnK), .imm (csD cs), .imm (csD os), s6, x7, .imm (PD cs), .imm (PD os), x10, x11, .non, x13]) ⟨_, _, .inl rfl, rfl⟩ (fun pre i post ρ e ih => ?_) (fun ρ i => ?_)
  · obtain ⟨s6, x10, h6, rfl⟩ := ih
    rcases h6 with rfl | rfl
    · simp? [e_right (k + 8) wf hm hml, e_right (k + 8) wo hm hml]
      exact ⟨_, _, .inr rfl, rfl⟩
    · simp? [e_right (k + 8) wf hm hml, e_right (k + 8) wo hm hml]
      exact ⟨_, _, .inr rfl, rfl⟩
  · obtain ⟨s6, x10, h6, rfl⟩ := i
    simp? []
    refine s_name (k + 10) fun nm gs s c hnm => ?_
    simp? []
    have hall := odd_all hnm
    rw [← stop_forM]
    generalize ([.non, .bl true, .int 0, .str "", .str "A", .str "abcdefghi", .str "word", .str "f", .tup [], .tup [.str "a"], .lst [], .dct [], .str "nothing", .str nm, .str "a1", .str "a_b", .str "1", .str "a\n", .str "-"] : List D) = ds at *
    refine run_forM' (fun pre ρ => ∃ x12, (x12 = .non ∨ ∃ d, x12 = .imm d) ∧ ∃ s11 : Slot, ρ = [x0, .pot gs s c m, x2, .imm (.dct fnK), .imm (csD cs), .imm (csD os), s6, x7, .imm (PD cs), .imm (PD os), x10, s11, x12, x13]) ⟨_, .inl rfl, _, rfl⟩ (fun pre d post ρ e ih => ?_) (fun ρ i => ?_)
    · obtain ⟨x12, _, s11, rfl⟩ := ih
      have hd : OddP d := hall d (by rw [e]; simp)
      simp? [isi_str_gen hd.ni]
      have no : clsB cs d = false → ∀ Q : Prop, Q → Q := fun _ _ q => q
      cases hs : strB d with
      | true =>
        cases d with
        | str s =>
          simp? [in_cs]
          refine onB_i (fun h => ?_) (fun h => ?_)
          · simp? [e_refused_in (k + 8) wf (of_decide_eq_true h), ne_nil]
            exact ⟨_, .inr ⟨_, rfl⟩, _, rfl⟩
          · simp? [e_refused_no (k + 8) wf hd.ni hd.sz (show clsB cs (.str s) = false from h), hd.ne]
            exact ⟨_, .inr ⟨_, rfl⟩, _, rfl⟩
        | _ => cases hs
      | false =>
        have hc : clsB cs d = false := by cases d <;> first | rfl | cases hs
        simp? [e_refused_no (k + 8) wf hd.ni hd.sz hc, hd.ne]
        exact ⟨_, .inr ⟨_, rfl⟩, _, rfl⟩
    · obtain ⟨x12, hx12, s11, rfl⟩ := i
      simp? [e_refused_no (k + 8) wf (d := .bl true) rfl (fun s e => by cases e) rfl, e_refused_no (k + 8) wf (d := .int 0) rfl (fun s e => by cases e) rfl, fAdd_lst]
      refine ⟨?_, ?_⟩
      · rcases hx12 with rfl | ⟨d, rfl⟩ <;> rfl
      · simp? [wipeR, cl_consD, cl_nilD, backR]
end WK
end

section
set_option Elab.async false
set_option linter.all false
set_option maxRecDepth 100000
set_option maxHeartbeats 0
namespace WK
open PySem PySem.Spec PyProof.Rows L2 EE
section
variable [XAd]
variable {P : Program} {w : World} {K : PySem.W.Frag} {h : Heap} {mg : Str → Option Value} {base : Heap}
theorem glo_of (X : K.In h) (G : h.Ns mainGlobals mg) (c : SaysF faL fnL tsL xsL exL w K) (i : Nat) {x : Str} (e : faL[i]? = some (.glo x) := by rfl) : mg x = some (.ref (He.ga K x)) := He.glo_ok X G (c.t.d.fact i e)
theorem free_of (X : K.In h) (G : h.Ns mainGlobals mg) (c : SaysF faL fnL tsL xsL exL w K) (i : Nat) {x : Str} (e : faL[i]? = some (.free x) := by rfl) : mg x = none := He.free_ok X G (c.t.d.fact i e)
theorem mkE_BadProgram (I : IniK K "BadProgram" "part" "BadProgram.__init__" prog0.main.file (clsAt (top 23) 0)) (gm : mg "BadProgram" = some (.ref (He.ga K "BadProgram"))) (gs : mg "super" = none) : ExcF prog0 w K mg base 1 "BadProgram" "part" := by
  refine ⟨I.oex, gm, ?_⟩
  obtain ⟨oc, od, kV, doc, pm, an, cda, ct, cc, osl, lk, hcd, code, cell⟩ := I.ex
  refine ⟨iAd K "BadProgram", _, ["self", "part"], I.iC, I.tI, .all fun us hl => match us, hl with | [_, _], _ => rfl, init_ok (C := He.ga K "BadProgram") (f := "part") lk hcd rfl rfl (fun _ => rfl) (fun _ => rfl) (fun _ => rfl) (fun _ => rfl) ?_⟩
  exact ⟨⟨rfl, rfl, rfl⟩, ⟨rfl, rfl, rfl, rfl⟩, by decide +kernel, code, cell, by decide +kernel, gs, I.fno, I.ho, I.hm, I.hB, I.hs, I.oex, ⟨by decide, by decide, by decide, by decide, by decide⟩⟩
theorem mkE_NoName (I : IniK K "NoName" "name" "NoName.__init__" prog0.main.file (clsAt (top 24) 0)) (gm : mg "NoName" = some (.ref (He.ga K "NoName"))) (gs : mg "super" = none) : ExcF prog0 w K mg base 1 "NoName" "name" := by
  refine ⟨I.oex, gm, ?_⟩
  obtain ⟨oc, od, kV, doc, pm, an, cda, ct, cc, osl, lk, hcd, code, cell⟩ := I.ex
  refine ⟨iAd K "NoName", _, ["self", "name"], I.iC, I.tI, .all fun us hl => match us, hl with | [_, _], _ => rfl, init_ok (C := He.ga K "NoName") (f := "name") lk hcd rfl rfl (fun _ => rfl) (fun _ => rfl) (fun _ => rfl) (fun _ => rfl) ?_⟩
  exact ⟨⟨rfl, rfl, rfl⟩, ⟨rfl, rfl, rfl, rfl⟩, by decide +kernel, code, cell, by decide +kernel, gs, I.fno, I.ho, I.hm, I.hB, I.hs, I.oex, ⟨by decide, by decide, by decide, by decide, by decide⟩⟩
theorem hd_of (X : K.In h) (G : h.Ns mainGlobals mg) (c : SaysF faL fnL tsL xsL exL w K) : Hd prog0 w K mg base := by
  have x := c.ok
  unfold exL at x
  obtain ⟨x_r_KINDS, x⟩ := ba x
  obtain ⟨x_t_SHAPES, x⟩ := ba x
  obtain ⟨x_i_, x⟩ := ba x
  obtain ⟨x_a_Program, x⟩ := ba x
  obtain ⟨x_m_NoName, x⟩ := ba x
  obtain ⟨x_x_name, x⟩ := ba x
  obtain ⟨x_e_BadProgram, x⟩ := ba x
  obtain ⟨x_e_NoName, x⟩ := ba x
  exact {
    p_is_integer := c.t.d.def_ 0 (d := D_is_integer) rfl
    q_is_integer := glo_of X G c 0
    p_is_number := c.t.d.def_ 1 (d := D_is_number) rfl
    q_is_number := glo_of X G c 1
    p_is_name := c.t.d.def_ 2 (d := D_is_name) rfl
    q_is_name := glo_of X G c 2
    p_is_unlike := c.t.d.def_ 3 (d := D_is_unlike) rfl
    q_is_unlike := glo_of X G c 3
    p_is_names := c.t.d.def_ 4 (d := D_is_names) rfl
    q_is_names := glo_of X G c 4
    p_is_words := c.t.d.def_ 5 (d := D_is_words) rfl
    q_is_words := glo_of X G c 5
    p_is_expression := c.t.d.def_ 6 (d := D_is_expression) rfl
    q_is_expression := glo_of X G c 6
    p_is_expressions := c.t.d.def_ 7 (d := D_is_expressions) rfl
    q_is_expressions := glo_of X G c 7
    p_is_test := c.t.d.def_ 8 (d := D_is_test) rfl
    q_is_test := glo_of X G c 8
    p_returns := c.t.d.def_ 9 (d := D_returns) rfl
    q_returns := glo_of X G c 9
    p_inner_blocks_blocks := c.t.d.def_ 10 (d := D_inner_blocks_blocks) rfl
    q_inner_blocks_blocks := glo_of X G c 10
    p_is_known := c.t.d.def_ 11 (d := D_is_known) rfl
    q_is_known := glo_of X G c 11
    p_is_part := c.t.d.def_ 12 (d := D_is_part) rfl
    q_is_part := glo_of X G c 12
    p_is_statement := c.t.d.def_ 13 (d := D_is_statement) rfl
    q_is_statement := glo_of X G c 13
    p_is_block := c.t.d.def_ 14 (d := D_is_block) rfl
    q_is_block := glo_of X G c 14
    p_class_line := c.t.d.def_ 15 (d := D_class_line) rfl
    q_class_line := glo_of X G c 15
    p_fields_by_line := c.t.d.def_ 16 (d := D_fields_by_line) rfl
    q_fields_by_line := glo_of X G c 16
    p_methods_by_line := c.t.d.def_ 17 (d := D_methods_by_line) rfl
    q_methods_by_line := glo_of X G c 17
    p_is_shared := c.t.d.def_ 18 (d := D_is_shared) rfl
    q_is_shared := glo_of X G c 18
    p_is_methods := c.t.d.def_ 19 (d := D_is_methods) rfl
    q_is_methods := glo_of X G c 19
    p_is_class_row := c.t.d.def_ 20 (d := D_is_class_row) rfl
    q_is_class_row := glo_of X G c 20
    p_is_classes := c.t.d.def_ 21 (d := D_is_classes) rfl
    q_is_classes := glo_of X G c 21
    p_is_function_row := c.t.d.def_ 22 (d := D_is_function_row) rfl
    q_is_function_row := glo_of X G c 22
    p_is_functions := c.t.d.def_ 23 (d := D_is_functions) rfl
    q_is_functions := glo_of X G c 23
    p_methods_fit := c.t.d.def_ 24 (d := D_methods_fit) rfl
    q_methods_fit := glo_of X G c 24
    p_check_program := c.t.d.def_ 25 (d := D_check_program) rfl
    q_check_program := glo_of X G c 25
    p_gather := c.t.d.def_ 26 (d := D_gather) rfl
    q_gather := glo_of X G c 26
    p_free_names := c.t.d.def_ 27 (d := D_free_names) rfl
    q_free_names := glo_of X G c 27
    p_plain_statement := c.t.d.def_ 28 (d := D_plain_statement) rfl
    q_plain_statement := glo_of X G c 28
    p_plain_rows := c.t.d.def_ 29 (d := D_plain_rows) rfl
    q_plain_rows := glo_of X G c 29
    p_plain_block := c.t.d.def_ 30 (d := D_plain_block) rfl
    q_plain_block := glo_of X G c 30
    p_width := c.t.d.def_ 31 (d := D_width) rfl
    q_width := glo_of X G c 31
    p_inner_blocks_places := c.t.d.def_ 32 (d := D_inner_blocks_places) rfl
    q_inner_blocks_places := glo_of X G c 32
    p_inner_blocks := c.t.d.def_ 33 (d := D_inner_blocks) rfl
    q_inner_blocks := glo_of X G c 33
    p_heads_of := c.t.d.def_ 34 (d := D_heads_of) rfl
    q_heads_of := glo_of X G c 34
    p_lay := c.t.d.def_ 35 (d := D_lay) rfl
    q_lay := glo_of X G c 35
    p_places_of := c.t.d.def_ 36 (d := D_places_of) rfl
    q_places_of := glo_of X G c 36
    p_copied_classes := c.t.d.def_ 37 (d := D_copied_classes) rfl
    q_copied_classes := glo_of X G c 37
    p_fields_of := c.t.d.def_ 38 (d := D_fields_of) rfl
    q_fields_of := glo_of X G c 38
    p_method_of := c.t.d.def_ 39 (d := D_method_of) rfl
    q_method_of := glo_of X G c 39
    p__law_pot := c.t.d.def_ 40 (d := D__law_pot) rfl
    q__law_pot := glo_of X G c 40
    p__law_take := c.t.d.def_ 41 (d := D__law_take) rfl
    q__law_take := glo_of X G c 41
    p__law_name := c.t.d.def_ 42 (d := D__law_name) rfl
    q__law_name := glo_of X G c 42
    p__law_turned := c.t.d.def_ 43 (d := D__law_turned) rfl
    q__law_turned := glo_of X G c 43
    p__law_methods := c.t.d.def_ 44 (d := D__law_methods) rfl
    q__law_methods := glo_of X G c 44
    p__law_classes := c.t.d.def_ 45 (d := D__law_classes) rfl
    q__law_classes := glo_of X G c 45
    p__law_line := c.t.d.def_ 46 (d := D__law_line) rfl
    q__law_line := glo_of X G c 46
    p__law_refused := c.t.d.def_ 47 (d := D__law_refused) rfl
    q__law_refused := glo_of X G c 47
    p__law_right := c.t.d.def_ 48 (d := D__law_right) rfl
    q__law_right := glo_of X G c 48
    p_law := c.t.d.def_ 49 (d := D_law) rfl
    q_law := glo_of X G c 49
    p_Program_init_ := c.t.d.def_ 50 (d := D_Program_init_) rfl
    p_Program_fill := c.t.d.def_ 51 (d := D_Program_fill) rfl
    gm_Program := glo_of X G c 50
    mk_Program := He.mkr_ok (x := "Program") (c.t.d.fact 74 rfl)
    cl_Program_fill := He.cls_ok (x := "Program") (c.t.d.fact 73 rfl)
    mt_Program_fill := He.meth_ok (x := "Program") (m := "fill") (c.t.d.fact 75 rfl)
    b_abs := free_of X G c 55
    b_all := free_of X G c 56
    b_any := free_of X G c 57
    b_bool := free_of X G c 58
    b_dict := free_of X G c 59
    b_enumerate := free_of X G c 60
    b_int := free_of X G c 61
    b_isinstance := free_of X G c 62
    b_len := free_of X G c 63
    b_list := free_of X G c 64
    b_range := free_of X G c 65
    b_reversed := free_of X G c 66
    b_set := free_of X G c 67
    b_sorted := free_of X G c 68
    b_str := free_of X G c 69
    b_tuple := free_of X G c 70
    s_LETTERS := He.str_ok X G (c.t.d.fact 72 rfl)
    g_KINDS := glo_of X G c 51
    r_KINDS := rB_ok x_r_KINDS
    g_SHAPES := glo_of X G c 52
    t_SHAPES := tabK_ok (c.tab 0) x_t_SHAPES
    i_ := fun c hc => insB_ok (List.all_eq_true.mp x_i_ c hc)
    a_Program := atB_ok x_a_Program
    e_BadProgram := mkE_BadProgram (iniB_ok x_e_BadProgram (c.ini 0 (d := ⟨"BadProgram", "part", "BadProgram.__init__", (clsAt (top 23) 0)⟩) rfl)) (glo_of X G c 54) (free_of X G c 71)
    e_NoName := mkE_NoName (iniB_ok x_e_NoName (c.ini 1 (d := ⟨"NoName", "name", "NoName.__init__", (clsAt (top 24) 0)⟩) rfl)) (glo_of X G c 53) (free_of X G c 71)
    m_NoName := exmB_ok x_m_NoName
    gm_NoName := glo_of X G c 53
    x_name := xfsB_ok x_x_name
  }
end
end WK
end

section
set_option Elab.async false
set_option linter.all false
set_option maxRecDepth 100000
set_option maxHeartbeats 0
namespace WK
open PySem PySem.Spec PyProof.Rows L2 EE
theorem fn_calm {P : Program} {w : World} {K : PySem.W.Frag} {mg : Str → Option Value} {base : Heap} {k : Nat} {f : Addr} {fd : FuncData} {ps : List Str} {sp : Sp} (F : FnOk P w K mg base (L2.CX P w) k f fd ps sp) :
    FnOk P w K mg base CX0 k f fd ps (fun vs H Q _ => sp vs H Q E0) :=
  ⟨fun vs H Q E h => F.len vs H Q E0 h, fun A outer s H args us vs Q E hr e0 hb r h => codeAny_mono (F.run A outer s H args us vs Q E0 hr e0 hb r h) fun r s' z => by
    cases r with
    | error e =>
      obtain ⟨_, _, _, _, _, _, _, _, _, _, _, _, h⟩ := (show L2.CX P w outer H s E0 e s' from z)
      exact (show False from h).elim
    | ok fl => cases fl <;> exact z⟩
theorem ints_rep {K : PySem.W.Frag} {B : Hp} : ∀ ns : List Int, RepL K B (ns.map D.int) (ns.map V.int)
  | [] => by unfold RepL; rfl
  | n :: ns => by
    show RepL K B (D.int n :: ns.map D.int) (V.int n :: ns.map V.int)
    unfold RepL
    exact ⟨_, _, rfl, .int, ints_rep ns⟩
section
variable [XAd]
theorem spec_law {K : PySem.W.Frag} {F : Fn} {H : Hp} {a : Addr} {ns : List Int} {as' : List Slot} (e : F [.imm (.lst (ns.map D.int))] = .ok (.imm (.bl true)) as') (hS : SqL K H a (ns.map V.int)) {E : XK} : spM K 1 F [.ref a] H (fun v _ => v = .bl true) E := by
  have eb : H = hid H (frF (fun _ => False) fun _ _ => False) := by
    funext b
    exact (hid_at fun z => z.elim id fun ⟨_, z⟩ => z).symm
  refine ⟨fun _ => False, H, [.imm (.lst (ns.map D.int))], rfl, ⟨fun _ _ => False, ⟨rfl, eb, fun _ _ _ z => z.elim, fun _ _ z => z.elim, fun _ z => z.elim, fun _ _ z => z.elim, fun _ _ _ z => z.elim, fun i sl hi => ?_⟩⟩, ?_⟩
  · cases i with
    | zero =>
      simp at hi
      subst hi
      refine ⟨some (.ref a), rfl, .imm ?_ fun _ z => z⟩
      unfold Rep
      exact ⟨a, _, rfl, hS, ints_rep ns⟩
    | succ i => simp at hi
  · rw [e]
    intro v B' H' t st
    obtain ⟨fp, s⟩ := st
    obtain ⟨w, h1, h2⟩ := s.imm (i := 0) rfl
    cases h1
    exact h2.bl_inv
end
/-- the plain law -/
def Plain : Prop := ∀ ns : List Int, ns.length ≤ 63 → ∃ as', Tb 30 48 [.imm (.lst (ns.map D.int))] = .ok (.imm (.bl true)) as'
theorem facts [XAd] (pl : Plain) {w : World} {K : PySem.W.Frag} {h : Heap} {mg : Str → Option Value} {f : Addr} (X : K.In h) (G : h.Ns mainGlobals mg) (hfa : mg ("law" : Str) = some (.ref f)) (c : SaysF faL fnL tsL xsL exL w K) :
    ∃ (fd : FuncData) (sp : Sp), (∀ (s : Shared) (v : Value), BindsTo s fd ⟨[v], []⟩ [("script", v)]) ∧ (∀ (H : Hp) (a : Addr) (ns : List Int), ns.length ≤ 63 → Only H → SqL K H a (ns.map V.int) → sp [.ref a] H (fun v _ => v = .bl true) fun _ _ _ => False) ∧
      ∀ base : Heap, K.In base → base.Ns mainGlobals mg → FnOk prog0 w K mg base CX0 31 f fd ["script"] sp := by
  have hd : ∀ base, Hd prog0 w K mg base := fun base => hd_of X G c
  obtain ⟨fd, F⟩ := (hd h).p_law
  have e := hfa.symm.trans (hd h).q_law
  cases e
  have b := FunD.bindsA (ps := ["script"]) F fun _ _ _ _ _ _ us hl => match us, hl with | [_], _ => rfl
  refine ⟨fd, fun vs H Q _ => spM K 1 (Tb 30 48) vs H Q E0, fun s v => b s [v] rfl, fun H a ns hl hO hS => ?_, fun base kb nb => fn_calm ?_⟩
  · obtain ⟨as', e⟩ := pl ns hl
    exact spec_law e hS
  · have f28 := fxOf (hd base) (gs_all (hd base) 28).1 (by omega)
    exact def_ok F ⟨rfl, rfl, rfl, by decide +kernel, rfl, by decide +kernel, by decide +kernel⟩ rfl rfl (fun cdv A outer s H E C => d_law C f28)
end WK
end

section
set_option Elab.async false
set_option linter.all false
set_option maxRecDepth 100000
set_option maxHeartbeats 400000
open PySem L2 EE
-- W begin
local macro_rules | `(tactic| simp? [$ls,*]) => `(tactic| simp only [
    ↓run_pure, ↓run_bind, ↓run_of, ↓run_bad, ↓run_ite, ↓run_var, ↓run_take, ↓run_pk, ↓run_isL, ↓run_isDc, ↓run_mLst, ↓run_store, ↓run_meth, ↓run_putK, ↓run_frz, ↓run_put, ↓run_seq, ↓run_if, ↓run_ifE, ↓run_nx, 
    ↓run_then, ↓run_drop, ↓run_ret, ↓run_retO, ↓run_set, ↓run_setO, ↓run_asg, ↓ru_tup, ↓runU_stop, ↓run_tst, ↓run_notB, ↓run_and, ↓run_or, ↓run_andV, ↓run_orV, ↓run_notV, ↓run_ch, ↓run_m2, ↓run_m1, ↓run_mN, 
    ↓run_oLst, ↓run_ixO, ↓run_fz, ↓run_fzO, ↓run_disp, ↓run_aug, ↓ru_for, ↓run_raise1, ↓ru_call, ↓run_ag, ↓callP_v1, ↓callP_v2, ↓callP_v3, ↓callP_v4, ↓callP_o0, ↓callP_o1, ↓callP_o2, ↓callP_o3, ↓callP_1o, 
    ↓callP_3o, ↓run_comp, ↓run_oComp, ↓run_compD, ↓run_dcompD, ↓run_forD, ↓run_fldI, ↓run_putF, ↓run_self, ↓stop_forM, ↓stop_while, ↓stop_compM, ↓stop_dcompM, ↓stop_make, ↓stop_try, ↓stop_xf, ↓stop_potNew, 
    ↓onR_stop, ↓onS_stop, ↓onI_stop, ↓onT_stop, ↓onA_stop, ↓onL_stop, ↓onK_stop, ↓onB_stop, ↓onO_stop, ↓onN_stop, ↓onF_nx, ↓onF_rt, ↓onF_bk, ↓onF_ct, ↓onLp_nx, ↓onLp_ct, ↓onLp_bk, ↓onLp_rt, ↓retP_rt, ↓retP_nx, 
    ↓pt0, ↓pt1, ↓pt2, ↓pt3, ↓pt4, ↓pt5, ↓pt6, ↓pt7, ↓pt8, ↓pt9, ↓pt10, ↓pt11, ↓pt12, ↓pt13, ↓pt14, ↓pt15, ↓pt16, ↓pt17, ↓at0, ↓at1, ↓at2, ↓at3, ↓at4, ↓at5, ↓at6, ↓at7, ↓at8, ↓at9, ↓at10, ↓at11, ↓at12, ↓at13, 
    ↓at14, ↓at15, ↓at16, ↓at17, ↓st0, ↓st1, ↓st2, ↓st3, ↓st4, ↓st5, ↓st6, ↓st7, ↓st8, ↓st9, ↓st10, ↓st11, ↓st12, ↓st13, ↓st14, ↓st15, ↓st16, ↓st17, ↓sv0, ↓sv1, ↓sv2, ↓sv3, ↓sv4, ↓sv5, ↓sv6, ↓sv7, ↓sv8, ↓sv9, 
    ↓sv10, ↓sv11, ↓sv12, ↓sv13, ↓sv14, ↓sv15, ↓sv16, ↓sv17, onRD_ok, onRD_exc, onSD_some, onID_imm, onTD_imm, onTD_lst, onTD_dct, onTD_pot, onTD_obj, onAD_some, onLD_lst, onKD_dct, onBD_true, onBD_false, onBD_not, 
    onOD_obj, onND_lst, onND_dct, onND_pot, onND_obj, runUD_bind, runUD_pure, isBl_bl, frzD_imm, frzD_lst, frzD_dct, frzS_imm, frzS_lst, frzS_dct, frzO_obj, frzO_imm, fvS_imm, fvS_lst, fvS_dct, pkD_imm, pkD_lst, 
    pkD_dct, bind_some', itD_lst, itD_tup, itD_str, enD_lst, enD_tup, revD_lst, starD_tup, starD_lst, seqD_tup, seqD_lst, keyD_str, keyD_int, wkD_keys, wkD_vals, wkD_items, fTupOf_lst, fTupOf_tup, fDctOf_dct, 
    fListAll_lst, fListAll_tup, fLen_tup, fLen_lst, fLen_dct, fAbs_int, fInt_int, fLt_int, fLe_int, fGt_int, fGe_int, fSub_int, fAdd_int, fAddN_int, fNeg_int, fPop0_ok, isN_non, notN_non, isN_bl, notN_bl, 
    isN_int, notN_int, isN_str, notN_str, isN_tup, notN_tup, isN_lst, notN_lst, isN_dct, notN_dct, isN_ins, notN_ins, isi_int_non, isi_int_bl, isi_int_int, isi_int_str, isi_int_tup, isi_int_lst, isi_int_dct, 
    isi_bool_non, isi_bool_bl, isi_bool_int, isi_bool_str, isi_bool_tup, isi_bool_lst, isi_bool_dct, isi_str_non, isi_str_bl, isi_str_int, isi_str_str, isi_str_tup, isi_str_lst, isi_str_dct, isi_tuple_non, 
    isi_tuple_bl, isi_tuple_int, isi_tuple_str, isi_tuple_tup, isi_tuple_lst, isi_tuple_dct, isi_list_non, isi_list_bl, isi_list_int, isi_list_str, isi_list_tup, isi_list_lst, isi_list_dct, isi_dict_non, isi_dict_bl, 
    isi_dict_int, isi_dict_str, isi_dict_tup, isi_dict_lst, isi_dict_dct, fIx_tup, fIx_lst, fIx_dctS, fIx_dctI, fIy_tup, fIy_lst, fIy_dctS, fGet_S, isDD_dct, ix0, ix1, ix2, ix3, ix4, ix5, ix6, ix7, eqX_non, 
    eqX_int, neX_int, inDct_S, ninDct_S, inTb_f, inTb_t, ixTb_s, in_tupS, nin_tupS, in_lstS, nin_lstS, fAll_map, fAny_map, sIx, ks_nil, ks_non, ks_imm, ks_lst, ks_dct, ks_pot, ks_obj, fTup_ok, fLst_ok, okSz_of, 
    fApp_ok, fIns0_ok, fExt_lst, fExt_tup, List.map_cons, List.map_nil, List.length_cons, List.length_nil, List.length_map, List.nil_append, List.cons_append, List.getElem?_cons_zero, Option.getD_some, Nat.reduceAdd, 
    Nat.reduceLeDiff, Nat.reduceLT, Nat.reduceEqDiff, Nat.zero_le, ↓reduceIte, if_true, if_false, true_and, and_true, and_self, Bool.not_true, Bool.not_false, Bool.and_self, Bool.true_and, decide_true, decide_false, 
    cast0, cast1, Int.cast_ofNat_Int, eq_self, Int.reduceEq, Int.reduceLT, Int.reduceLE, Int.reduceAdd, Int.reduceNeg, Int.reduceSub, $ls,*])
-- W end
/-! P17: the law, first half; the plain law -/
namespace WK
open PySem L2 EE
theorem s_exts {cs : Cs} (wf : WF cs) {ms : List Str} (hm : ∀ m ∈ ms, nameB m = true) {n : Str} (hn : n ∈ cs.map (·.1)) : ∃ c more, lk cs n = some c ∧ fSorted [.dct (kD .str c.ms)] = some (.lst (more.map .str)) ∧ more.length ≤ 2 ∧ ∀ m ∈ ms ++ more, nameB m = true := by
  cases e : lk cs n with
  | none => exact absurd hn (lk_none.mp e)
  | some c =>
    have r := wf.row (n, c) (lk_mem e)
    have hl : c.ms.length ≤ 2 := r.msl
    refine ⟨c, sortS (c.ms.map (·.1)), rfl, sorted_kD (by omega), ?_, fun m hmm => ?_⟩
    · unfold sortS; rw [List.length_mergeSort]; simpa using hl
    · rcases List.mem_append.mp hmm with h | h
      · exact hm m h
      · unfold sortS at h
        rw [List.mem_mergeSort] at h
        obtain ⟨p, hp, rfl⟩ := List.mem_map.mp h
        exact (r.ms p hp).1
theorem e_law (k : Nat) {ns : List Int} (hl : ns.length ≤ 1000) : Tb (k + 14) 48 [.imm (.lst (ns.map .int))] = .ok (.imm (.bl true)) [.non] := by
  refine fn_e (tb_law (k + 12)) (ds := [.lst (ns.map .int)]) rfl ?_
  have eb : b_law (Tb (k + 12 + 1)) (Tb (k + 12)) = lawA (Tb (k + 12 + 1)) (Tb (k + 12)) := rfl
  rw [eb]
  unfold lawA
  simp? [List.append_nil, List.replicate]
  refine s_pot (k + 11) hl fun gs s => ?_
  simp? []
  refine s_take (k + 11) (by decide) (by decide) fun way gs s c hw0 hw1 => ?_
  simp? [mrg]
  refine s_classes (k + 8) fun cs gs s c wf => ?_
  simp? [cs_fold]
  refine s_classes (k + 8) fun os gs s c wo => ?_
  have hw := wf.len
  have ho := wo.len
  simp? [cs_fold, wk_cs]
  refine run_forM (fun pre ρ => ∃ (x7 : EE.Slot) (ms : List Str), ρ = [.imm (.lst (ns.map .int)), .pot gs s c 0, .imm (.int way), .imm (.dct fnK), .imm (csD cs), .imm (csD os), .lst (ms.map .str), x7, .non, .non, .non, .non, .non, .non] ∧ (∀ m ∈ ms, nameB m = true) ∧ ms.length ≤ 1 + 2 * pre.length) ⟨.non, [("nothing" : Str)], rfl, fun m h => (by rw [List.mem_singleton.mp h]; decide +kernel), by simp⟩ (fun pre p post ρ e ih => ?_) (fun ρ i => ?_)
  · obtain ⟨x7, ms, rfl, hm, hml⟩ := ih
    obtain ⟨cl, more, h1, h2, h3, h4⟩ := s_exts wf hm (n := p.1) (by rw [e]; simp)
    have hlen : cs.length = pre.length + (post.length + 1) := by rw [e]; simp
    have hz : (ms.map D.str).length + (more.map D.str).length ≤ 1000000 := by simp; omega
    simp? [ix_cs, h1, Option.map_some, Cl.d, h2, fExt_lst hz]
    exact ⟨_, ms ++ more, by rw [List.map_append], h4, by simp; omega⟩
  · obtain ⟨x7, ms, rfl, hm, hml⟩ := i
    simp? [wk_cs]
    refine run_forM (fun pre ρ => ∃ (x7 : EE.Slot) (ms : List Str), ρ = [.imm (.lst (ns.map .int)), .pot gs s c 0, .imm (.int way), .imm (.dct fnK), .imm (csD cs), .imm (csD os), .lst (ms.map .str), x7, .non, .non, .non, .non, .non, .non] ∧ (∀ m ∈ ms, nameB m = true) ∧ ms.length ≤ 13 + 2 * pre.length) ⟨_, ms, rfl, hm, by simp; omega⟩ (fun pre p post ρ e ih => ?_) (fun ρ i => ?_)
    · obtain ⟨x7, ms, rfl, hm, hml⟩ := ih
      obtain ⟨cl, more, h1, h2, h3, h4⟩ := s_exts wo hm (n := p.1) (by rw [e]; simp)
      have hlen : os.length = pre.length + (post.length + 1) := by rw [e]; simp
      have hz : (ms.map D.str).length + (more.map D.str).length ≤ 1000000 := by simp; omega
      simp? [ix_cs, h1, Option.map_some, Cl.d, h2, fExt_lst hz]
      exact ⟨_, ms ++ more, by rw [List.map_append], h4, by simp; omega⟩
    · obtain ⟨x7, ms, rfl, hm, hml⟩ := i
      simp? []
      refine onB_i (fun _ => ?_) (fun _ => ?_)
      · simp? [e_turn_cs (k + 10) wf, cs_fold, ↓stop_lawB]
        exact s_lawB k (wf_turn wf) wo hm (by omega) rfl
      · simp? [↓stop_lawB]
        exact s_lawB k wf wo hm (by omega) rfl
theorem plain : Plain := fun ns hl => ⟨_, e_law 16 (by omega)⟩
end WK
end

section
set_option Elab.async false
set_option linter.all false
set_option maxRecDepth 100000
set_option maxHeartbeats 0
open PySem PySem.W PySem.Calls PyProof.Rows
theorem PySem.Challenge.cw_everyend_k06_fields_and_methods_by_paren_holds : PySem.Challenge.rw_everyend_k06_fields_and_methods_by_paren.Holds := by
  have pl : WK.Plain := WK.plain
  letI : EE.XAd := ⟨fun _ _ _ => True⟩
  w_on; o_law
  refine HandSHeadRun.head_any (r := WK.R) (q := WK.qv) (H := WK.hk) (ob := WK.ob) (M := 6000) (loose := WK.names) (d := HandSHeadRun.topDef WK.R.prog 65) (kwd := []) WK.ob_eq
    (by kernel_rfl) (fun s => by kernel_rfl) WK.headRun (by kernel_rfl) (by kernel_rfl) (by kernel_rfl) (by rfl) (by first | assumption | decide +kernel) (by decide +kernel) ⟨rfl, rfl, rfl, rfl, rfl, by decide +kernel⟩ ?hw ?hc
  case hw => w_witness2
  case hc =>
    refine L2.walk_ofE (l := PySem.Challenge.rw_everyend_k06_fields_and_methods_by_paren) (n := 63) (k := 31) (x := "script") (CX := L2.CX0) rfl (by decide) (by kernel_rfl) ⟨rfl, by decide, by decide⟩ ?F (fun _ _ _ _ z => z)
    intro w mg fa h Y G hmg0
    obtain ⟨K, KX, c⟩ := Y
    have hmg : mg ("law" : PySem.Str) = some (.ref fa) := by
      have e : (HandSHeadRun.topDef WK.R.prog 65).name = ("law" : PySem.Str) := by kernel_rfl
      rw [← e]
      exact hmg0
    obtain ⟨fd, sp, hb, hs, hF⟩ := WK.facts pl KX G hmg c
    exact ⟨K, fd, sp, KX, hb, hs, hF⟩
end
