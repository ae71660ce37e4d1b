import PyProof.Rows.All
import Wide.All
import OpenK.AllK
import Wide.FinOn
import HandS.ForMost
import HandS.TupAny
import HandS.IsInst
import HandS.SetKeys
import HandS.More
import HandS.Style
import HandS.Flow
import HandS.Conv
import KE.KRevSl
import KE.GoesMore
import HandS.SortInts
import KE.GoesEnum
import HandS.SetFor
import HandS.SetTxt0
import PyProof.Rows.SortShellAny
import PySem.Challenge.RW_kilnrow_k03_whole_parts_and_paths
set_option Elab.async false
set_option linter.all false
set_option maxRecDepth 100000
set_option autoImplicit false
namespace Kr
open PySem PySem.Spec L2
open PyProof.Rows hiding St

/-! ### the plain evaluator's values and states -/
/-- a value: tuples, lists and dicts stand in place; obj i is the i-th changeable object; scr is the law's script -/
inductive D where
  | non | bl (b : Bool) | int (i : Int) | str (x : Str) | tup (xs : List D) | lst (xs : List D) | dic (kvs : List (Key × D)) | obj (i : Nat) | scr (ns : List Int)
/-- why there is no value: not covered, or an exception of the program's -/
inductive Xn where
  | stuck | exc (c : Nat) (d : D)
structure S where
  σ : List (Option D)
  h : List D
abbrev R (α : Type) := Except Xn α
/-- an expression's run: it changes no slot -/
abbrev ME (α : Type) := S → R (α × List D)
abbrev DE := ME D
abbrev DB := ME Bool
abbrev DA := ME (List D)
inductive O where
  | nx | rt (d : D) | bk | ct
abbrev DS := S → R (O × S)
abbrev CallF := Nat → List D → List D → R (D × List D)

/-! ### what stands for them in the layer's heap -/
/-- a list that no one changes: tracked and not among the changeable ones, or written -/
def FzL (K : PySem.W.Frag) (F : Addr → Prop) (H : Hp) (a : Addr) (vs : List V) : Prop := (Rd H a (.lst vs) ∧ ¬ F a) ∨ SqL K (fun _ => none) a vs
theorem FzL.sq {K : PySem.W.Frag} {F : Addr → Prop} {H : Hp} {a : Addr} {vs : List V} (h : FzL K F H a vs) : SqL K H a vs := by
  rcases h with ⟨h, _⟩ | h
  · exact .inl h
  · rcases h with (h | ⟨_, h⟩) | h
    · cases h
    · cases h
    · exact .inr h
mutual
inductive Rep (K : PySem.W.Frag) (F : Addr → Prop) (M : List Addr) (H : Hp) : V → D → Prop
  | non : Rep K F M H .non .non
  | bl (b : Bool) : Rep K F M H (.bl b) (.bl b)
  | int (i : Int) : Rep K F M H (.int i) (.int i)
  | str (x : Str) : Rep K F M H (.str x) (.str x)
  | tup {a : Addr} {vs : List V} {ds : List D} : SqT K H a vs → ds.length ≤ sizeLine → RepL K F M H vs ds → Rep K F M H (.ref a) (.tup ds)
  | lst {a : Addr} {vs : List V} {ds : List D} : Rd H a (.lst vs) → ¬ F a → ds.length ≤ sizeLine → RepL K F M H vs ds → Rep K F M H (.ref a) (.lst ds)
  | dic {a : Addr} {vs : List (Key × V)} {ds : List (Key × D)} : Rd H a (.dK vs) → ¬ F a → ds.length ≤ sizeLine → RepK K F M H vs ds → Rep K F M H (.ref a) (.dic ds)
  | obj {p : Addr} {i : Nat} : M[i]? = some p → Rep K F M H (.ref p) (.obj i)
  | scr {a : Addr} {ns : List Int} : FzL K F H a (ns.map V.int) → ns.length ≤ sizeLine → Rep K F M H (.ref a) (.scr ns)
inductive RepL (K : PySem.W.Frag) (F : Addr → Prop) (M : List Addr) (H : Hp) : List V → List D → Prop
  | nil : RepL K F M H [] []
  | cons {v : V} {vs : List V} {d : D} {ds : List D} : Rep K F M H v d → RepL K F M H vs ds → RepL K F M H (v :: vs) (d :: ds)
inductive RepK (K : PySem.W.Frag) (F : Addr → Prop) (M : List Addr) (H : Hp) : List (Key × V) → List (Key × D) → Prop
  | nil : RepK K F M H [] []
  | cons {k : Key} {v : V} {vs : List (Key × V)} {d : D} {ds : List (Key × D)} : Rep K F M H v d → RepK K F M H vs ds → RepK K F M H ((k, v) :: vs) ((k, d) :: ds)
end
/-- what keeps them: from one heap to a later one -/
structure Kp (F : Addr → Prop) (M : List Addr) (H : Hp) (F' : Addr → Prop) (M' : List Addr) (H' : Hp) : Prop where
  rd : ∀ a o, H a = some o → ¬ F a → H' a = some o ∧ ¬ F' a
  tup : ∀ a xs, Rd H a (.tup xs) → Rd H' a (.tup xs)
  m : ∀ (i : Nat) (p : Addr), M[i]? = some p → M'[i]? = some p
section
variable {K : PySem.W.Frag} {F F' F2 : Addr → Prop} {M M' M2 : List Addr} {H H' H2 : Hp}
theorem Kp.rdd (k : Kp F M H F' M' H') {a : Addr} {u : HO} (r : Rd H a u) (n : ¬ F a) : Rd H' a u ∧ ¬ F' a := by
  rcases r with r | ⟨o, r⟩
  · exact ⟨.inl (k.rd _ _ r n).1, (k.rd _ _ r n).2⟩
  · exact ⟨.inr ⟨o, (k.rd _ _ r n).1⟩, (k.rd _ _ r n).2⟩
theorem Kp.sqT (k : Kp F M H F' M' H') {a : Addr} {vs : List V} (r : SqT K H a vs) : SqT K H' a vs := by
  rcases r with r | r
  · exact .inl (k.tup _ _ r)
  · exact .inr r
theorem Kp.fzL (k : Kp F M H F' M' H') {a : Addr} {vs : List V} (r : FzL K F H a vs) : FzL K F' H' a vs := by
  rcases r with ⟨r, n⟩ | r
  · exact .inl (k.rdd r n)
  · exact .inr r
mutual
theorem Rep.keep (k : Kp F M H F' M' H') : ∀ {v : V} {d : D}, Rep K F M H v d → Rep K F' M' H' v d
  | _, _, .non => .non
  | _, _, .bl b => .bl b
  | _, _, .int i => .int i
  | _, _, .str x => .str x
  | _, _, .tup h z r => .tup (k.sqT h) z (RepL.keep k r)
  | _, _, .lst h n z r => .lst (k.rdd h n).1 (k.rdd h n).2 z (RepL.keep k r)
  | _, _, .dic h n z r => .dic (k.rdd h n).1 (k.rdd h n).2 z (RepK.keep k r)
  | _, _, .obj h => .obj (k.m _ _ h)
  | _, _, .scr h z => .scr (k.fzL h) z
theorem RepL.keep (k : Kp F M H F' M' H') : ∀ {v : List V} {d : List D}, RepL K F M H v d → RepL K F' M' H' v d
  | _, _, .nil => .nil
  | _, _, .cons h r => .cons (Rep.keep k h) (RepL.keep k r)
theorem RepK.keep (k : Kp F M H F' M' H') : ∀ {v : List (Key × V)} {d : List (Key × D)}, RepK K F M H v d → RepK K F' M' H' v d
  | _, _, .nil => .nil
  | _, _, .cons h r => .cons (Rep.keep k h) (RepK.keep k r)
end
theorem Kp.refl : Kp F M H F M H := ⟨fun _ _ h n => ⟨h, n⟩, fun _ _ h => h, fun _ _ h => h⟩
theorem Kp.trans (a : Kp F M H F' M' H') (b : Kp F' M' H' F2 M2 H2) : Kp F M H F2 M2 H2 :=
  ⟨fun x o h n => b.rd x o (a.rd x o h n).1 (a.rd x o h n).2, fun x o h => b.tup x o (a.tup x o h), fun i p h => b.m i p (a.m i p h)⟩
theorem Same.rdd (e : Same H H') {a : Addr} {u : HO} (r : Rd H a u) : Rd H' a u := by
  rcases r with r | ⟨o, r⟩
  · exact .inl (e _ _ r)
  · exact .inr ⟨o, e _ _ r⟩
theorem Kp.same (e : Same H H') : Kp F M H F M H' := ⟨fun _ _ h n => ⟨e _ _ h, n⟩, fun _ _ h => Same.rdd e h, fun _ _ h => h⟩
/-- fewer changeable ones -/
theorem Kp.less (e : ∀ a, F' a → F a) : Kp F M H F' M H := ⟨fun _ _ h n => ⟨h, fun z => n (e _ z)⟩, fun _ _ h => h, fun _ _ h => h⟩
theorem same_upd {p : Addr} {o : HO} (h : H p = none) : Same H (upd H p o) := fun b x e => by rw [upd_ne (ne_of_none e h)]; exact e
theorem RepL.len {vs : List V} {ds : List D} : RepL K F M H vs ds → vs.length = ds.length
  | .nil => rfl
  | .cons _ r => congrArg (· + 1) r.len
theorem RepK.len {vs : List (Key × V)} {ds : List (Key × D)} : RepK K F M H vs ds → vs.length = ds.length
  | .nil => rfl
  | .cons _ r => congrArg (· + 1) r.len
theorem RepL.get : ∀ {vs : List V} {ds : List D} {i : Nat} {d : D}, RepL K F M H vs ds → ds[i]? = some d → ∃ v, vs[i]? = some v ∧ Rep K F M H v d
  | _, _, _, _, .nil, e => by simp at e
  | _, _, 0, _, .cons h _, e => by simp at e; subst e; exact ⟨_, rfl, h⟩
  | _, _, i + 1, _, .cons _ r, e => by
    obtain ⟨v, h1, h2⟩ := RepL.get (i := i) r (by simpa using e)
    exact ⟨v, by simpa using h1, h2⟩
theorem RepL.getV : ∀ {vs : List V} {ds : List D} {i : Nat} {v : V}, RepL K F M H vs ds → vs[i]? = some v → ∃ d, ds[i]? = some d ∧ Rep K F M H v d
  | _, _, _, _, .nil, e => by simp at e
  | _, _, 0, _, .cons h _, e => by simp at e; subst e; exact ⟨_, rfl, h⟩
  | _, _, i + 1, _, .cons _ r, e => by
    obtain ⟨v, h1, h2⟩ := RepL.getV (i := i) r (by simpa using e)
    exact ⟨v, by simpa using h1, h2⟩
theorem RepL.append : ∀ {vs ws : List V} {ds es : List D}, RepL K F M H vs ds → RepL K F M H ws es → RepL K F M H (vs ++ ws) (ds ++ es)
  | _, _, _, _, .nil, s => s
  | _, _, _, _, .cons h r, s => .cons h (RepL.append r s)
theorem RepL.take : ∀ {vs : List V} {ds : List D} (n : Nat), RepL K F M H vs ds → RepL K F M H (vs.take n) (ds.take n)
  | _, _, 0, _ => .nil
  | _, _, _ + 1, .nil => .nil
  | _, _, n + 1, .cons h r => .cons h (RepL.take n r)
theorem RepL.drop : ∀ {vs : List V} {ds : List D} (n : Nat), RepL K F M H vs ds → RepL K F M H (vs.drop n) (ds.drop n)
  | _, _, 0, r => r
  | _, _, _ + 1, .nil => .nil
  | _, _, n + 1, .cons _ r => RepL.drop n r
theorem RepL.set {v : V} {d : D} (h : Rep K F M H v d) : ∀ {vs : List V} {ds : List D} (n : Nat), RepL K F M H vs ds → RepL K F M H (vs.set n v) (ds.set n d)
  | _, _, _, .nil => .nil
  | _, _, 0, .cons _ r => .cons h r
  | _, _, n + 1, .cons q r => .cons q (RepL.set h n r)
theorem RepL.erase : ∀ {vs : List V} {ds : List D} (n : Nat), RepL K F M H vs ds → RepL K F M H (vs.eraseIdx n) (ds.eraseIdx n)
  | _, _, _, .nil => .nil
  | _, _, 0, .cons _ r => r
  | _, _, n + 1, .cons q r => .cons q (RepL.erase n r)
theorem RepL.reverse : ∀ {vs : List V} {ds : List D}, RepL K F M H vs ds → RepL K F M H vs.reverse ds.reverse
  | _, _, .nil => .nil
  | _, _, .cons h r => by
    rw [List.reverse_cons, List.reverse_cons]
    exact (RepL.reverse r).append (.cons h .nil)
theorem RepL.ints : ∀ {vs : List V} {ns : List Int}, RepL K F M H vs (ns.map D.int) → vs = ns.map V.int
  | _, [], .nil => rfl
  | _, _ :: _, .cons (.int _) r => by rw [RepL.ints r]; rfl
theorem RepL.strs : ∀ {vs : List V} {ns : List Str}, RepL K F M H vs (ns.map D.str) → vs = ns.map V.str
  | _, [], .nil => rfl
  | _, _ :: _, .cons (.str _) r => by rw [RepL.strs r]; rfl
theorem RepL.bls : ∀ {vs : List V} {ns : List Bool}, RepL K F M H vs (ns.map D.bl) → vs = ns.map V.bl
  | _, [], .nil => rfl
  | _, _ :: _, .cons (.bl _) r => by rw [RepL.bls r]; rfl
theorem RepL.ofInts : ∀ (ns : List Int), RepL K F M H (ns.map V.int) (ns.map D.int)
  | [] => .nil
  | _ :: r => .cons (.int _) (RepL.ofInts r)
theorem RepL.ofStrs : ∀ (ns : List Str), RepL K F M H (ns.map V.str) (ns.map D.str)
  | [] => .nil
  | _ :: r => .cons (.str _) (RepL.ofStrs r)
end

/-! ### the whole state -/
/-- an object that is changed: a list or a dict at p -/
def OwnC (K : PySem.W.Frag) (F : Addr → Prop) (M : List Addr) (H : Hp) (p : Addr) : D → Prop
  | .lst ds => ∃ vs, H p = some (.lst vs) ∧ RepL K F M H vs ds ∧ ds.length ≤ sizeLine
  | .dic ds => ∃ vs, H p = some (.dK vs) ∧ RepK K F M H vs ds ∧ ds.length ≤ sizeLine
  | _ => False
/-- the objects that the slots own hold -/
def Ow (own : List Nat) (σV : St) (σ : List (Option D)) (a : Addr) : Prop := ∃ i, i ∈ own ∧ σV[i]? = some (some (.ref a)) ∧ ∃ d, σ[i]? = some (some d)
structure SR (K : PySem.W.Frag) (own : List Nat) (F : Addr → Prop) (M : List Addr) (σV : St) (H : Hp) (s : S) : Prop where
  len : s.σ.length = σV.length
  val : ∀ (i : Nat) (d : D), i ∉ own → s.σ[i]? = some (some d) → ∃ v, σV[i]? = some (some v) ∧ Rep K F M H v d
  ownd : ∀ (i : Nat) (d : D), i ∈ own → s.σ[i]? = some (some d) → ∃ p, σV[i]? = some (some (.ref p)) ∧ OwnC K F M H p d ∧ F p ∧ p ∉ M
  dis : ∀ (i j : Nat) (p : Addr) (d e : D), i ∈ own → j ∈ own → s.σ[i]? = some (some d) → s.σ[j]? = some (some e) → σV[i]? = some (some (.ref p)) → σV[j]? = some (some (.ref p)) → i = j
  ml : M.length = s.h.length
  nd : M.Nodup
  obj : ∀ (i : Nat) (p : Addr) (d : D), M[i]? = some p → s.h[i]? = some d → OwnC K F M H p d ∧ F p
  ft : ∀ a, F a → ∃ o, H a = some o
/-- from a state to a later one: what is neither changeable nor owned stays -/
structure EE (F : Addr → Prop) (M : List Addr) (O : Addr → Prop) (H : Hp) (F' : Addr → Prop) (M' : List Addr) (O' : Addr → Prop) (H' : Hp) : Prop where
  keep : ∀ a o, H a = some o → a ∉ M → ¬ O a → H' a = some o ∧ a ∉ M' ∧ ¬ O' a ∧ (F' a ↔ F a)
  gr : ∀ a o, H a = some o → ∃ o', H' a = some o'
  m : ∀ (i : Nat) (p : Addr), M[i]? = some p → M'[i]? = some p
section
variable {K : PySem.W.Frag} {own : List Nat} {F F' F2 : Addr → Prop} {M M' M2 : List Addr} {O' O2 O1 : Addr → Prop} {σV σV' : St} {H H' H2 : Hp} {s s' : S}
theorem EE.refl : EE F M O1 H F M O1 H := ⟨fun _ _ h m o => ⟨h, m, o, Iff.rfl⟩, fun _ o h => ⟨o, h⟩, fun _ _ h => h⟩
theorem EE.trans (a : EE F M O1 H F' M' O' H') (b : EE F' M' O' H' F2 M2 O2 H2) : EE F M O1 H F2 M2 O2 H2 := by
  refine ⟨fun x o h m n => ?_, fun x o h => let ⟨o', h'⟩ := a.gr x o h; b.gr x o' h', fun i p h => b.m i p (a.m i p h)⟩
  obtain ⟨h1, m1, n1, i1⟩ := a.keep x o h m n
  obtain ⟨h2, m2, n2, i2⟩ := b.keep x o h1 m1 n1
  exact ⟨h2, m2, n2, i2.trans i1⟩
theorem EE.same (e : Same H H') : EE F M O1 H F M O1 H' := ⟨fun _ _ h m o => ⟨e _ _ h, m, o, Iff.rfl⟩, fun _ o h => ⟨o, e _ _ h⟩, fun _ _ h => h⟩
theorem OwnC.mut {p : Addr} {d : D} (h : OwnC K F M H p d) : ∀ xs, ¬ Rd H p (.tup xs) := by
  intro xs r
  cases d with
  | lst ds => obtain ⟨vs, e, _⟩ := h; rcases r with r | ⟨o, r⟩ <;> rw [e] at r <;> cases r
  | dic ds => obtain ⟨vs, e, _⟩ := h; rcases r with r | ⟨o, r⟩ <;> rw [e] at r <;> cases r
  | _ => exact h.elim
theorem OwnC.keep {p : Addr} {d : D} (k : Kp F M H F' M' H') (e : ∀ o, H p = some o → H' p = some o) (h : OwnC K F M H p d) : OwnC K F' M' H' p d := by
  cases d with
  | lst ds => obtain ⟨vs, q, r, z⟩ := h; exact ⟨vs, e _ q, r.keep k, z⟩
  | dic ds => obtain ⟨vs, q, r, z⟩ := h; exact ⟨vs, e _ q, r.keep k, z⟩
  | _ => exact h.elim
theorem SR.hget (R : SR K own F M σV H s) {i : Nat} {p : Addr} (h : M[i]? = some p) : ∃ d, s.h[i]? = some d := by
  have : i < M.length := (List.getElem?_eq_some_iff.mp h).1
  exact ⟨s.h[i]'(by rw [← R.ml]; exact this), List.getElem?_eq_getElem _⟩
theorem SR.inM (R : SR K own F M σV H s) {p : Addr} (h : p ∈ M) : F p ∧ ∃ d, OwnC K F M H p d := by
  obtain ⟨i, hi⟩ := List.getElem?_of_mem h
  obtain ⟨d, hd⟩ := R.hget hi
  exact ⟨(R.obj i p d hi hd).2, d, (R.obj i p d hi hd).1⟩
theorem SR.inO (R : SR K own F M σV H s) {p : Addr} (h : Ow own σV s.σ p) : F p ∧ p ∉ M ∧ ∃ d, OwnC K F M H p d := by
  obtain ⟨i, hi, hv, d, hd⟩ := h
  obtain ⟨q, e1, e2, e3, e4⟩ := R.ownd i d hi hd
  rw [hv] at e1
  cases e1
  exact ⟨e3, e4, d, e2⟩
theorem SR.kp (R : SR K own F M σV H s) (e : EE F M (Ow own σV s.σ) H F' M' O' H') : Kp F M H F' M' H' := by
  refine ⟨fun a o h n => ?_, fun a xs h => ?_, e.m⟩
  · obtain ⟨h1, _, _, i⟩ := e.keep a o h (fun z => n (R.inM z).1) (fun z => n (R.inO z).1)
    exact ⟨h1, fun z => n (i.mp z)⟩
  · have nm : a ∉ M := fun z => let ⟨_, _, q⟩ := R.inM z; q.mut xs h
    have no : ¬ Ow own σV s.σ a := fun z => let ⟨_, _, _, q⟩ := R.inO z; q.mut xs h
    rcases h with h | ⟨o, h⟩
    · exact .inl (e.keep a _ h nm no).1
    · exact .inr ⟨o, (e.keep a _ h nm no).1⟩
/-- the heap grew -/
theorem SR.same (R : SR K own F M σV H s) (e : Same H H') : SR K own F M σV H' s := by
  have k : Kp F M H F M H' := Kp.same e
  refine ⟨R.len, fun i d n h => ?_, fun i d n h => ?_, R.dis, R.ml, R.nd, fun i p d h1 h2 => ?_, fun a h => ?_⟩
  · obtain ⟨v, e1, e2⟩ := R.val i d n h
    exact ⟨v, e1, e2.keep k⟩
  · obtain ⟨p, e1, e2, e3, e4⟩ := R.ownd i d n h
    exact ⟨p, e1, e2.keep k fun o => e p o, e3, e4⟩
  · obtain ⟨e1, e2⟩ := R.obj i p d h1 h2
    exact ⟨e1.keep k fun o => e p o, e2⟩
  · obtain ⟨o, h⟩ := R.ft a h
    exact ⟨o, e _ _ h⟩
/-- the heap's part alone -/
theorem SR.bare (R : SR K own F M σV H s) : SR K [] F M [] H ⟨[], s.h⟩ :=
  ⟨rfl, fun i d _ h => by simp at h, fun i d n => absurd n (by simp), fun i j p d e n => absurd n (by simp), R.ml, R.nd, R.obj, R.ft⟩
/-- behind a call: the callee's part joined to the slots -/
theorem SR.join (R : SR K own F M σV H s) {h' : List D} (R' : SR K [] F' M' [] H' ⟨[], h'⟩) (e : EE F M (fun _ => False) H F' M' (fun _ => False) H') : SR K own F' M' σV H' ⟨s.σ, h'⟩ := by
  have k : Kp F M H F' M' H' := R.bare.kp (O' := fun _ => False) ⟨fun a o h m _ => e.keep a o h m (fun z => z), e.gr, e.m⟩
  refine ⟨R.len, fun i d n h => ?_, fun i d n h => ?_, R.dis, R'.ml, R'.nd, R'.obj, R'.ft⟩
  · obtain ⟨v, e1, e2⟩ := R.val i d n h
    exact ⟨v, e1, e2.keep k⟩
  · obtain ⟨p, e1, e2, e3, e4⟩ := R.ownd i d n h
    obtain ⟨o, ho⟩ := R.ft p e3
    obtain ⟨q1, q2, _, q3⟩ := e.keep p o ho e4 (fun z => z)
    exact ⟨p, e1, e2.keep k (fun o h => (e.keep p o h e4 fun z => z).1), q3.mpr e3, q2⟩
theorem EE.join (e : EE F M (fun _ => False) H F' M' (fun _ => False) H') : EE F M O1 H F' M' O1 H' :=
  ⟨fun a o h m n => let ⟨x, y, _, z⟩ := e.keep a o h m (fun z => z); ⟨x, y, n, z⟩, e.gr, e.m⟩
end
end Kr

namespace Kr
open PySem PySem.Spec L2
open PyProof.Rows hiding St

/-! ### the plain evaluator's pieces -/
def bnd {α β : Type} (d : ME α) (f : α → ME β) : ME β := fun s => match d s with
  | .ok p => f p.1 ⟨s.σ, p.2⟩
  | .error e => .error e
def ret {α : Type} (a : α) : ME α := fun s => .ok (a, s.h)
def stk {α : Type} : ME α := fun _ => .error .stuck
def opt {α : Type} : Option α → ME α
  | some a => ret a
  | none => stk
theorem bnd_ok {α β : Type} {d : ME α} {f : α → ME β} {s : S} {h' : List D} {b : β} (h : bnd d f s = .ok (b, h')) : ∃ a h1, d s = .ok (a, h1) ∧ f a ⟨s.σ, h1⟩ = .ok (b, h') := by
  unfold bnd at h
  cases e : d s with
  | ok p => rw [e] at h; exact ⟨p.1, p.2, rfl, h⟩
  | error x => rw [e] at h; cases h
theorem opt_ok {α : Type} {o : Option α} {s : S} {h' : List D} {b : α} (h : opt o s = .ok (b, h')) : o = some b ∧ h' = s.h := by
  cases o with
  | none => cases h
  | some a => cases h; exact ⟨rfl, rfl⟩
theorem ret_ok {α : Type} {a b : α} {s : S} {h' : List D} (h : ret a s = .ok (b, h')) : b = a ∧ h' = s.h := by cases h; exact ⟨rfl, rfl⟩
/-- an operand: a value, what an own slot holds, a changeable object -/
inductive Op where
  | val (d : D) | own (i : Nat) | ob (i : Nat)
abbrev DO := ME Op
def deref (s : S) : Op → Option D
  | .val d => some d
  | .own i => (s.σ[i]?).join
  | .ob i => s.h[i]?

/-! ### what is to be shown of a reading -/
section
variable (K : PySem.W.Frag) (own : List Nat)
/-- ρ: what a result is -/
abbrev Rl (α β : Type) := (Addr → Prop) → List Addr → Hp → St → α → β → Prop
def AdR {α β : Type} (ρ : Rl α β) (t : St → Hp → (α → Hp → Prop) → Prop) (d : ME β) : Prop :=
  ∀ (F : Addr → Prop) (M : List Addr) (σV : St) (H : Hp) (s : S) (r : β) (h' : List D), SR K own F M σV H s → d s = .ok (r, h') → ∀ Q : α → Hp → Prop,
    (∀ (F' : Addr → Prop) (M' : List Addr) (H' : Hp) (v : α), SR K own F' M' σV H' ⟨s.σ, h'⟩ → EE F M (Ow own σV s.σ) H F' M' (Ow own σV s.σ) H' → ρ F' M' H' σV v r → Q v H') → t σV H Q
abbrev ρV : Rl V D := fun F M H _ v d => Rep K F M H v d
abbrev ρL : Rl (List V) (List D) := fun F M H _ v d => RepL K F M H v d
abbrev ρB : Rl Bool Bool := fun _ _ _ _ v d => v = d
def RepO (F : Addr → Prop) (M : List Addr) (H : Hp) (σV : St) (v : V) : Op → Prop
  | .val d => Rep K F M H v d
  | .own i => i ∈ own ∧ σV[i]? = some (some v)
  | .ob i => ∃ p, v = .ref p ∧ M[i]? = some p
abbrev ρO : Rl V Op := fun F M H σV v d => RepO K own F M H σV v d
/-- a value by its content alone -/
def RepC (F : Addr → Prop) (M : List Addr) (H : Hp) (v : V) : D → Prop
  | .lst ds => ∃ a vs, v = .ref a ∧ Rd H a (.lst vs) ∧ RepL K F M H vs ds ∧ ds.length ≤ sizeLine
  | .dic ds => ∃ a vs, v = .ref a ∧ Rd H a (.dK vs) ∧ RepK K F M H vs ds ∧ ds.length ≤ sizeLine
  | d => Rep K F M H v d
end
section
variable {K : PySem.W.Frag} {own : List Nat} {F F' : Addr → Prop} {M M' : List Addr} {H H' : Hp} {σV : St} {v : V} {d : D} {s : S} {o : Op}
theorem RepC.of (h : Rep K F M H v d) : RepC K F M H v d := by
  cases h with
  | lst h n z r => exact ⟨_, _, rfl, h, r, z⟩
  | dic h n z r => exact ⟨_, _, rfl, h, r, z⟩
  | non => exact .non
  | bl b => exact .bl b
  | int i => exact .int i
  | str x => exact .str x
  | tup h z r => exact .tup h z r
  | obj h => exact .obj h
  | scr h z => exact .scr h z
theorem RepC.ofOwn {p : Addr} (h : OwnC K F M H p d) : RepC K F M H (.ref p) d := by
  cases d with
  | lst ds => obtain ⟨vs, e, r, z⟩ := h; exact ⟨p, vs, rfl, .inl e, r, z⟩
  | dic ds => obtain ⟨vs, e, r, z⟩ := h; exact ⟨p, vs, rfl, .inl e, r, z⟩
  | _ => exact h.elim
theorem RepO.keep (k : Kp F M H F' M' H') (h : RepO K own F M H σV v o) : RepO K own F' M' H' σV v o := by
  cases o with
  | val d => exact Rep.keep k h
  | own i => exact h
  | ob i => obtain ⟨p, e, m⟩ := h; exact ⟨p, e, k.m _ _ m⟩
theorem deref_ok (R : SR K own F M σV H s) (h : RepO K own F M H σV v o) (e : deref s o = some d) : RepC K F M H v d := by
  cases o with
  | val d' => cases e; exact RepC.of h
  | own i =>
    obtain ⟨hi, hv⟩ := h
    have e' : s.σ[i]? = some (some d) := by
      have e : (s.σ[i]?).join = some d := e
      cases q : s.σ[i]? with
      | none => rw [q] at e; cases e
      | some x => rw [q] at e; cases x with
        | none => cases e
        | some y => cases e; rfl
    obtain ⟨p, h1, h2, _⟩ := R.ownd i d hi e'
    rw [hv] at h1
    cases h1
    exact RepC.ofOwn h2
  | ob i =>
    obtain ⟨p, rfl, m⟩ := h
    exact RepC.ofOwn (R.obj i p d m e).1
end

/-! ### expressions, tests, arguments together with what they give -/
structure PX (X : Cx) (own : List Nat) (e : Expr) (t : TE) (d : DE) : Prop where
  pe : PE X e t
  ad : AdR X.K own (ρV X.K) t d
structure PXO (X : Cx) (own : List Nat) (e : Expr) (t : TE) (d : DO) : Prop where
  pe : PE X e t
  ad : AdR X.K own (ρO X.K own) t d
structure PXT (X : Cx) (own : List Nat) (e : Expr) (t : TT) (d : DB) : Prop where
  pt : PT X e t
  ad : AdR X.K own ρB t d
structure PXW (X : Cx) (own : List Nat) (e : Expr) (t : TT) (d : DB) : Prop where
  pw : PW X e t
  ad : AdR X.K own ρB t d
structure PXA (X : Cx) (own : List Nat) (e : List Expr) (t : TA) (d : DA) : Prop where
  pa : PA X e t
  ad : AdR X.K own (ρL X.K) t d
section
variable {X : Cx} {own : List Nat} {e a b c : Expr} {es : List Expr} {t ta tb tc : TE} {d da db dc : DE} {pos : Pos}
def oV (d : DE) : DO := bnd d fun x => ret (.val x)
def oOwn (i : Nat) : DO := ret (.own i)
def oOb (d : DE) : DO := bnd d fun x => match x with
  | .obj i => ret (.ob i)
  | _ => stk
theorem xo (h : PX X own e t d) : PXO X own e t (oV d) := ⟨h.pe, fun F M σV H s r s' R q Q post => by
  obtain ⟨x, s1, q1, q2⟩ := bnd_ok q
  obtain ⟨rfl, rfl⟩ := ret_ok q2
  exact h.ad F M σV H s x s' R q1 Q fun F' M' H' v R' E' r' => post F' M' H' v R' E' r'⟩
theorem xob (h : PX X own e t d) : PXO X own e t (oOb d) := ⟨h.pe, fun F M σV H s r s' R q Q post => by
  obtain ⟨x, s1, q1, q2⟩ := bnd_ok q
  cases x with
  | obj i =>
    obtain ⟨rfl, rfl⟩ := ret_ok q2
    refine h.ad F M σV H s _ s' R q1 Q fun F' M' H' v R' E' r' => post F' M' H' v R' E' ?_
    cases r' with
    | obj m => exact ⟨_, rfl, m⟩
  | _ => cases q2⟩
def dVar (i : Nat) : DE := fun s => match s.σ[i]? with
  | some (some d) => .ok (d, s.h)
  | _ => .error .stuck
def dC (d : D) : DE := ret d
/-- a name that is not an own slot -/
theorem xv (i : Nat) {x : Str} (hi : i ∉ own := by decide) (hN : X.N[i]? = some x := by rfl) (hv : Vis X.env.scope x := by first | exact Or.inl rfl | exact Or.inr (Or.inl rfl) | exact Or.inr (Or.inr rfl)) (hd : (x == ("__debug__" : Str)) = false := by decide)
    (hcd : (x == ("__classdict__" : Str)) = false := by decide) : PX X own (.Name x pos) (tVar i) (dVar i) := ⟨pe_var hN hv hd hcd, fun F M σV H s r s' R q Q post => by
  unfold dVar at q
  split at q
  · rename_i d e
    cases q
    obtain ⟨v, h1, h2⟩ := R.val i _ hi e
    exact ⟨v, h1, post F M H v R EE.refl h2⟩
  · cases q⟩
/-- a name that is an own slot -/
theorem xown (i : Nat) {x : Str} (hi : i ∈ own := by decide) (hN : X.N[i]? = some x := by rfl) (hv : Vis X.env.scope x := by first | exact Or.inl rfl | exact Or.inr (Or.inl rfl) | exact Or.inr (Or.inr rfl)) (hd : (x == ("__debug__" : Str)) = false := by decide)
    (hcd : (x == ("__classdict__" : Str)) = false := by decide) : PXO X own (.Name x pos) (tVar i) (fun s => match (s.σ[i]?).join with
      | some _ => .ok (.own i, s.h)
      | none => .error .stuck) := ⟨pe_var hN hv hd hcd, fun F M σV H s r s' R q Q post => by
  split at q
  · rename_i d e
    cases q
    have e' : s.σ[i]? = some (some d) := by
      cases q : s.σ[i]? with
      | none => rw [q] at e; cases e
      | some x => rw [q] at e; cases x with
        | none => cases e
        | some y => cases e; rfl
    obtain ⟨p, h1, _⟩ := R.ownd i d hi e'
    exact ⟨_, h1, post F M H _ R EE.refl ⟨hi, h1⟩⟩
  · cases q⟩
theorem xint {i : Int} {j : Nat} : PX X own (.Constant (.int i) j pos) (tC (.int i)) (dC (.int i)) := ⟨pe_int, fun F M σV H s r s' R q Q post => by
  obtain ⟨rfl, rfl⟩ := ret_ok q
  exact post F M H _ R EE.refl (.int i)⟩
theorem xbl {i : Bool} {j : Nat} : PX X own (.Constant (.bool i) j pos) (tC (.bl i)) (dC (.bl i)) := ⟨pe_bl, fun F M σV H s r s' R q Q post => by
  obtain ⟨rfl, rfl⟩ := ret_ok q
  exact post F M H _ R EE.refl (.bl i)⟩
theorem xnon {j : Nat} : PX X own (.Constant .none j pos) (tC .non) (dC .non) := ⟨pe_non, fun F M σV H s r s' R q Q post => by
  obtain ⟨rfl, rfl⟩ := ret_ok q
  exact post F M H _ R EE.refl .non⟩
theorem xstr {x : Str} {j : Nat} : PX X own (.Constant (.str x) j pos) (tC (.str x)) (dC (.str x)) := ⟨pe_str, fun F M σV H s r s' R q Q post => by
  obtain ⟨rfl, rfl⟩ := ret_ok q
  exact post F M H _ R EE.refl (.str x)⟩

/-! ### operations on two operands, on one -/
def Op2 (K : PySem.W.Frag) (r : R2) (g : D → D → Option D) : Prop := ∀ (F : Addr → Prop) (M : List Addr) (H : Hp) (x y : V) (d e z : D) (Q : VK), (∀ a, F a → ∃ o, H a = some o) → RepC K F M H x d → RepC K F M H y e → g d e = some z →
  (∀ H' v, Same H H' → Rep K F M H' v z → Q v H') → r x y H Q
def o2 (g : D → D → Option D) (a b : DO) : DE := bnd a fun x => bnd b fun y s => match deref s x, deref s y with
  | some x, some y => opt (g x y) s
  | _, _ => .error .stuck
theorem ad_op2 {K : PySem.W.Frag} {r : R2} {g : D → D → Option D} {oa ob : DO} (hr : Op2 K r g) (ha : AdR K own (ρO K own) ta oa) (hb : AdR K own (ρO K own) tb ob) : AdR K own (ρV K) (tOp r ta tb) (o2 g oa ob) := by
  intro F M σV H s z s' R q Q post
  obtain ⟨x, s1, q1, q⟩ := bnd_ok q
  obtain ⟨y, s2, q2, q⟩ := bnd_ok q
  split at q
  · rename_i d e h1 h2
    obtain ⟨q3, rfl⟩ := opt_ok q
    refine ha F M σV H s x s1 R q1 _ fun F1 M1 H1 v R1 E1 r1 => ?_
    refine hb F1 M1 σV H1 ⟨s.σ, s1⟩ y _ R1 q2 _ fun F2 M2 H2 w R2 E2 r2 => ?_
    exact hr F2 M2 H2 v w d e z Q R2.ft (deref_ok R2 (RepO.keep (R1.kp E2) r1) h1) (deref_ok R2 r2 h2) q3 fun H3 v3 sm rz => post F2 M2 H3 v3 (R2.same sm) ((E1.trans E2).trans (EE.same sm)) rz
  · cases q
theorem xbin {f : Operator} {r : R2} {g : D → D → Option D} {oa ob : DO} (hr : OpR X (binaryOp f) r) (hg : Op2 X.K r g) (ha : PXO X own a ta oa) (hb : PXO X own b tb ob) : PX X own (.BinOp a f b pos) (tOp r ta tb) (o2 g oa ob) :=
  ⟨pe_op hr ha.pe hb.pe, ad_op2 hg ha.ad hb.ad⟩
theorem xcmp {f : CmpOp} {r : R2} {g : D → D → Option D} {oa ob : DO} (hr : OpR X (compareOp f) r) (hg : Op2 X.K r g) (ha : PXO X own a ta oa) (hb : PXO X own b tb ob) (hm : behindInMarks f b = false := by first | exact nomark _ | rfl) : PX X own (.Compare a [f] [b] pos) (tOp r ta tb) (o2 g oa ob) :=
  ⟨pe_cmpR hr ha.pe hb.pe hm, ad_op2 hg ha.ad hb.ad⟩
theorem xix {r : R2} {g : D → D → Option D} {oa ob : DO} (hr : IxR X r) (hg : Op2 X.K r g) (ha : PXO X own a ta oa) (hb : PXO X own b tb ob) (hs : PlainIx b := by exact fun _ _ => rfl) : PX X own (.Subscript a b pos) (tOp r ta tb) (o2 g oa ob) :=
  ⟨pe_ix hr ha.pe hb.pe hs, ad_op2 hg ha.ad hb.ad⟩
end
end Kr

namespace Kr
open PySem PySem.Spec L2
open PyProof.Rows hiding St

/-! ### the operations of the plain evaluator -/
def bd {α : Type} (c : Prop) [Decidable c] (a : α) : Option α := if c then some a else none
theorem bd_ok {α : Type} {c : Prop} [Decidable c] {a b : α} (h : bd c a = some b) : c ∧ a = b := by
  unfold bd at h
  split at h
  · rename_i hc; cases h; exact ⟨hc, rfl⟩
  · cases h
def gAdd : D → D → Option D
  | .int a, .int b => some (.int (a + b))
  | .str a, .str b => bd (a.length + b.length ≤ sizeLine) (.str (a ++ b))
  | .tup a, .tup b => bd (a.length + b.length ≤ sizeLine) (.tup (a ++ b))
  | .lst a, .lst b => bd (a.length + b.length ≤ sizeLine) (.lst (a ++ b))
  | _, _ => none
def gSub : D → D → Option D
  | .int a, .int b => some (.int (a - b))
  | _, _ => none
def gMul : D → D → Option D
  | .int a, .int b => bd ((-(2 ^ 64) < a ∧ a < 2 ^ 64) ∨ (-(2 ^ 64) < b ∧ b < 2 ^ 64)) (.int (a * b))
  | _, _ => none
def gDiv : D → D → Option D
  | .int a, .int b => bd (0 < b ∧ b < 1073741824) (.int (a / b))
  | _, _ => none
def gMod : D → D → Option D
  | .int a, .int b => bd (0 < b) (.int (a % b))
  | _, _ => none
def gPow : D → D → Option D
  | .int a, .int b => bd (0 ≤ b ∧ b ≤ 1000000 ∧ a.natAbs < 2 ^ 64) (.int (a ^ b.toNat))
  | _, _ => none
def gLt : D → D → Option D
  | .int a, .int b => some (.bl (decide (a < b)))
  | _, _ => none
def gLe : D → D → Option D
  | .int a, .int b => some (.bl (decide (a ≤ b)))
  | _, _ => none
def gGt : D → D → Option D
  | .int a, .int b => some (.bl (decide (b < a)))
  | _, _ => none
def gGe : D → D → Option D
  | .int a, .int b => some (.bl (decide (b ≤ a)))
  | _, _ => none
/-! data of the library's -/
mutual
def toPy : D → Option PyData
  | .non => some .none
  | .bl b => some (.bool b)
  | .int i => some (.int i)
  | .str x => some (.str x)
  | .tup xs => (toPyL xs).map .tuple
  | .lst xs => (toPyL xs).map .list
  | .dic _ => none
  | .obj _ => none
  | .scr _ => none
def toPyL : List D → Option (List PyData)
  | [] => some []
  | x :: xs => match toPy x, toPyL xs with
    | some p, some q => some (p :: q)
    | _, _ => none
end
def isScal : D → Bool
  | .non => true
  | .int _ => true
  | .str _ => true
  | .bl _ => true
  | _ => false
def scalEq : D → D → Option Bool
  | .non, .non => some true
  | .non, .int _ => some false
  | .int _, .non => some false
  | .non, .bl _ => some false
  | .bl _, .non => some false
  | .non, .str _ => some false
  | .str _, .non => some false
  | .int a, .int b => some (decide (a = b))
  | .bl a, .bl b => some (decide (a = b))
  | .str a, .str b => some (decide (a = b))
  | .int _, .str _ => some false
  | .str _, .int _ => some false
  | .bl _, .str _ => some false
  | .str _, .bl _ => some false
  | _, _ => none
def deepEq (d e : D) : Option Bool := match toPy d, toPy e with
  | some p, some q => bd (SeqAt.shaped p = true ∧ SeqAt.shaped q = true) (PyData.eqv p q)
  | _, _ => none
def eqD (d e : D) : Option Bool := match scalEq d e with
  | some b => some b
  | none => deepEq d e
def gEq (d e : D) : Option D := (eqD d e).map .bl
def gNe (d e : D) : Option D := (eqD d e).map fun b => .bl (!b)
def gIsN : D → D → Option D
  | .non, .non => some (.bl true)
  | .int _, .non => some (.bl false)
  | .bl _, .non => some (.bl false)
  | .str _, .non => some (.bl false)
  | .tup _, .non => some (.bl false)
  | .lst _, .non => some (.bl false)
  | .dic _, .non => some (.bl false)
  | .obj _, .non => some (.bl false)
  | _, _ => none
def gNotN (d e : D) : Option D := match gIsN d e with
  | some (.bl b) => some (.bl (!b))
  | _ => none
/-- == of flat values, as the layer's eqV -/
def flatD : D → Bool
  | .non => true
  | .bl _ => true
  | .int _ => true
  | .str _ => true
  | _ => false
def eqF : D → D → Bool
  | .non, .non => true
  | .bl a, .bl b => a == b
  | .bl a, .int b => (if a then 1 else 0) == b
  | .int a, .bl b => a == (if b then 1 else 0)
  | .int a, .int b => a == b
  | .str a, .str b => a == b
  | _, _ => false
def toKey : D → Option Key
  | .int i => some (.inl i)
  | .str x => some (.inr x)
  | _ => none
def dGet (kvs : List (Key × D)) (k : Key) : Option D := (kvs.find? fun kv => decide (kv.1 = k)).map (·.2)
def inD (x : D) : D → Option Bool
  | .tup ys => bd (flatD x = true ∧ ys.all flatD = true) (ys.any fun y => eqF y x)
  | .lst ys => bd (flatD x = true ∧ ys.all flatD = true) (ys.any fun y => eqF y x)
  | .dic kvs => (toKey x).map fun k => (dGet kvs k).isSome
  | _ => none
def gIn (x y : D) : Option D := (inD x y).map .bl
def gNotIn (x y : D) : Option D := (inD x y).map fun b => .bl (!b)
def gIx : D → D → Option D
  | .tup xs, .int i => atI xs i
  | .lst xs, .int i => atI xs i
  | .scr xs, .int i => (atI xs i).map .int
  | .str x, .int i => bd (x.length ≤ sizeLine) () |>.bind fun _ => (atI x.cps.toList i).map fun c => .str ⟨#[c]⟩
  | .dic kvs, .int i => dGet kvs (.inl i)
  | .dic kvs, .str x => dGet kvs (.inr x)
  | _, _ => none

section
variable {X : Cx}
def rCatR : R2 := fun x y H Q => ∃ l b xs zs, x = .ref l ∧ y = .ref b ∧ Rd H l (.lst xs) ∧ Rd H b (.lst zs) ∧ xs.length + zs.length ≤ sizeLine ∧ ∀ p, H p = none → Q (.ref p) (upd H p (.lst (xs ++ zs)))
theorem lstR {pins : List (Addr × Obj)} {σ : St} {H : Hp} {s : Shared} {l : Addr} {xs : List V} (I : Inv X pins σ H s) (hH : Rd H l (.lst xs)) :
    xs.length ≤ sizeLine ∧ ∃ (its : List Value) (n : Nat), Vals xs its ∧ xs.length = its.length ∧ s.heap.get? l = some { cls := .type "list", data := .seq its.toArray n } := by
  obtain ⟨z, its, n, r, e⟩ := hH.ok I.hok
  exact ⟨z, its, n, r, r.length, e⟩
theorem op_catR : OpR X (binaryOp .Add) rCatR := by
  intro pins s σ H x y v u Q I rx ry h
  obtain ⟨l, b, xs, zs, rfl, rfl, hH, hB, hz, q⟩ := h
  cases rx
  cases ry
  obtain ⟨z, its, n, r, hl, e⟩ := lstR I hH
  obtain ⟨z2, its2, n2, r2, hl2, e2⟩ := lstR I hB
  refine PySem.P.add_list e e2 ?_ (by rw [List.size_toArray, List.size_toArray]; omega)
  have ea : its.toArray ++ its2.toArray = (its ++ its2).toArray := by simp
  rw [ea]
  exact ⟨.ref _, _, I.lnew (t' := s.toks) (r.append r2) (by rw [List.length_append]; omega), rfl, q _ I.fresh⟩
def rAddS : R2 := fun x y H Q => ∃ i j, x = .str i ∧ y = .str j ∧ i.length + j.length ≤ sizeLine ∧ Q (.str (i ++ j)) H
def rAddA (K : PySem.W.Frag) : R2 := fun x y H Q => (rI0 (fun i j => .int (i + j)) x y H Q ∨ rAddS x y H Q) ∨ (rCatA K x y H Q ∨ rCatR x y H Q)
theorem op_addA : OpR X (binaryOp .Add) (rAddA X.K) := OpR.or (OpR.or op_add op_add_str) (OpR.or op_catA op_catR)
variable {K : PySem.W.Frag}
theorem g_addA : Op2 K (rAddA K) gAdd := by
  intro F M H x y d e z Q ft rx ry hg q
  unfold gAdd at hg
  split at hg
  · cases rx; cases ry; cases hg
    exact .inl (.inl ⟨_, _, rfl, rfl, q H _ (Same.refl H) (.int _)⟩)
  · obtain ⟨hz, rfl⟩ := bd_ok hg
    cases rx; cases ry
    exact .inl (.inr ⟨_, _, rfl, rfl, hz, q H _ (Same.refl H) (.str _)⟩)
  · rename_i a b
    obtain ⟨hz, rfl⟩ := bd_ok hg
    cases rx with
    | @tup a1 vs1 _ h1 z1 r1 =>
    cases ry with
    | @tup a2 vs2 _ h2 z2 r2 =>
    refine .inr (.inl ⟨a1, a2, vs1, vs2, rfl, rfl, h1, h2, by rw [r1.len, r2.len]; exact hz, fun hn => ?_, fun hn hm => ?_, fun hn hm p hp => ?_⟩)
    · subst hn; cases r1
      exact q H _ (Same.refl H) (.tup h2 z2 r2)
    · subst hm; cases r2
      rw [List.append_nil] at q
      exact q H _ (Same.refl H) (.tup h1 z1 r1)
    · have k : Kp F M H F M (upd H p (.tup (vs1 ++ vs2))) := Kp.same (same_upd hp)
      exact q _ _ (same_upd hp) (.tup (.inl (.inl upd_same)) (by rw [List.length_append]; exact hz) ((r1.append r2).keep k))
  · rename_i a b
    obtain ⟨hz, rfl⟩ := bd_ok hg
    obtain ⟨a1, vs1, rfl, h1, r1, z1⟩ := rx
    obtain ⟨a2, vs2, rfl, h2, r2, z2⟩ := ry
    refine .inr (.inr ⟨a1, a2, vs1, vs2, rfl, rfl, h1, h2, by rw [r1.len, r2.len]; exact hz, fun p hp => ?_⟩)
    have k : Kp F M H F M (upd H p (.lst (vs1 ++ vs2))) := Kp.same (same_upd hp)
    refine q _ _ (same_upd hp) (.lst (.inl upd_same) (fun z => ?_) (by rw [List.length_append]; exact hz) ((r1.append r2).keep k))
    obtain ⟨o, ho⟩ := ft p z
    rw [hp] at ho; cases ho
  · cases hg
theorem g_int2 {C : Int → Int → Prop} {f : Int → Int → V} {g : D → D → Option D} (h : ∀ d e z, g d e = some z → ∃ i j w, d = .int i ∧ e = .int j ∧ C i j ∧ f i j = w ∧ ((∃ n, w = .int n ∧ z = .int n) ∨ ∃ b, w = .bl b ∧ z = .bl b)) : Op2 K (rI C f) g := by
  intro F M H x y d e z Q ft rx ry hg q
  obtain ⟨i, j, w, rfl, rfl, hc, hw, hz⟩ := h d e z hg
  cases rx; cases ry
  refine ⟨i, j, rfl, rfl, hc, ?_⟩
  rw [hw]
  rcases hz with ⟨n, rfl, rfl⟩ | ⟨b, rfl, rfl⟩
  · exact q H _ (Same.refl H) (.int n)
  · exact q H _ (Same.refl H) (.bl b)
theorem g_int0 {f : Int → Int → V} {g : D → D → Option D} (h : ∀ d e z, g d e = some z → ∃ i j w, d = .int i ∧ e = .int j ∧ f i j = w ∧ ((∃ n, w = .int n ∧ z = .int n) ∨ ∃ b, w = .bl b ∧ z = .bl b)) : Op2 K (rI0 f) g := by
  intro F M H x y d e z Q ft rx ry hg q
  obtain ⟨i, j, w, rfl, rfl, hw, hz⟩ := h d e z hg
  cases rx; cases ry
  refine ⟨i, j, rfl, rfl, ?_⟩
  rw [hw]
  rcases hz with ⟨n, rfl, rfl⟩ | ⟨b, rfl, rfl⟩
  · exact q H _ (Same.refl H) (.int n)
  · exact q H _ (Same.refl H) (.bl b)
theorem g_sub : Op2 K (rI0 fun i j => .int (i - j)) gSub := g_int0 fun d e z h => by
  unfold gSub at h; split at h
  · cases h; exact ⟨_, _, _, rfl, rfl, rfl, .inl ⟨_, rfl, rfl⟩⟩
  · cases h
theorem g_mul : Op2 K (rI CMul fun i j => .int (i * j)) gMul := g_int2 fun d e z h => by
  unfold gMul at h; split at h
  · obtain ⟨c, rfl⟩ := bd_ok h; exact ⟨_, _, _, rfl, rfl, c, rfl, .inl ⟨_, rfl, rfl⟩⟩
  · cases h
theorem g_div : Op2 K (rI CDiv fun i j => .int (i / j)) gDiv := g_int2 fun d e z h => by
  unfold gDiv at h; split at h
  · obtain ⟨c, rfl⟩ := bd_ok h; exact ⟨_, _, _, rfl, rfl, c, rfl, .inl ⟨_, rfl, rfl⟩⟩
  · cases h
theorem g_mod : Op2 K (rI (fun _ j => 0 < j) fun i j => .int (i % j)) gMod := g_int2 fun d e z h => by
  unfold gMod at h; split at h
  · obtain ⟨c, rfl⟩ := bd_ok h; exact ⟨_, _, _, rfl, rfl, c, rfl, .inl ⟨_, rfl, rfl⟩⟩
  · cases h
theorem g_pow : Op2 K (rI CPow fun i j => .int (i ^ j.toNat)) gPow := g_int2 fun d e z h => by
  unfold gPow at h; split at h
  · obtain ⟨c, rfl⟩ := bd_ok h; exact ⟨_, _, _, rfl, rfl, c, rfl, .inl ⟨_, rfl, rfl⟩⟩
  · cases h
theorem g_lt : Op2 K (rI0 fun i j => .bl (decide (i < j))) gLt := g_int0 fun d e z h => by
  unfold gLt at h; split at h
  · cases h; exact ⟨_, _, _, rfl, rfl, rfl, .inr ⟨_, rfl, rfl⟩⟩
  · cases h
theorem g_le : Op2 K (rI0 fun i j => .bl (decide (i ≤ j))) gLe := g_int0 fun d e z h => by
  unfold gLe at h; split at h
  · cases h; exact ⟨_, _, _, rfl, rfl, rfl, .inr ⟨_, rfl, rfl⟩⟩
  · cases h
theorem g_gt : Op2 K (rI0 fun i j => .bl (decide (i > j))) gGt := g_int0 fun d e z h => by
  unfold gGt at h; split at h
  · cases h; exact ⟨_, _, _, rfl, rfl, rfl, .inr ⟨_, rfl, rfl⟩⟩
  · cases h
theorem g_ge : Op2 K (rI0 fun i j => .bl (decide (i ≥ j))) gGe := g_int0 fun d e z h => by
  unfold gGe at h; split at h
  · cases h; exact ⟨_, _, _, rfl, rfl, rfl, .inr ⟨_, rfl, rfl⟩⟩
  · cases h
/-! == -/
mutual
theorem dp_of {F : Addr → Prop} {M : List Addr} {H : Hp} : ∀ {v : V} {d : D} {p : PyData}, Rep K F M H v d → toPy d = some p → Dp K H v p
  | _, _, _, .non, e => by simp only [toPy] at e; cases e; exact .non
  | _, _, _, .bl b, e => by simp only [toPy] at e; cases e; exact .bl b
  | _, _, _, .int b, e => by simp only [toPy] at e; cases e; exact .int b
  | _, _, _, .str b, e => by simp only [toPy] at e; cases e; exact .str b
  | _, _, _, .tup h z r, e => by
    simp only [toPy] at e
    cases q : toPyL _ with
    | none => rw [q] at e; cases e
    | some l => rw [q] at e; cases e; exact .tup h (dpl_of r q)
  | _, _, _, .lst h n z r, e => by
    simp only [toPy] at e
    cases q : toPyL _ with
    | none => rw [q] at e; cases e
    | some l => rw [q] at e; cases e; exact .lst (.inl h) (dpl_of r q)
  | _, _, _, .dic h n z r, e => by simp only [toPy] at e; cases e
  | _, _, _, .obj h, e => by simp only [toPy] at e; cases e
  | _, _, _, .scr h z, e => by simp only [toPy] at e; cases e
theorem dpl_of {F : Addr → Prop} {M : List Addr} {H : Hp} : ∀ {v : List V} {d : List D} {p : List PyData}, RepL K F M H v d → toPyL d = some p → DpAll K H v p
  | _, _, _, .nil, e => by simp only [toPyL] at e; cases e; exact .nil
  | _, _, _, .cons h r, e => by
    simp only [toPyL] at e
    split at e
    · rename_i a b h1 h2
      cases e
      exact .cons (dp_of h h1) (dpl_of r h2)
    · cases e
end
theorem dpC_of {F : Addr → Prop} {M : List Addr} {H : Hp} {v : V} {d : D} {p : PyData} (h : RepC K F M H v d) (e : toPy d = some p) : Dp K H v p := by
  cases d with
  | lst ds =>
    obtain ⟨a, vs, rfl, h1, r, z⟩ := h
    simp only [toPy] at e
    cases q : toPyL ds with
    | none => rw [q] at e; cases e
    | some l => rw [q] at e; cases e; exact .lst (.inl h1) (dpl_of r q)
  | dic ds => simp only [toPy] at e; cases e
  | _ => exact dp_of (show Rep K F M H _ _ from h) e
def rEqA (K : PySem.W.Frag) : R2 := fun x y H Q => rEq x y H Q ∨ rEqD K x y H Q
def rNeA (K : PySem.W.Frag) : R2 := fun x y H Q => rNe x y H Q ∨ rNeD K x y H Q
theorem op_eqA (hu : X.A.units + 64 < cLine) : OpR X (compareOp .Eq) (rEqA X.K) := OpR.or op_eq (op_eqD hu)
theorem op_neA (hu : X.A.units + 64 < cLine) : OpR X (compareOp .NotEq) (rNeA X.K) := OpR.or op_ne (op_neD hu)
theorem scal_of {F : Addr → Prop} {M : List Addr} {H : Hp} {x y : V} {d e : D} {b : Bool} (rx : RepC K F M H x d) (ry : RepC K F M H y e) (h : scalEq d e = some b) : scal x y = true ∧ decide (x = y) = b := by
  unfold scalEq at h
  split at h <;> (cases h) <;> (cases rx; cases ry; refine ⟨rfl, ?_⟩; first | rfl | simp)
theorem g_eqA : Op2 K (rEqA K) gEq := by
  intro F M H x y d e z Q ft rx ry hg q
  unfold gEq eqD at hg
  split at hg
  · rename_i b hb
    cases hg
    obtain ⟨h1, h2⟩ := scal_of rx ry hb
    refine .inl ⟨h1, ?_⟩
    rw [h2]
    exact q H _ (Same.refl H) (.bl b)
  · unfold deepEq at hg
    split at hg
    · rename_i p1 p2 e1 e2
      cases hb : bd (SeqAt.shaped p1 = true ∧ SeqAt.shaped p2 = true) (PyData.eqv p1 p2) with
      | none => rw [hb] at hg; cases hg
      | some b =>
        rw [hb] at hg; cases hg
        obtain ⟨⟨s1, s2⟩, rfl⟩ := bd_ok hb
        exact .inr ⟨p1, p2, dpC_of rx e1, dpC_of ry e2, s1, s2, q H _ (Same.refl H) (.bl _)⟩
    · cases hg
theorem g_neA : Op2 K (rNeA K) gNe := by
  intro F M H x y d e z Q ft rx ry hg q
  unfold gNe eqD at hg
  split at hg
  · rename_i b hb
    cases hg
    obtain ⟨h1, h2⟩ := scal_of rx ry hb
    refine .inl ⟨h1, ?_⟩
    rw [h2]
    exact q H _ (Same.refl H) (.bl (!b))
  · unfold deepEq at hg
    split at hg
    · rename_i p1 p2 e1 e2
      cases hb : bd (SeqAt.shaped p1 = true ∧ SeqAt.shaped p2 = true) (PyData.eqv p1 p2) with
      | none => rw [hb] at hg; cases hg
      | some b =>
        rw [hb] at hg; cases hg
        obtain ⟨⟨s1, s2⟩, rfl⟩ := bd_ok hb
        exact .inr ⟨p1, p2, dpC_of rx e1, dpC_of ry e2, s1, s2, q H _ (Same.refl H) (.bl _)⟩
    · cases hg
/-- is None -/
def rIsNA : R2 := fun x y H Q => y = .non ∧ Q (.bl (decide (x = .non))) H
def rNotNA : R2 := fun x y H Q => y = .non ∧ Q (.bl (!decide (x = .non))) H
theorem isN_of {F : Addr → Prop} {M : List Addr} {H : Hp} {x y : V} {d e : D} {z : D} (rx : RepC K F M H x d) (ry : RepC K F M H y e) (h : gIsN d e = some z) : y = .non ∧ z = .bl (decide (x = .non)) := by
  unfold gIsN at h
  split at h <;> first
    | (cases h; cases ry; obtain ⟨a, vs, rfl, _⟩ := rx; exact ⟨rfl, by simp⟩)
    | (cases h; cases ry; cases rx; exact ⟨rfl, by simp⟩)
    | cases h
theorem g_isN : Op2 K rIsNA gIsN := by
  intro F M H x y d e z Q ft rx ry hg q
  obtain ⟨rfl, rfl⟩ := isN_of rx ry hg
  exact ⟨rfl, q H _ (Same.refl H) (.bl _)⟩
theorem g_notN : Op2 K rNotNA gNotN := by
  intro F M H x y d e z Q ft rx ry hg q
  unfold gNotN at hg
  split at hg
  · rename_i b hb
    cases hg
    obtain ⟨rfl, e2⟩ := isN_of rx ry hb
    cases e2
    exact ⟨rfl, q H _ (Same.refl H) (.bl _)⟩
  · cases hg
end
end Kr

namespace Kr
open PySem PySem.Spec L2
open PyProof.Rows hiding St

/-! ### in, places, slices -/
section
variable {K : PySem.W.Frag} {X : Cx}
theorem flat_of {F : Addr → Prop} {M : List Addr} {H : Hp} {v : V} {d : D} (r : Rep K F M H v d) (h : flatD d = true) : flatV v = true := by
  cases r <;> first | rfl | cases h
theorem flatL_of {F : Addr → Prop} {M : List Addr} {H : Hp} : ∀ {vs : List V} {ds : List D}, RepL K F M H vs ds → ds.all flatD = true → vs.all flatV = true
  | _, _, .nil, _ => rfl
  | _, _, .cons r t, h => by
    rw [List.all_cons, Bool.and_eq_true] at h ⊢
    exact ⟨flat_of r h.1, flatL_of t h.2⟩
theorem eqF_of {F : Addr → Prop} {M : List Addr} {H : Hp} {v w : V} {d e : D} (r : Rep K F M H v d) (q : Rep K F M H w e) (h : flatD d = true) (h2 : flatD e = true) : eqV v w = eqF d e := by
  cases r <;> first | (cases h; done) | (cases q <;> first | rfl | (cases h2; done))
theorem inV_of {F : Addr → Prop} {M : List Addr} {H : Hp} {v : V} {d : D} (r : Rep K F M H v d) (h : flatD d = true) : ∀ {vs : List V} {ds : List D}, RepL K F M H vs ds → ds.all flatD = true → inV v vs = ds.any fun y => eqF y d
  | _, _, .nil, _ => rfl
  | _, _, .cons q t, h2 => by
    rw [List.all_cons, Bool.and_eq_true] at h2
    have ih := inV_of r h t h2.2
    unfold inV at ih ⊢
    rw [List.any_cons, List.any_cons, eqF_of q r h2.1 h, ih]
theorem key_of {F : Addr → Prop} {M : List Addr} {H : Hp} {v : V} {d : D} {k : Key} (r : RepC K F M H v d) (h : toKey d = some k) : v = kV k := by
  unfold toKey at h
  split at h
  · cases h; cases r; rfl
  · cases h; cases r; rfl
  · cases h
theorem RepK.val {F : Addr → Prop} {M : List Addr} {H : Hp} (k : Key) : ∀ {vs : List (Key × V)} {ds : List (Key × D)}, RepK K F M H vs ds → (valV vs k = none ∧ dGet ds k = none) ∨ ∃ v d, valV vs k = some v ∧ dGet ds k = some d ∧ Rep K F M H v d
  | _, _, .nil => .inl ⟨rfl, rfl⟩
  | (k', v) :: vs, (_, d) :: ds, .cons r t => by
    by_cases e : k' = k
    · right
      exact ⟨v, d, by simp [valV, List.find?_cons, e], by simp [dGet, List.find?_cons, e], r⟩
    · have ih := RepK.val k t
      have e1 : valV ((k', v) :: vs) k = valV vs k := by simp [valV, List.find?_cons, e]
      have e2 : dGet ((k', d) :: ds) k = dGet ds k := by simp [dGet, List.find?_cons, e]
      rw [e1, e2]
      exact ih
theorem RepK.has {F : Addr → Prop} {M : List Addr} {H : Hp} (k : Key) {vs : List (Key × V)} {ds : List (Key × D)} (r : RepK K F M H vs ds) : (valV vs k).isSome = (dGet ds k).isSome := by
  rcases r.val k with ⟨e1, e2⟩ | ⟨v, d, e1, e2, _⟩ <;> rw [e1, e2] <;> rfl
def rDIn (neg : Bool) : R2 := fun x y H Q => ∃ a o, y = .ref a ∧ DGet H a x o ∧ Q (.bl (if neg then !o.isSome else o.isSome)) H
theorem op_din (hu : X.A.units + 1 < cLine) : OpR X (compareOp .In) (rDIn false) := by
  intro pins s σ H x y v u Q I rx ry h
  obtain ⟨a, o, rfl, g, q⟩ := h
  cases ry
  exact d_in hu I g rx fun s3 I3 => ⟨.bl o.isSome, H, I3, rfl, q⟩
theorem op_dnotin (hu : X.A.units + 1 < cLine) : OpR X (compareOp .NotIn) (rDIn true) := by
  intro pins s σ H x y v u Q I rx ry h
  obtain ⟨a, o, rfl, g, q⟩ := h
  cases ry
  exact d_notIn hu I g rx fun s3 I3 => ⟨.bl (!o.isSome), H, I3, rfl, q⟩
def rInA (K : PySem.W.Frag) (neg : Bool) : R2 := fun x y H Q => rIn K neg x y H Q ∨ rDIn neg x y H Q
theorem op_inA (hu : X.A.units + 1 < cLine) : OpR X (compareOp .In) (rInA X.K false) := OpR.or op_in_seq (op_din hu)
theorem op_notInA (hu : X.A.units + 1 < cLine) : OpR X (compareOp .NotIn) (rInA X.K true) := OpR.or op_notIn_seq (op_dnotin hu)
theorem g_inG {neg : Bool} {F : Addr → Prop} {M : List Addr} {H : Hp} {x y : V} {d e : D} {b : Bool} {Q : VK} (rx : RepC K F M H x d) (ry : RepC K F M H y e) (h : inD d e = some b) (q : Q (.bl (if neg then !b else b)) H) : rInA K neg x y H Q := by
  unfold inD at h
  split at h
  · rename_i ys
    obtain ⟨⟨f1, f2⟩, rfl⟩ := bd_ok h
    cases ry with
    | @tup a vs _ hs z r =>
    have rx' : Rep K F M H x d := by cases d <;> first | exact rx | (cases f1; done)
    refine .inl ⟨a, vs, rfl, .inr hs, flat_of rx' f1, flatL_of r f2, ?_⟩
    rw [inV_of rx' f1 r f2]
    exact q
  · rename_i ys
    obtain ⟨⟨f1, f2⟩, rfl⟩ := bd_ok h
    obtain ⟨a, vs, rfl, hs, r, z⟩ := ry
    have rx' : Rep K F M H x d := by cases d <;> first | exact rx | (cases f1; done)
    refine .inl ⟨a, vs, rfl, .inl (.inl hs), flat_of rx' f1, flatL_of r f2, ?_⟩
    rw [inV_of rx' f1 r f2]
    exact q
  · rename_i kvs
    obtain ⟨a, vs, rfl, hs, r, z⟩ := ry
    cases hk : toKey d with
    | none => rw [hk] at h; cases h
    | some k =>
      rw [hk] at h; cases h
      refine .inr ⟨a, valV vs k, rfl, .inl ⟨vs, k, hs, key_of rx hk, rfl⟩, ?_⟩
      rw [r.has k]
      exact q
  · cases h
theorem g_in : Op2 K (rInA K false) gIn := by
  intro F M H x y d e z Q ft rx ry hg q
  unfold gIn at hg
  cases h : inD d e with
  | none => rw [h] at hg; cases hg
  | some b => rw [h] at hg; cases hg; exact g_inG rx ry h (q H _ (Same.refl H) (.bl b))
theorem g_notIn : Op2 K (rInA K true) gNotIn := by
  intro F M H x y d e z Q ft rx ry hg q
  unfold gNotIn at hg
  cases h : inD d e with
  | none => rw [h] at hg; cases hg
  | some b => rw [h] at hg; cases hg; exact g_inG rx ry h (q H _ (Same.refl H) (.bl (!b)))
def rIxDic : R2 := fun x y H Q => ∃ a v, x = .ref a ∧ DGet H a y (some v) ∧ Q v H
theorem ix_dic (hu : X.A.units + 1 < cLine) : IxR X rIxDic := by
  intro value slice pins s σ H x y v u Q I rx ry h hs
  obtain ⟨a, w, rfl, g, q⟩ := h
  cases rx
  exact tail_any (dict_typeIs I g) PySem.F.slot_dict_getitem.lookup (d_getItem hu I g ry fun w' s3 I3 rw' => ⟨w, H, I3, rw', q⟩) hs
def rIxA (K : PySem.W.Frag) : R2 := fun x y H Q => rIx K x y H Q ∨ rIxDic x y H Q
theorem ix_all (hu : X.A.units + 1 < cLine) : IxR X (rIxA X.K) := IxR.or ix_seq (ix_dic hu)
theorem atI_map {α β : Type} (f : α → β) (xs : List α) (i : Int) : atI (xs.map f) i = (atI xs i).map f := by
  unfold atI
  rw [List.length_map]
  cases ixN xs.length i with
  | none => rfl
  | some j => simp
theorem RepL.at {F : Addr → Prop} {M : List Addr} {H : Hp} {vs : List V} {ds : List D} {i : Int} {d : D} (r : RepL K F M H vs ds) (h : atI ds i = some d) : ∃ v, atI vs i = some v ∧ Rep K F M H v d := by
  unfold atI at h ⊢
  rw [r.len]
  cases e : ixN ds.length i with
  | none => rw [e] at h; cases h
  | some j =>
    rw [e] at h
    exact r.get h
theorem g_ix : Op2 K (rIxA K) gIx := by
  intro F M H x y d e z Q ft rx ry hg q
  unfold gIx at hg
  split at hg
  · cases rx with
    | tup hs z r =>
    cases ry
    obtain ⟨v, e1, e2⟩ := r.at hg
    exact .inl (.inr (.inl ⟨_, _, _, v, rfl, rfl, hs, e1, q H _ (Same.refl H) e2⟩))
  · obtain ⟨a, vs, rfl, hs, r, z⟩ := rx
    cases ry
    obtain ⟨v, e1, e2⟩ := r.at hg
    exact .inl (.inl ⟨_, _, _, v, rfl, rfl, .inl hs, e1, q H _ (Same.refl H) e2⟩)
  · rename_i ns i
    cases rx with
    | scr hs z =>
    cases ry
    cases h : atI ns i with
    | none => rw [h] at hg; cases hg
    | some n =>
      rw [h] at hg; cases hg
      exact .inl (.inl ⟨_, _, _, .int n, rfl, rfl, hs.sq, by rw [atI_map, h]; rfl, q H _ (Same.refl H) (.int n)⟩)
  · rename_i x i
    cases rx; cases ry
    cases h0 : bd (x.length ≤ sizeLine) () with
    | none => rw [h0] at hg; cases hg
    | some u =>
      rw [h0] at hg
      obtain ⟨hz, _⟩ := bd_ok h0
      cases h : atI x.cps.toList i with
      | none => simp [h] at hg
      | some c =>
        simp [h] at hg
        subst hg
        exact .inl (.inr (.inr ⟨_, _, c, rfl, rfl, hz, h, q H _ (Same.refl H) (.str _)⟩))
  · obtain ⟨a, vs, rfl, hs, r, z⟩ := rx
    cases ry
    rename_i kvs i
    rcases r.val (.inl i) with ⟨e1, e2⟩ | ⟨v, d, e1, e2, e3⟩
    · rw [e2] at hg; cases hg
    · rw [e2] at hg; cases hg
      exact .inr ⟨a, v, rfl, .inl ⟨vs, .inl i, hs, rfl, e1.symm⟩, q H _ (Same.refl H) e3⟩
  · obtain ⟨a, vs, rfl, hs, r, z⟩ := rx
    cases ry
    rename_i kvs i
    rcases r.val (.inr i) with ⟨e1, e2⟩ | ⟨v, d, e1, e2, e3⟩
    · rw [e2] at hg; cases hg
    · rw [e2] at hg; cases hg
      exact .inr ⟨a, v, rfl, .inl ⟨vs, .inr i, hs, rfl, e1.symm⟩, q H _ (Same.refl H) e3⟩
  · cases hg

/-! ### slices -/
def cutD (ds : List D) (lo hi : Option Int) : List D := (ds.drop (HT.sIx ds.length 0 lo)).take (HT.sIx ds.length ds.length hi - HT.sIx ds.length 0 lo)
def gCut (lo hi : Option Int) : D → Option D
  | .tup xs => some (.tup (cutD xs lo hi))
  | .lst xs => some (.lst (cutD xs lo hi))
  | .str x => bd (x.length ≤ sizeLine) (.str (cutS x lo hi))
  | _ => none
theorem RepL.cut {F : Addr → Prop} {M : List Addr} {H : Hp} {vs : List V} {ds : List D} (r : RepL K F M H vs ds) (lo hi : Option Int) : RepL K F M H (cutV vs lo hi) (cutD ds lo hi) := by
  unfold cutV cutD
  rw [r.len]
  exact (r.drop _).take _
theorem cutD_len (ds : List D) (lo hi : Option Int) : (cutD ds lo hi).length ≤ ds.length := by
  unfold cutD
  rw [List.length_take, List.length_drop]
  omega
theorem cutD_all {ds : List D} {lo hi : Option Int} (h : HT.sIx ds.length 0 lo = 0 ∧ HT.sIx ds.length ds.length hi = ds.length) : cutD ds lo hi = ds := by
  unfold cutD
  rw [h.1, h.2]
  simp
def rSlAll (K : PySem.W.Frag) : V → Option Int → Option Int → Hp → VK → Prop := fun x lo hi H Q => (rSlA K x lo hi H Q ∨ rSlL K x lo hi H Q) ∨ rSlS x lo hi H Q
theorem sl_all : SlR X (rSlAll X.K) := SlR.or (SlR.or sl_tupA sl_list) sl_str
/-- a slice's part: nothing or an int -/
abbrev DP := ME (Option Int)
structure PXP (X : Cx) (own : List Nat) (e : Option Expr) (t : TO) (d : DP) : Prop where
  po : PO X e t
  ad : AdR X.K own (fun _ _ _ _ v r => v = r) t d
variable {own : List Nat} {e a b c : Expr} {es : List Expr} {t ta tb tc : TE} {d da db dc : DE} {oa : DO} {pos : Pos}
theorem xp_none : PXP X own none tNoPart (ret none) := ⟨po_none, fun F M σV H s r s' R q Q post => by
  obtain ⟨rfl, rfl⟩ := ret_ok q
  exact post F M H _ R EE.refl rfl⟩
def dPart (d : DE) : DP := bnd d fun x => match x with
  | .int i => ret (some i)
  | _ => stk
theorem xp_some (h : PX X own e t d) : PXP X own (some e) (tPart t) (dPart d) := ⟨po_some h.pe, fun F M σV H s r s' R q Q post => by
  obtain ⟨x, s1, q1, q2⟩ := bnd_ok q
  refine h.ad F M σV H s x s1 R q1 _ fun F' M' H' v R' E' r' => ?_
  cases x with
  | int i =>
    obtain ⟨rfl, rfl⟩ := ret_ok q2
    cases r'
    exact ⟨i, rfl, post F' M' H' _ R' E' rfl⟩
  | _ => cases q2⟩
def dSl (a : DO) (lo hi : DP) : DE := bnd a fun x => bnd lo fun l => bnd hi fun u s => match deref s x with
  | some x => opt (gCut l u x) s
  | none => .error .stuck
theorem xsl {lo hi : Option Expr} {tl th : TO} {dl dh : DP} {p2 : Pos} (ha : PXO X own a ta oa) (hl : PXP X own lo tl dl) (hh : PXP X own hi th dh) : PX X own (.Subscript a (.Slice lo hi none p2) pos) (tSl (rSlAll X.K) ta tl th) (dSl oa dl dh) := by
  refine ⟨pe_slice sl_all ha.pe hl.po hh.po, ?_⟩
  intro F M σV H s z s' R q Q post
  obtain ⟨x, s1, q1, q⟩ := bnd_ok q
  obtain ⟨l, s2, q2, q⟩ := bnd_ok q
  obtain ⟨u, s3, q3, q⟩ := bnd_ok q
  refine ha.ad F M σV H s x s1 R q1 _ fun F1 M1 H1 v R1 E1 r1 => ?_
  refine hl.ad F1 M1 σV H1 _ l s2 R1 q2 _ fun F2 M2 H2 l' R2 E2 el => ?_
  refine hh.ad F2 M2 σV H2 _ u s3 R2 q3 _ fun F3 M3 H3 u' R3 E3 eu => ?_
  subst el eu
  have r3 := RepO.keep (R2.kp E3) (RepO.keep (R1.kp E2) r1)
  have E13 := (E1.trans E2).trans E3
  split at q
  · rename_i d h1
    obtain ⟨q5, rfl⟩ := opt_ok q
    have rc := deref_ok R3 r3 h1
    unfold gCut at q5
    split at q5
    · rename_i xs
      cases q5
      cases rc with
      | @tup a vs _ hs hz r =>
      refine .inl (.inl ⟨a, vs, rfl, hs, fun hw => ?_, fun hw p hp => ?_⟩)
      · rw [r.len] at hw
        rw [cutD_all hw] at post
        exact post F3 M3 H3 _ R3 E13 (.tup hs hz r)
      · have sm : Same H3 (upd H3 p (.tup (cutV vs l' u'))) := same_upd hp
        exact post F3 M3 _ _ (R3.same sm) (E13.trans (EE.same sm)) (.tup (.inl (.inl upd_same)) (Nat.le_trans (cutD_len _ _ _) hz) ((r.cut _ _).keep (Kp.same sm)))
    · rename_i xs
      cases q5
      obtain ⟨a, vs, rfl, hs, r, hz⟩ := rc
      refine .inl (.inr ⟨a, vs, rfl, .inl hs, fun p hp => ?_⟩)
      have sm : Same H3 (upd H3 p (.lst (cutV vs l' u'))) := same_upd hp
      refine post F3 M3 _ _ (R3.same sm) (E13.trans (EE.same sm)) (.lst (.inl upd_same) (fun z => ?_) (Nat.le_trans (cutD_len _ _ _) hz) ((r.cut _ _).keep (Kp.same sm)))
      obtain ⟨o, ho⟩ := R3.ft p z
      rw [hp] at ho; cases ho
    · rename_i xs
      obtain ⟨hz, rfl⟩ := bd_ok q5
      cases rc
      exact .inr ⟨_, rfl, hz, post F3 M3 H3 _ R3 E13 (.str _)⟩
    · cases q5
  · cases q
end
end Kr

namespace Kr
open PySem PySem.Spec L2
open PyProof.Rows hiding St

/-! ### argument lists, displays -/
section
variable {K : PySem.W.Frag} {X : Cx} {own : List Nat} {e a b c : Expr} {es : List Expr} {t ta tb tc : TE} {tl : TA} {d da db dc : DE} {dl : DA} {oa ob : DO} {pos : Pos}
def aNil : DA := ret []
def aCons (d : DE) (r : DA) : DA := bnd d fun x => bnd r fun xs => ret (x :: xs)
theorem xa_nil : PXA X own [] tNil aNil := ⟨pa_nil, fun F M σV H s r s' R q Q post => by
  obtain ⟨rfl, rfl⟩ := ret_ok q
  exact post F M H _ R EE.refl .nil⟩
theorem xa_cons (h : PX X own e t d) (r : PXA X own es tl dl) (hs : starEach (e :: es) X.env = (false, eval e X.env) :: starEach es X.env := by rfl) : PXA X own (e :: es) (tCons t tl) (aCons d dl) := ⟨pa_cons h.pe r.pa hs, fun F M σV H s z s' R q Q post => by
  obtain ⟨x, s1, q1, q⟩ := bnd_ok q
  obtain ⟨y, s2, q2, q⟩ := bnd_ok q
  obtain ⟨rfl, rfl⟩ := ret_ok q
  refine h.ad F M σV H s x s1 R q1 _ fun F1 M1 H1 v R1 E1 r1 => ?_
  refine r.ad F1 M1 σV H1 _ y _ R1 q2 _ fun F2 M2 H2 w R2 E2 r2 => ?_
  exact post F2 M2 H2 _ R2 (E1.trans E2) (.cons (r1.keep (R1.kp E2)) r2)⟩
/-- arguments that are only looked at -/
inductive RepOL (K : PySem.W.Frag) (own : List Nat) (F : Addr → Prop) (M : List Addr) (H : Hp) (σV : St) : List V → List Op → Prop
  | nil : RepOL K own F M H σV [] []
  | cons {v : V} {vs : List V} {o : Op} {os : List Op} : RepO K own F M H σV v o → RepOL K own F M H σV vs os → RepOL K own F M H σV (v :: vs) (o :: os)
structure PXOs (X : Cx) (own : List Nat) (e : List Expr) (t : TA) (d : ME (List Op)) : Prop where
  pa : PA X e t
  ad : AdR X.K own (fun F M H σV v d => RepOL X.K own F M H σV v d) t d
def oNil : ME (List Op) := ret []
def oCons (d : DO) (r : ME (List Op)) : ME (List Op) := bnd d fun x => bnd r fun xs => ret (x :: xs)
theorem xos_nil : PXOs X own [] tNil oNil := ⟨pa_nil, fun F M σV H s r s' R q Q post => by
  obtain ⟨rfl, rfl⟩ := ret_ok q
  exact post F M H _ R EE.refl .nil⟩
theorem RepOL.keep {F F' : Addr → Prop} {M M' : List Addr} {H H' : Hp} {σV : St} (k : Kp F M H F' M' H') : ∀ {vs : List V} {os : List Op}, RepOL K own F M H σV vs os → RepOL K own F' M' H' σV vs os
  | _, _, .nil => .nil
  | _, _, .cons h r => .cons (RepO.keep k h) (RepOL.keep k r)
theorem xos_cons {ol : ME (List Op)} (h : PXO X own e t oa) (r : PXOs X own es tl ol) (hs : starEach (e :: es) X.env = (false, eval e X.env) :: starEach es X.env := by rfl) : PXOs X own (e :: es) (tCons t tl) (oCons oa ol) := ⟨pa_cons h.pe r.pa hs, fun F M σV H s z s' R q Q post => by
  obtain ⟨x, s1, q1, q⟩ := bnd_ok q
  obtain ⟨y, s2, q2, q⟩ := bnd_ok q
  obtain ⟨rfl, rfl⟩ := ret_ok q
  refine h.ad F M σV H s x s1 R q1 _ fun F1 M1 H1 v R1 E1 r1 => ?_
  refine r.ad F1 M1 σV H1 _ y _ R1 q2 _ fun F2 M2 H2 w R2 E2 r2 => ?_
  exact post F2 M2 H2 _ R2 (E1.trans E2) (.cons (RepO.keep (R1.kp E2) r1) r2)⟩
def derefL (s : S) : List Op → Option (List D)
  | [] => some []
  | o :: os => match deref s o, derefL s os with
    | some d, some ds => some (d :: ds)
    | _, _ => none
inductive RepCL (K : PySem.W.Frag) (F : Addr → Prop) (M : List Addr) (H : Hp) : List V → List D → Prop
  | nil : RepCL K F M H [] []
  | cons {v : V} {vs : List V} {d : D} {ds : List D} : RepC K F M H v d → RepCL K F M H vs ds → RepCL K F M H (v :: vs) (d :: ds)
theorem derefL_ok {F : Addr → Prop} {M : List Addr} {H : Hp} {σV : St} {s : S} (R : SR K own F M σV H s) : ∀ {vs : List V} {os : List Op} {ds : List D}, RepOL K own F M H σV vs os → derefL s os = some ds → RepCL K F M H vs ds
  | _, _, _, .nil, e => by cases e; exact .nil
  | _, _, _, .cons h r, e => by
    unfold derefL at e
    split at e
    · rename_i d ds h1 h2
      cases e
      exact .cons (deref_ok R h h1) (derefL_ok R r h2)
    · cases e
/-- a new object, by its content -/
def RepH (K : PySem.W.Frag) (F : Addr → Prop) (M : List Addr) (H : Hp) (o : HO) : D → Prop
  | .lst ds => ∃ vs, o = .lst vs ∧ RepL K F M H vs ds ∧ ds.length ≤ sizeLine
  | .dic ds => ∃ vs, o = .dK vs ∧ RepK K F M H vs ds ∧ ds.length ≤ sizeLine
  | _ => False
/-- it stands for the value, where no one changes it -/
theorem RepH.val {F : Addr → Prop} {M : List Addr} {H : Hp} {o : HO} {d : D} {p : Addr} (h : RepH K F M H o d) (hp : H p = none) (nf : ¬ F p) : Rep K F M (upd H p o) (.ref p) d := by
  have k : Kp F M H F M (upd H p o) := Kp.same (same_upd hp)
  cases d with
  | lst ds => obtain ⟨vs, rfl, r, z⟩ := h; exact .lst (.inl upd_same) nf z (r.keep k)
  | dic ds => obtain ⟨vs, rfl, r, z⟩ := h; exact .dic (.inl upd_same) nf z (r.keep k)
  | _ => exact h.elim
def plus (F : Addr → Prop) (p : Addr) : Addr → Prop := fun a => F a ∨ a = p
def minus (F : Addr → Prop) (p : Addr) : Addr → Prop := fun a => F a ∧ a ≠ p
theorem kp_plus {F : Addr → Prop} {M : List Addr} {H : Hp} {o : HO} {p : Addr} (hp : H p = none) : Kp F M H (plus F p) M (upd H p o) := by
  have sm : Same H (upd H p o) := same_upd hp
  refine ⟨fun a u h n => ⟨sm _ _ h, fun z => ?_⟩, fun a xs h => Same.rdd sm h, fun _ _ h => h⟩
  rcases z with z | rfl
  · exact n z
  · rw [hp] at h; cases h
theorem RepH.owned {F : Addr → Prop} {M : List Addr} {H : Hp} {o : HO} {d : D} {p : Addr} (h : RepH K F M H o d) (hp : H p = none) : OwnC K (plus F p) M (upd H p o) p d := by
  have k : Kp F M H (plus F p) M (upd H p o) := kp_plus hp
  cases d with
  | lst ds => obtain ⟨vs, rfl, r, z⟩ := h; exact ⟨vs, upd_same, r.keep k, z⟩
  | dic ds => obtain ⟨vs, rfl, r, z⟩ := h; exact ⟨vs, upd_same, r.keep k, z⟩
  | _ => exact h.elim
/-- a new object is laid, kept for whoever made it -/
theorem SR.lay {F : Addr → Prop} {M : List Addr} {H : Hp} {σV : St} {s : S} {o : HO} {p : Addr} (R : SR K own F M σV H s) (hp : H p = none) : SR K own (plus F p) M σV (upd H p o) s := by
  have k : Kp F M H (plus F p) M (upd H p o) := kp_plus hp
  have sm : Same H (upd H p o) := same_upd hp
  refine ⟨R.len, fun i d n h => ?_, fun i d n h => ?_, R.dis, R.ml, R.nd, fun i q d h1 h2 => ?_, fun a h => ?_⟩
  · obtain ⟨v, e1, e2⟩ := R.val i d n h
    exact ⟨v, e1, e2.keep k⟩
  · obtain ⟨q, e1, e2, e3, e4⟩ := R.ownd i d n h
    exact ⟨q, e1, e2.keep k fun o' => sm q o', .inl e3, e4⟩
  · obtain ⟨e1, e2⟩ := R.obj i q d h1 h2
    exact ⟨e1.keep k fun o' => sm q o', .inl e2⟩
  · rcases h with h | rfl
    · obtain ⟨u, hu⟩ := R.ft a h
      exact ⟨u, sm _ _ hu⟩
    · exact ⟨o, upd_same⟩
theorem EE.lay {F : Addr → Prop} {M : List Addr} {H : Hp} {O1 : Addr → Prop} {o : HO} {p : Addr} (hp : H p = none) : EE F M O1 H (plus F p) M O1 (upd H p o) :=
  ⟨fun a u h m n => ⟨same_upd hp _ _ h, m, n, Iff.intro (fun z => by
    rcases z with z | rfl
    · exact z
    · rw [hp] at h; cases h) .inl⟩, fun _ u h => ⟨u, same_upd hp _ _ h⟩, fun _ _ h => h⟩
/-- what was kept may be let go -/
theorem SR.free {F : Addr → Prop} {M : List Addr} {H : Hp} {σV : St} {s : S} {p : Addr} (R : SR K own F M σV H s) (hm : p ∉ M) (ho : ¬ Ow own σV s.σ p) : SR K own (minus F p) M σV H s := by
  have k : Kp F M H (minus F p) M H := Kp.less fun a z => z.1
  refine ⟨R.len, fun i d n h => ?_, fun i d n h => ?_, R.dis, R.ml, R.nd, fun i q d h1 h2 => ?_, fun a h => R.ft a h.1⟩
  · obtain ⟨v, e1, e2⟩ := R.val i d n h
    exact ⟨v, e1, e2.keep k⟩
  · obtain ⟨q, e1, e2, e3, e4⟩ := R.ownd i d n h
    exact ⟨q, e1, e2.keep k fun o' z => z, ⟨e3, fun z => ho ⟨i, n, by rw [← z]; exact e1, d, h⟩⟩, e4⟩
  · obtain ⟨e1, e2⟩ := R.obj i q d h1 h2
    exact ⟨e1.keep k fun o' z => z, e2, fun z => hm (by rw [← z]; exact List.mem_of_getElem? h1)⟩
theorem OwnC.val {F : Addr → Prop} {M : List Addr} {H : Hp} {d : D} {p : Addr} (h : OwnC K F M H p d) : Rep K (minus F p) M H (.ref p) d := by
  have k : Kp F M H (minus F p) M H := Kp.less fun a z => z.1
  have np : ¬ minus F p p := fun z => z.2 rfl
  cases d with
  | lst ds => obtain ⟨vs, e, r, z⟩ := h; exact .lst (.inl e) np z (r.keep k)
  | dic ds => obtain ⟨vs, e, r, z⟩ := h; exact .dic (.inl e) np z (r.keep k)
  | _ => exact h.elim
/-- an expression that gives a new list or dict, kept for whoever asks -/
def AdF (K : PySem.W.Frag) (own : List Nat) (t : TE) (d : DE) : Prop :=
  ∀ (F : Addr → Prop) (M : List Addr) (σV : St) (H : Hp) (s : S) (r : D) (h' : List D), SR K own F M σV H s → d s = .ok (r, h') → ∀ Q : VK,
    (∀ (F' : Addr → Prop) (M' : List Addr) (H' : Hp) (p : Addr), SR K own F' M' σV H' ⟨s.σ, h'⟩ → EE F M (Ow own σV s.σ) H F' M' (Ow own σV s.σ) H' → H p = none → F' p → p ∉ M' → ¬ Ow own σV s.σ p → OwnC K F' M' H' p r → Q (.ref p) H') → t σV H Q
structure PXF (X : Cx) (own : List Nat) (e : Expr) (t : TE) (d : DE) : Prop where
  pe : PE X e t
  ad : AdF X.K own t d
theorem PXF.px (h : PXF X own e t d) : PX X own e t d := ⟨h.pe, fun F M σV H s r s' R q Q post => by
  refine h.ad F M σV H s r s' R q Q fun F' M' H' p R' E' hp fp mp op oc => ?_
  refine post (minus F' p) M' H' _ (R'.free mp op) ⟨fun a o ha hm ho => ?_, E'.gr, E'.m⟩ oc.val
  obtain ⟨h1, h2, h3, h4⟩ := E'.keep a o ha hm ho
  exact ⟨h1, h2, h3, ⟨fun z => h4.mp z.1, fun z => ⟨h4.mpr z, fun e => by rw [e, hp] at ha; cases ha⟩⟩⟩⟩
/-- from «laid at the end» -/
theorem ad_lay {F0 : Addr → Prop} {M0 : List Addr} {O0 : Addr → Prop} {H0 : Hp} {F' : Addr → Prop} {M' : List Addr} {H' : Hp} {σV : St} {s' : S} {r : D} {Q : VK} {o : HO} {p : Addr}
    (post : ∀ (F' : Addr → Prop) (M' : List Addr) (H' : Hp) (p : Addr), SR K own F' M' σV H' s' → EE F0 M0 O0 H0 F' M' (Ow own σV s'.σ) H' → H0 p = none → F' p → p ∉ M' → ¬ Ow own σV s'.σ p → OwnC K F' M' H' p r → Q (.ref p) H')
    (R : SR K own F' M' σV H' s') (E : EE F0 M0 O0 H0 F' M' (Ow own σV s'.σ) H') (hp : H' p = none) (h : RepH K F' M' H' o r) : Q (.ref p) (upd H' p o) := by
  have np : H0 p = none := by
    cases q : H0 p with
    | none => rfl
    | some u => obtain ⟨u', e⟩ := E.gr p u q; rw [hp] at e; cases e
  refine post (plus F' p) M' _ p (R.lay hp) (E.trans (EE.lay hp)) np (.inr rfl) (fun z => ?_) (fun z => ?_) (h.owned hp)
  · obtain ⟨u, hu⟩ := R.ft p (R.inM z).1
    rw [hp] at hu; cases hu
  · obtain ⟨u, hu⟩ := R.ft p (R.inO z).1
    rw [hp] at hu; cases hu

/-! ### tuples and lists that are written -/
def dTup (a : DA) : DE := bnd a fun xs => opt (bd (xs.length ≤ sizeLine) (.tup xs))
def dLst (a : DA) : DE := bnd a fun xs => opt (bd (xs.length ≤ sizeLine) (.lst xs))
theorem xtup {k : Nat} (h : PXA X own es tl dl) : PX X own (.Tuple es k pos) (tTup tl) (dTup dl) := ⟨pe_tup h.pa, fun F M σV H s z s' R q Q post => by
  obtain ⟨xs, s1, q1, q⟩ := bnd_ok q
  obtain ⟨qa, rfl⟩ := opt_ok q
  obtain ⟨hz, rfl⟩ := bd_ok qa
  refine h.ad F M σV H s xs _ R q1 _ fun F1 M1 H1 v R1 E1 r1 => ⟨by rw [r1.len]; exact hz, fun p hp => ?_⟩
  have sm : Same H1 (upd H1 p (.tup v)) := same_upd hp
  exact post F1 M1 _ _ (R1.same sm) (E1.trans (EE.same sm)) (.tup (.inl (.inl upd_same)) hz (r1.keep (Kp.same sm)))⟩
theorem xlstF (h : PXA X own es tl dl) : PXF X own (.List es pos) (tLst tl) (dLst dl) := ⟨pe_lst h.pa, fun F M σV H s z s' R q Q post => by
  obtain ⟨xs, s1, q1, q⟩ := bnd_ok q
  obtain ⟨qa, rfl⟩ := opt_ok q
  obtain ⟨hz, rfl⟩ := bd_ok qa
  refine h.ad F M σV H s xs _ R q1 _ fun F1 M1 H1 v R1 E1 r1 => ⟨by rw [r1.len]; exact hz, fun p hp => ?_⟩
  exact ad_lay (F' := F1) (M' := M1) post R1 E1 hp ⟨v, rfl, r1, hz⟩⟩
theorem xdic0F : PXF X own (.Dict [] [] pos) tDNewK (ret (.dic [])) := ⟨pe_dnewK, fun F M σV H s z s' R q Q post => by
  obtain ⟨rfl, rfl⟩ := ret_ok q
  intro p hp
  exact ad_lay (F' := F) (M' := M) post R EE.refl hp ⟨[], rfl, .nil, Nat.zero_le _⟩⟩

/-! ### built-ins by name -/
def OpN (K : PySem.W.Frag) (r : List V → Hp → VK → Prop) (g : List D → Option D) : Prop := ∀ (F : Addr → Prop) (M : List Addr) (H : Hp) (vs : List V) (ds : List D) (z : D) (Q : VK), (∀ a, F a → ∃ o, H a = some o) → RepCL K F M H vs ds → g ds = some z →
  (∀ H' v, Same H H' → Rep K F M H' v z → Q v H') → r vs H Q
def OpNF (K : PySem.W.Frag) (r : List V → Hp → VK → Prop) (g : List D → Option D) : Prop := ∀ (F : Addr → Prop) (M : List Addr) (H : Hp) (vs : List V) (ds : List D) (z : D) (Q : VK), RepCL K F M H vs ds → g ds = some z →
  (∀ p o, H p = none → RepH K F M H o z → Q (.ref p) (upd H p o)) → r vs H Q
def dB (g : List D → Option D) (a : ME (List Op)) : DE := bnd a fun os s => match derefL s os with
  | some ds => opt (g ds) s
  | none => .error .stuck
theorem ad_opN {r : List V → Hp → VK → Prop} {g : List D → Option D} {oa : ME (List Op)} {ta : TA} (hr : OpN K r g) (ha : AdR K own (fun F M H σV v d => RepOL K own F M H σV v d) ta oa) : AdR K own (ρV K) (tCB r ta) (dB g oa) := by
  intro F M σV H s z s' R q Q post
  obtain ⟨x, s1, q1, q⟩ := bnd_ok q
  split at q
  · rename_i ds h1
    obtain ⟨q3, rfl⟩ := opt_ok q
    refine ha F M σV H s x _ R q1 _ fun F1 M1 H1 v R1 E1 r1 => ?_
    exact hr F1 M1 H1 v ds z Q R1.ft (derefL_ok R1 r1 h1) q3 fun H3 v3 sm rz => post F1 M1 H3 v3 (R1.same sm) (E1.trans (EE.same sm)) rz
  · cases q
theorem ad_opNF {r : List V → Hp → VK → Prop} {g : List D → Option D} {oa : ME (List Op)} {ta : TA} (hr : OpNF K r g) (ha : AdR K own (fun F M H σV v d => RepOL K own F M H σV v d) ta oa) : AdF K own (tCB r ta) (dB g oa) := by
  intro F M σV H s z s' R q Q post
  obtain ⟨x, s1, q1, q⟩ := bnd_ok q
  split at q
  · rename_i ds h1
    obtain ⟨q3, rfl⟩ := opt_ok q
    refine ha F M σV H s x _ R q1 _ fun F1 M1 H1 v R1 E1 r1 => ?_
    exact hr F1 M1 H1 v ds z Q (derefL_ok R1 r1 h1) q3 fun p o hp ho => ad_lay (F' := F1) (M' := M1) post R1 E1 hp ho
  · cases q
variable {x : Str} {p : Pos} {id T : String} {r : List V → Hp → VK → Prop} {g : List D → Option D} {ol : ME (List Op)} {to : TA}
theorem xB (hc : CallR X (.builtin id) r) (hr : OpN X.K r g) (hm : X.mg x = none) (ha : PXOs X own (e :: es) to ol) (hv : bootBuiltins x = some (.builtin id) := by decide +kernel) (hg : Gl X x := by rfl) (hn : x ≠ "__name__" := by decide) (hdb : (x == ("__debug__" : Str)) = false := by decide)
    (he : starEach (e :: es) X.env = (false, eval e X.env) :: starEach es X.env := by rfl) (hpl : (backTo pos (starEach es X.env)).any (·.1) = false := by rfl) : PX X own (.Call (.Name x p) (e :: es) [] pos) (tCB r to) (dB g ol) :=
  ⟨pe_callB hc hg hm hv ha.pa hn hdb he hpl, ad_opN hr ha.ad⟩
theorem xBF (hc : CallR X (.builtin id) r) (hr : OpNF X.K r g) (hm : X.mg x = none) (ha : PXOs X own (e :: es) to ol) (hv : bootBuiltins x = some (.builtin id) := by decide +kernel) (hg : Gl X x := by rfl) (hn : x ≠ "__name__" := by decide) (hdb : (x == ("__debug__" : Str)) = false := by decide)
    (he : starEach (e :: es) X.env = (false, eval e X.env) :: starEach es X.env := by rfl) (hpl : (backTo pos (starEach es X.env)).any (·.1) = false := by rfl) : PXF X own (.Call (.Name x p) (e :: es) [] pos) (tCB r to) (dB g ol) :=
  ⟨pe_callB hc hg hm hv ha.pa hn hdb he hpl, ad_opNF hr ha.ad⟩
theorem xT (hc : CallR X (.type T) r) (hr : OpN X.K r g) (hm : X.mg x = none) (ha : PXOs X own (e :: es) to ol) (hv : bootBuiltins x = some (.type T) := by decide +kernel) (hg : Gl X x := by rfl) (hn : x ≠ "__name__" := by decide) (hdb : (x == ("__debug__" : Str)) = false := by decide)
    (he : starEach (e :: es) X.env = (false, eval e X.env) :: starEach es X.env := by rfl) (hpl : (backTo pos (starEach es X.env)).any (·.1) = false := by rfl) : PX X own (.Call (.Name x p) (e :: es) [] pos) (tCB r to) (dB g ol) :=
  ⟨pe_callTy hc hg hm hv ha.pa hn hdb he hpl, ad_opN hr ha.ad⟩
theorem xTF (hc : CallR X (.type T) r) (hr : OpNF X.K r g) (hm : X.mg x = none) (ha : PXOs X own (e :: es) to ol) (hv : bootBuiltins x = some (.type T) := by decide +kernel) (hg : Gl X x := by rfl) (hn : x ≠ "__name__" := by decide) (hdb : (x == ("__debug__" : Str)) = false := by decide)
    (he : starEach (e :: es) X.env = (false, eval e X.env) :: starEach es X.env := by rfl) (hpl : (backTo pos (starEach es X.env)).any (·.1) = false := by rfl) : PXF X own (.Call (.Name x p) (e :: es) [] pos) (tCB r to) (dB g ol) :=
  ⟨pe_callTy hc hg hm hv ha.pa hn hdb he hpl, ad_opNF hr ha.ad⟩
end
end Kr

namespace Kr
open PySem PySem.Spec L2
open PyProof.Rows hiding St

/-! ### built-ins by values -/
def asInts : List D → Option (List Int)
  | [] => some []
  | .int i :: r => (asInts r).map (i :: ·)
  | _ => none
def asStrs : List D → Option (List Str)
  | [] => some []
  | .str i :: r => (asStrs r).map (i :: ·)
  | _ => none
def asBls : List D → Option (List Bool)
  | [] => some []
  | .bl i :: r => (asBls r).map (i :: ·)
  | _ => none
theorem asInts_eq : ∀ {ds : List D} {ns : List Int}, asInts ds = some ns → ds = ns.map D.int
  | [], _, h => by cases h; rfl
  | .int i :: r, ns, h => by
    unfold asInts at h
    cases e : asInts r with
    | none => rw [e] at h; cases h
    | some l => rw [e] at h; cases h; rw [asInts_eq e]; rfl
  | .non :: _, _, h => nomatch h
  | .bl _ :: _, _, h => nomatch h
  | .str _ :: _, _, h => nomatch h
  | .tup _ :: _, _, h => nomatch h
  | .lst _ :: _, _, h => nomatch h
  | .dic _ :: _, _, h => nomatch h
  | .obj _ :: _, _, h => nomatch h
  | .scr _ :: _, _, h => nomatch h
theorem asStrs_eq : ∀ {ds : List D} {ns : List Str}, asStrs ds = some ns → ds = ns.map D.str
  | [], _, h => by cases h; rfl
  | .str i :: r, ns, h => by
    unfold asStrs at h
    cases e : asStrs r with
    | none => rw [e] at h; cases h
    | some l => rw [e] at h; cases h; rw [asStrs_eq e]; rfl
  | .non :: _, _, h => nomatch h
  | .bl _ :: _, _, h => nomatch h
  | .int _ :: _, _, h => nomatch h
  | .tup _ :: _, _, h => nomatch h
  | .lst _ :: _, _, h => nomatch h
  | .dic _ :: _, _, h => nomatch h
  | .obj _ :: _, _, h => nomatch h
  | .scr _ :: _, _, h => nomatch h
theorem asBls_eq : ∀ {ds : List D} {ns : List Bool}, asBls ds = some ns → ds = ns.map D.bl
  | [], _, h => by cases h; rfl
  | .bl i :: r, ns, h => by
    unfold asBls at h
    cases e : asBls r with
    | none => rw [e] at h; cases h
    | some l => rw [e] at h; cases h; rw [asBls_eq e]; rfl
  | .non :: _, _, h => nomatch h
  | .int _ :: _, _, h => nomatch h
  | .str _ :: _, _, h => nomatch h
  | .tup _ :: _, _, h => nomatch h
  | .lst _ :: _, _, h => nomatch h
  | .dic _ :: _, _, h => nomatch h
  | .obj _ :: _, _, h => nomatch h
  | .scr _ :: _, _, h => nomatch h
theorem asInts_map : ∀ ns : List Int, asInts (ns.map D.int) = some ns
  | [] => rfl
  | n :: r => by rw [List.map_cons]; unfold asInts; rw [asInts_map r]; rfl
theorem asStrs_map : ∀ ns : List Str, asStrs (ns.map D.str) = some ns
  | [] => rfl
  | n :: r => by rw [List.map_cons]; unfold asStrs; rw [asStrs_map r]; rfl
theorem asBls_map : ∀ ns : List Bool, asBls (ns.map D.bl) = some ns
  | [] => rfl
  | n :: r => by rw [List.map_cons]; unfold asBls; rw [asBls_map r]; rfl

def gLen : List D → Option D
  | [.str x] => bd (x.length ≤ sizeLine) (.int x.length)
  | [.tup xs] => some (.int xs.length)
  | [.lst xs] => some (.int xs.length)
  | [.scr xs] => some (.int xs.length)
  | [.dic xs] => some (.int xs.length)
  | _ => none
def gInt : List D → Option D
  | [.int i] => some (.int i)
  | [.bl k] => some (.int (if k then 1 else 0))
  | _ => none
def gAbs : List D → Option D
  | [.int i] => some (.int (if i < 0 then -i else i))
  | _ => none
def gStr : List D → Option D
  | [.int i] => bd (i.natAbs.log2 < 1920) (.str (toString i))
  | _ => none
def gSum : List D → Option D
  | [.lst xs] => (asInts xs).map fun ns => .int ns.sum
  | _ => none
def maxI : List Int → Int
  | [] => 0
  | [n] => n
  | n :: r => if maxI r > n then maxI r else n
def gMax : List D → Option D
  | [.lst (x :: xs)] => (asInts (x :: xs)).map fun ns => .int (maxI ns)
  | [.int i, .int j] => some (.int (if j > i then j else i))
  | _ => none
def gAll : List D → Option D
  | [.lst xs] => (asBls xs).map fun ns => .bl (ns.all id)
  | _ => none
def gAny : List D → Option D
  | [.lst xs] => (asBls xs).map fun ns => .bl (ns.any id)
  | _ => none
def gTuple : List D → Option D
  | [.lst xs] => some (.tup xs)
  | [.tup xs] => some (.tup xs)
  | _ => none
def gList : List D → Option D
  | [.lst xs] => some (.lst xs)
  | [.tup xs] => some (.lst xs)
  | _ => none

theorem maxI_mem : ∀ {ns : List Int}, ns ≠ [] → maxI ns ∈ ns ∧ ∀ y ∈ ns, y ≤ maxI ns
  | [], h => absurd rfl h
  | [n], _ => ⟨by simp [maxI], by simp [maxI]⟩
  | n :: m :: r, _ => by
    have ih := maxI_mem (ns := m :: r) (by simp)
    unfold maxI
    split
    · rename_i h
      refine ⟨List.mem_cons_of_mem _ ih.1, fun y hy => ?_⟩
      rcases List.mem_cons.mp hy with rfl | hy
      · omega
      · exact ih.2 y hy
    · rename_i h
      refine ⟨List.mem_cons_self, fun y hy => ?_⟩
      rcases List.mem_cons.mp hy with rfl | hy
      · omega
      · have := ih.2 y hy; omega
section
variable {K : PySem.W.Frag} {X : Cx}
theorem RepCL.one {F : Addr → Prop} {M : List Addr} {H : Hp} {vs : List V} {d : D} (r : RepCL K F M H vs [d]) : ∃ v, vs = [v] ∧ RepC K F M H v d := by
  cases r with
  | cons h t => cases t; exact ⟨_, rfl, h⟩
theorem RepCL.two {F : Addr → Prop} {M : List Addr} {H : Hp} {vs : List V} {d e : D} (r : RepCL K F M H vs [d, e]) : ∃ v w, vs = [v, w] ∧ RepC K F M H v d ∧ RepC K F M H w e := by
  cases r with
  | cons h t => cases t with
    | cons h2 t2 => cases t2; exact ⟨_, _, rfl, h, h2⟩
def rLenD : List V → Hp → VK → Prop := fun xs H Q => ∃ a kvs, xs = [V.ref a] ∧ Rd H a (.dK kvs) ∧ Q (.int kvs.length) H
theorem cr_lenD : CallR X (.builtin "len") rLenD := by
  intro pins s σ H xs us Q I r h
  obtain ⟨a, kvs, rfl, ha, q⟩ := h
  obtain ⟨u, rfl, ru⟩ := vals1 r
  cases ru
  exact d_len I ha fun t s' I' => ⟨.int kvs.length, H, I', ⟨t, rfl⟩, q⟩
def rLenA (K : PySem.W.Frag) : List V → Hp → VK → Prop := fun xs H Q => (∃ x n, xs = [x] ∧ LenV K x H n ∧ Q (.int n) H) ∨ rLenD xs H Q
theorem cr_lenA : CallR X (.builtin "len") (rLenA X.K) := CallR.or call_len cr_lenD
theorem g_len : OpN K (rLenA K) gLen := by
  intro F M H vs ds z Q ft r hg q
  unfold gLen at hg
  split at hg
  · rename_i x
    obtain ⟨hz, rfl⟩ := bd_ok hg
    obtain ⟨v, rfl, rc⟩ := r.one
    cases rc
    exact .inl ⟨_, x.length, rfl, ⟨hz, rfl⟩, q H _ (Same.refl H) (.int _)⟩
  · cases hg
    obtain ⟨v, rfl, rc⟩ := r.one
    cases rc with
    | @tup a vs _ hs z r =>
    exact .inl ⟨_, vs.length, rfl, .inr ⟨vs, hs, rfl⟩, by rw [r.len]; exact q H _ (Same.refl H) (.int _)⟩
  · cases hg
    obtain ⟨v, rfl, rc⟩ := r.one
    obtain ⟨a, vs, rfl, hs, r, z⟩ := rc
    exact .inl ⟨_, vs.length, rfl, .inl ⟨vs, .inl hs, rfl⟩, by rw [r.len]; exact q H _ (Same.refl H) (.int _)⟩
  · rename_i ns
    cases hg
    obtain ⟨v, rfl, rc⟩ := r.one
    cases rc with
    | scr hs z =>
    exact .inl ⟨_, ns.length, rfl, .inl ⟨_, hs.sq, by rw [List.length_map]⟩, q H _ (Same.refl H) (.int _)⟩
  · cases hg
    obtain ⟨v, rfl, rc⟩ := r.one
    obtain ⟨a, vs, rfl, hs, r, z⟩ := rc
    exact .inr ⟨a, vs, rfl, hs, by rw [r.len]; exact q H _ (Same.refl H) (.int _)⟩
  · cases hg
theorem g_int : OpN K (fun xs H Q => (∃ i, xs = [.int i] ∧ Q (.int i) H) ∨ ∃ k, xs = [.bl k] ∧ Q (.int (if k then 1 else 0)) H) gInt := by
  intro F M H vs ds z Q ft r hg q
  unfold gInt at hg
  split at hg
  · cases hg
    obtain ⟨v, rfl, rc⟩ := r.one
    cases rc
    exact .inl ⟨_, rfl, q H _ (Same.refl H) (.int _)⟩
  · cases hg
    obtain ⟨v, rfl, rc⟩ := r.one
    cases rc
    exact .inr ⟨_, rfl, q H _ (Same.refl H) (.int _)⟩
  · cases hg
theorem g_abs : OpN K (fun xs H Q => ∃ i, xs = [.int i] ∧ Q (.int (if i < 0 then -i else i)) H) gAbs := by
  intro F M H vs ds z Q ft r hg q
  unfold gAbs at hg
  split at hg
  · cases hg
    obtain ⟨v, rfl, rc⟩ := r.one
    cases rc
    exact ⟨_, rfl, q H _ (Same.refl H) (.int _)⟩
  · cases hg
theorem g_str : OpN K (fun xs H Q => ∃ i : Int, xs = [.int i] ∧ i.natAbs.log2 < 1920 ∧ Q (.str (toString i)) H) gStr := by
  intro F M H vs ds z Q ft r hg q
  unfold gStr at hg
  split at hg
  · obtain ⟨hz, rfl⟩ := bd_ok hg
    obtain ⟨v, rfl, rc⟩ := r.one
    cases rc
    exact ⟨_, rfl, hz, q H _ (Same.refl H) (.str _)⟩
  · cases hg
theorem lstInts {F : Addr → Prop} {M : List Addr} {H : Hp} {v : V} {xs : List D} {ns : List Int} (rc : RepC K F M H v (.lst xs)) (h : asInts xs = some ns) : ∃ a, v = .ref a ∧ SqL K H a (ns.map V.int) := by
  obtain ⟨a, vs, rfl, hs, r, z⟩ := rc
  have e := asInts_eq h
  subst e
  rw [r.ints] at hs
  exact ⟨a, rfl, .inl hs⟩
theorem g_sum : OpN K (rSum K) gSum := by
  intro F M H vs ds z Q ft r hg q
  unfold gSum at hg
  split at hg
  · rename_i xs
    cases h : asInts xs with
    | none => rw [h] at hg; cases hg
    | some ns =>
      rw [h] at hg; cases hg
      obtain ⟨v, rfl, rc⟩ := r.one
      obtain ⟨a, rfl, hs⟩ := lstInts rc h
      exact ⟨a, ns, rfl, hs, q H _ (Same.refl H) (.int _)⟩
  · cases hg
def rMaxA (K : PySem.W.Frag) : List V → Hp → VK → Prop := fun xs H Q => rMax K xs H Q ∨ ∃ i j, xs = [.int i, .int j] ∧ Q (.int (if j > i then j else i)) H
theorem cr_maxA (hc : X.calm = true) : CallR X (.builtin "max") (rMaxA X.K) := CallR.or (cr_max hc) (call_max2 hc)
theorem g_max : OpN K (rMaxA K) gMax := by
  intro F M H vs ds z Q ft r hg q
  unfold gMax at hg
  split at hg
  · rename_i x xs
    cases h : asInts (x :: xs) with
    | none => rw [h] at hg; cases hg
    | some ns =>
      rw [h] at hg; cases hg
      obtain ⟨v, rfl, rc⟩ := r.one
      obtain ⟨a, rfl, hs⟩ := lstInts rc h
      have hne : ns ≠ [] := fun z => by
        have := asInts_eq h
        rw [z] at this
        cases this
      refine .inl ⟨a, ns, rfl, hs, List.length_pos_iff.mpr hne, fun m hm hy => ?_⟩
      have e : m = maxI ns := Int.le_antisymm ((maxI_mem hne).2 m hm) (hy _ (maxI_mem hne).1)
      rw [e]
      exact q H _ (Same.refl H) (.int _)
  · cases hg
    obtain ⟨v, w, rfl, rc, rd⟩ := r.two
    cases rc; cases rd
    exact .inr ⟨_, _, rfl, q H _ (Same.refl H) (.int _)⟩
  · cases hg
theorem g_all : OpN K (rAll K) gAll := by
  intro F M H vs ds z Q ft r hg q
  unfold gAll at hg
  split at hg
  · rename_i xs
    cases h : asBls xs with
    | none => rw [h] at hg; cases hg
    | some ns =>
      rw [h] at hg; cases hg
      obtain ⟨v, rfl, a, vs, rfl, hs, r, z⟩ := r.one
      have e := asBls_eq h
      subst e
      rw [r.bls] at hs
      exact ⟨a, ns, rfl, .inl hs, q H _ (Same.refl H) (.bl _)⟩
  · cases hg
theorem g_any : OpN K (rAny K) gAny := by
  intro F M H vs ds z Q ft r hg q
  unfold gAny at hg
  split at hg
  · rename_i xs
    cases h : asBls xs with
    | none => rw [h] at hg; cases hg
    | some ns =>
      rw [h] at hg; cases hg
      obtain ⟨v, rfl, a, vs, rfl, hs, r, z⟩ := r.one
      have e := asBls_eq h
      subst e
      rw [r.bls] at hs
      exact ⟨a, ns, rfl, .inl hs, q H _ (Same.refl H) (.bl _)⟩
  · cases hg
theorem g_tuple : OpN K (fun xs H Q => ∃ p ys, xs = [.ref p] ∧ ((SqL K H p ys ∧ ∀ l, H l = none → Q (.ref l) (upd H l (.tup ys))) ∨ (SqT K H p ys ∧ Q (.ref p) H))) gTuple := by
  intro F M H vs ds z Q ft r hg q
  unfold gTuple at hg
  split at hg
  · cases hg
    obtain ⟨v, rfl, a, vs, rfl, hs, r, z⟩ := r.one
    exact ⟨a, vs, rfl, .inl ⟨.inl hs, fun l hl => q _ _ (same_upd hl) (.tup (.inl (.inl upd_same)) z (r.keep (Kp.same (same_upd hl))))⟩⟩
  · cases hg
    obtain ⟨v, rfl, rc⟩ := r.one
    cases rc with
    | @tup a vs _ hs z r => exact ⟨a, vs, rfl, .inr ⟨hs, q H _ (Same.refl H) (.tup hs z r)⟩⟩
  · cases hg
theorem g_listF : OpNF K (fun xs H Q => ∃ p ys, xs = [.ref p] ∧ (SqL K H p ys ∨ SqT K H p ys) ∧ ∀ l, H l = none → Q (.ref l) (upd H l (.lst ys))) gList := by
  intro F M H vs ds z Q r hg q
  unfold gList at hg
  split at hg
  · cases hg
    obtain ⟨v, rfl, a, vs, rfl, hs, r, z⟩ := r.one
    exact ⟨a, vs, rfl, .inl (.inl hs), fun l hl => q l _ hl ⟨vs, rfl, r, z⟩⟩
  · cases hg
    obtain ⟨v, rfl, rc⟩ := r.one
    cases rc with
    | @tup a vs _ hs z r => exact ⟨a, vs, rfl, .inr hs, fun l hl => q l _ hl ⟨vs, rfl, r, z⟩⟩
  · cases hg
end
end Kr

namespace Kr
open PySem PySem.Spec L2
open PyProof.Rows hiding St

/-! ### tests, and, or, not, if .. else -/
section
variable {K : PySem.W.Frag} {X : Cx} {own : List Nat} {e a b c : Expr} {es rest : List Expr} {t ta tb tc : TE} {tA tB1 : TT} {d da db dc : DE} {qa qb : DB} {oa ob : DO} {pos : Pos}
def qVal (d : DE) : DB := bnd d fun x => match x with
  | .bl b => ret b
  | _ => stk
theorem xq (h : PX X own e t d) (he : ∀ whole, isTrue e X.env whole = (do let v ← whole; standAt e.pos; holding [v] (truthy v)) := by intro _; rfl) : PXT X own e (tB t) (qVal d) := ⟨pt_val h.pe he, fun F M σV H s z s' R q Q post => by
  obtain ⟨x, s1, q1, q⟩ := bnd_ok q
  refine h.ad F M σV H s x s1 R q1 _ fun F1 M1 H1 v R1 E1 r1 => ?_
  cases x with
  | bl k =>
    obtain ⟨rfl, rfl⟩ := ret_ok q
    cases r1
    exact ⟨_, rfl, post F1 M1 H1 _ R1 E1 rfl⟩
  | _ => cases q⟩
theorem xqcmp {op : CmpOp} {r : R2} {g : D → D → Option D} (ho : OpR X (compareOp op) r) (hg : Op2 X.K r g) (ha : PXO X own a ta oa) (hb : PXO X own b tb ob) (hm : behindInMarks op b = false := by first | exact nomark _ | rfl) : PXT X own (.Compare a [op] [b] pos) (tTest (tOp r ta tb)) (qVal (o2 g oa ob)) := ⟨pt_cmpR ho ha.pe hb.pe hm, fun F M σV H s z s' R q Q post => by
  obtain ⟨x, s1, q1, q⟩ := bnd_ok q
  refine ad_op2 hg ha.ad hb.ad F M σV H s x s1 R q1 _ fun F1 M1 H1 v R1 E1 r1 => ?_
  cases x with
  | bl k =>
    obtain ⟨rfl, rfl⟩ := ret_ok q
    cases r1
    exact ⟨_, rfl, post F1 M1 H1 _ R1 E1 rfl⟩
  | _ => cases q⟩
/-- by truth -/
def truD : D → Option Bool
  | .non => some false
  | .bl b => some b
  | .int i => some (i != 0)
  | .str x => bd (x.length ≤ sizeLine) ((x.length : Int) != 0)
  | .tup xs => some (!xs.isEmpty)
  | .lst xs => some (!xs.isEmpty)
  | .scr xs => some (!xs.isEmpty)
  | _ => none
def qTru (a : DO) : DB := bnd a fun x s => match deref s x with
  | some x => opt (truD x) s
  | none => .error .stuck
theorem isEmptyL {F : Addr → Prop} {M : List Addr} {H : Hp} {vs : List V} {ds : List D} (r : RepL K F M H vs ds) : (!vs.isEmpty) = !ds.isEmpty := by cases r <;> rfl
theorem xqtru (h : PXO X own e t oa) (he : ∀ whole, isTrue e X.env whole = (do let v ← whole; standAt e.pos; holding [v] (truthy v)) := by intro _; rfl) : PXT X own e (fun σ H Q => t σ H fun x H' => ∃ k, TruV X.K x H' k ∧ Q k H') (qTru oa) := ⟨pt_truth h.pe he, fun F M σV H s z s' R q Q post => by
  obtain ⟨x, s1, q1, q⟩ := bnd_ok q
  split at q
  · rename_i d hd
    obtain ⟨qc, rfl⟩ := opt_ok q
    refine h.ad F M σV H s x _ R q1 _ fun F1 M1 H1 v R1 E1 r1 => ?_
    have rc := deref_ok R1 r1 hd
    refine ⟨z, ?_, post F1 M1 H1 _ R1 E1 rfl⟩
    unfold truD at qc
    split at qc
    · cases qc; cases rc; rfl
    · cases qc; cases rc; rfl
    · cases qc; cases rc; rfl
    · obtain ⟨hz, rfl⟩ := bd_ok qc; cases rc; exact ⟨hz, rfl⟩
    · cases qc; cases rc with
      | @tup a vs _ hs hz r => exact .inr (.inl ⟨vs, hs, (isEmptyL r).symm⟩)
    · cases qc
      obtain ⟨a, vs, rfl, hs, r, hz⟩ := rc
      exact .inl ⟨vs, .inl hs, (isEmptyL r).symm⟩
    · rename_i ns
      cases qc; cases rc with
      | scr hs hz => exact .inl ⟨_, hs.sq, by cases ns <;> rfl⟩
    · cases qc
  · cases q⟩
def qNot (a : DB) : DB := bnd a fun x => ret (!x)
def qAnd (a b : DB) : DB := bnd a fun x => if x = true then b else ret false
def qOr (a b : DB) : DB := bnd a fun x => if x = true then ret true else b
theorem xqnot (h : PXT X own a tA qa) : PXT X own (.UnaryOp .Not a pos) (tNot tA) (qNot qa) := ⟨pt_not h.pt, fun F M σV H s z s' R q Q post => by
  obtain ⟨x, s1, q1, q⟩ := bnd_ok q
  obtain ⟨rfl, rfl⟩ := ret_ok q
  refine h.ad F M σV H s x _ R q1 _ fun F1 M1 H1 v R1 E1 r1 => ?_
  subst r1
  exact post F1 M1 H1 _ R1 E1 rfl⟩
theorem xqand1 (h : PXT X own a tA qa) : PXW X own (.BoolOp .And [a] pos) tA qa := ⟨pw_and1 h.pt, h.ad⟩
theorem xqor1 (h : PXT X own a tA qa) : PXW X own (.BoolOp .Or [a] pos) tA qa := ⟨pw_or1 h.pt, h.ad⟩
theorem xqand (h : PXT X own a tA qa) (h2 : PXW X own (.BoolOp .And (b :: rest) pos) tB1 qb) : PXW X own (.BoolOp .And (a :: b :: rest) pos) (tAnd tA tB1) (qAnd qa qb) := ⟨pw_and h.pt h2.pw, fun F M σV H s z s' R q Q post => by
  obtain ⟨x, s1, q1, q⟩ := bnd_ok q
  refine h.ad F M σV H s x s1 R q1 _ fun F1 M1 H1 v R1 E1 r1 => ?_
  subst r1
  cases v with
  | true =>
    rw [if_pos rfl] at q ⊢
    exact h2.ad F1 M1 σV H1 _ z s' R1 q Q fun F2 M2 H2 w R2 E2 r2 => post F2 M2 H2 w R2 (E1.trans E2) r2
  | false =>
    rw [if_neg Bool.false_ne_true] at q ⊢
    obtain ⟨rfl, rfl⟩ := ret_ok q
    exact post F1 M1 H1 _ R1 E1 rfl⟩
theorem xqor (h : PXT X own a tA qa) (h2 : PXW X own (.BoolOp .Or (b :: rest) pos) tB1 qb) : PXW X own (.BoolOp .Or (a :: b :: rest) pos) (tOr tA tB1) (qOr qa qb) := ⟨pw_or h.pt h2.pw, fun F M σV H s z s' R q Q post => by
  obtain ⟨x, s1, q1, q⟩ := bnd_ok q
  refine h.ad F M σV H s x s1 R q1 _ fun F1 M1 H1 v R1 E1 r1 => ?_
  subst r1
  cases v with
  | true =>
    rw [if_pos rfl] at q ⊢
    obtain ⟨rfl, rfl⟩ := ret_ok q
    exact post F1 M1 H1 _ R1 E1 rfl
  | false =>
    rw [if_neg Bool.false_ne_true] at q ⊢
    exact h2.ad F1 M1 σV H1 _ z s' R1 q Q fun F2 M2 H2 w R2 E2 r2 => post F2 M2 H2 w R2 (E1.trans E2) r2⟩
theorem PXW.x (h : PXW X own e tA qa) : PXT X own e tA qa := ⟨h.pw.pt, h.ad⟩
/-- and, or, not as values: all but the last are True or False -/
def dAnd (a b : DE) : DE := bnd a fun x => match x with
  | .bl c => if c = true then b else ret (.bl false)
  | _ => stk
def dOr (a b : DE) : DE := bnd a fun x => match x with
  | .bl c => if c = true then ret (.bl true) else b
  | _ => stk
def dNot (a : DE) : DE := bnd a fun x => match x with
  | .bl c => ret (.bl (!c))
  | _ => stk
theorem xone {op : BoolOp} (h : PX X own a t d) : PX X own (.BoolOp op [a] pos) t d := ⟨pe_one h.pe, h.ad⟩
theorem xand (h : PX X own a ta da) (h2 : PX X own (.BoolOp .And (b :: rest) pos) tb db) : PX X own (.BoolOp .And (a :: b :: rest) pos) (tAndV ta tb) (dAnd da db) := ⟨pe_and h.pe h2.pe, fun F M σV H s z s' R q Q post => by
  obtain ⟨x, s1, q1, q⟩ := bnd_ok q
  refine h.ad F M σV H s x s1 R q1 _ fun F1 M1 H1 v R1 E1 r1 => ?_
  cases x with
  | bl c =>
    cases r1
    refine ⟨c, rfl, ?_⟩
    cases c with
    | true =>
      dsimp only at q
      rw [if_pos rfl] at q ⊢
      exact h2.ad F1 M1 σV H1 _ z s' R1 q Q fun F2 M2 H2 w R2 E2 r2 => post F2 M2 H2 w R2 (E1.trans E2) r2
    | false =>
      dsimp only at q
      rw [if_neg Bool.false_ne_true] at q ⊢
      obtain ⟨rfl, rfl⟩ := ret_ok q
      exact post F1 M1 H1 _ R1 E1 (.bl false)
  | _ => cases q⟩
theorem xor (h : PX X own a ta da) (h2 : PX X own (.BoolOp .Or (b :: rest) pos) tb db) : PX X own (.BoolOp .Or (a :: b :: rest) pos) (tOrV ta tb) (dOr da db) := ⟨pe_or h.pe h2.pe, fun F M σV H s z s' R q Q post => by
  obtain ⟨x, s1, q1, q⟩ := bnd_ok q
  refine h.ad F M σV H s x s1 R q1 _ fun F1 M1 H1 v R1 E1 r1 => ?_
  cases x with
  | bl c =>
    cases r1
    refine ⟨c, rfl, ?_⟩
    cases c with
    | true =>
      dsimp only at q
      rw [if_pos rfl] at q ⊢
      obtain ⟨rfl, rfl⟩ := ret_ok q
      exact post F1 M1 H1 _ R1 E1 (.bl true)
    | false =>
      dsimp only at q
      rw [if_neg Bool.false_ne_true] at q ⊢
      exact h2.ad F1 M1 σV H1 _ z s' R1 q Q fun F2 M2 H2 w R2 E2 r2 => post F2 M2 H2 w R2 (E1.trans E2) r2
  | _ => cases q⟩
theorem xnot (h : PX X own a ta da) : PX X own (.UnaryOp .Not a pos) (tNotV ta) (dNot da) := ⟨pe_not h.pe, fun F M σV H s z s' R q Q post => by
  obtain ⟨x, s1, q1, q⟩ := bnd_ok q
  refine h.ad F M σV H s x s1 R q1 _ fun F1 M1 H1 v R1 E1 r1 => ?_
  cases x with
  | bl c =>
    cases r1
    obtain ⟨rfl, rfl⟩ := ret_ok q
    exact ⟨c, rfl, post F1 M1 H1 _ R1 E1 (.bl _)⟩
  | _ => cases q⟩
def dIf (c : DB) (a b : DE) : DE := bnd c fun x => if x = true then a else b
theorem xif (hc : PXT X own c tA qa) (ha : PX X own a ta da) (hb : PX X own b tb db) : PX X own (.IfExp c a b pos) (tIf tA ta tb) (dIf qa da db) := ⟨pe_ifExp hc.pt ha.pe hb.pe, fun F M σV H s z s' R q Q post => by
  obtain ⟨x, s1, q1, q⟩ := bnd_ok q
  refine hc.ad F M σV H s x s1 R q1 _ fun F1 M1 H1 v R1 E1 r1 => ?_
  subst r1
  cases v with
  | true =>
    rw [if_pos rfl] at q ⊢
    exact ha.ad F1 M1 σV H1 _ z s' R1 q Q fun F2 M2 H2 w R2 E2 r2 => post F2 M2 H2 w R2 (E1.trans E2) r2
  | false =>
    rw [if_neg Bool.false_ne_true] at q ⊢
    exact hb.ad F1 M1 σV H1 _ z s' R1 q Q fun F2 M2 H2 w R2 E2 r2 => post F2 M2 H2 w R2 (E1.trans E2) r2⟩
theorem xifF (hc : PXT X own c tA qa) (ha : PXF X own a ta da) (hb : PXF X own b tb db) : PXF X own (.IfExp c a b pos) (tIf tA ta tb) (dIf qa da db) := ⟨pe_ifExp hc.pt ha.pe hb.pe, fun F M σV H s z s' R q Q post => by
  obtain ⟨x, s1, q1, q⟩ := bnd_ok q
  refine hc.ad F M σV H s x s1 R q1 _ fun F1 M1 H1 v R1 E1 r1 => ?_
  subst r1
  have np : ∀ {p : Addr}, H1 p = none → H p = none := fun {p} hp => by
    cases e : H p with
    | none => rfl
    | some u => obtain ⟨u', e'⟩ := E1.gr p u e; rw [hp] at e'; cases e'
  cases v with
  | true =>
    rw [if_pos rfl] at q ⊢
    exact ha.ad F1 M1 σV H1 _ z s' R1 q Q fun F2 M2 H2 p R2 E2 hp x1 x2 x3 x4 => post F2 M2 H2 p R2 (E1.trans E2) (np hp) x1 x2 x3 x4
  | false =>
    rw [if_neg Bool.false_ne_true] at q ⊢
    exact hb.ad F1 M1 σV H1 _ z s' R1 q Q fun F2 M2 H2 p R2 E2 hp x1 x2 x3 x4 => post F2 M2 H2 p R2 (E1.trans E2) (np hp) x1 x2 x3 x4⟩

/-! ### isinstance with a built-in class -/
def tyN : D → Option String
  | .non => some "NoneType"
  | .bl _ => some "bool"
  | .int _ => some "int"
  | .str _ => some "str"
  | .tup _ => some "tuple"
  | .lst _ => some "list"
  | .dic _ => some "dict"
  | _ => none
def isiT (t T : String) : Option Bool :=
  if T ∈ ["int", "bool", "str", "tuple", "list", "dict"] ∧ t ∈ ["NoneType", "bool", "int", "str", "tuple", "list", "dict"] then some (t == T || (t == "bool" && T == "int")) else none
def gIsi (T : String) (d : D) : Option D := (tyN d).bind fun t => (isiT t T).map .bl
theorem kit_of {t T : String} {b : Bool} (h : isiT t T = some b) : PySem.W.kitOne K (.type t) (.type T) = some b := by
  unfold isiT at h
  split at h
  · rename_i hm
    obtain ⟨h1, h2⟩ := hm
    simp only [List.mem_cons, List.not_mem_nil, or_false] at h1 h2
    rcases h1 with rfl | rfl | rfl | rfl | rfl | rfl <;> rcases h2 with rfl | rfl | rfl | rfl | rfl | rfl | rfl <;> (cases h; rfl)
  · cases h
theorem tyx_of {F : Addr → Prop} {M : List Addr} {H : Hp} {v : V} {d : D} {t : String} (r : RepC K F M H v d) (h : tyN d = some t) : TyX K H v (.type t) := by
  cases d with
  | non => cases h; cases r; exact .base .non
  | bl b => cases h; cases r; exact .base (.bl _)
  | int b => cases h; cases r; exact .base (.int _)
  | str b => cases h; cases r; exact .base (.str _)
  | tup ds =>
    cases h
    cases r with
    | tup hs z r =>
    rcases hs with (hs | ⟨o, hs⟩) | ⟨o, its, n, hk, hc, _⟩
    · exact .base (.tup hs)
    · exact .fTuple hs
    · exact .kTuple hk hc
  | lst ds =>
    cases h
    obtain ⟨a, vs, rfl, hs, r, z⟩ := r
    rcases hs with hs | ⟨o, hs⟩
    · exact .base (.lst hs)
    · exact .base (.frz hs)
  | dic ds =>
    cases h
    obtain ⟨a, vs, rfl, hs, r, z⟩ := r
    rcases hs with hs | ⟨o, hs⟩
    · exact .base (.dK hs)
    · exact .fDict hs
  | obj i => cases h
  | scr i => cases h
def dIsi (T : String) (a : DO) : DE := bnd a fun x s => match deref s x with
  | some x => opt (gIsi T x) s
  | none => .error .stuck
theorem xisi {T : String} {x : Str} {p p2 : Pos} (hm : X.mg "isinstance" = none) (hm2 : X.mg x = none) (ha : PXO X own a ta oa) (hv2 : bootBuiltins x = some (.type T) := by decide +kernel) (hg : Gl X "isinstance" := by rfl) (hg2 : Gl X x := by rfl) (hn2 : x ≠ "__name__" := by decide) (hdb2 : (x == ("__debug__" : Str)) = false := by decide)
    (he : starEach (a :: [.Name x p2]) X.env = (false, eval a X.env) :: starEach [.Name x p2] X.env := by rfl) (he2 : starEach (.Name x p2 :: []) X.env = (false, eval (.Name x p2) X.env) :: starEach [] X.env := by rfl) (hpl : (backTo pos (starEach [.Name x p2] X.env)).any (·.1) = false := by rfl) :
    PX X own (.Call (.Name "isinstance" p) [a, .Name x p2] [] pos) (tCB (rIsi X.K) (tCons ta (tCons (tC (.ty T)) tNil))) (dIsi T oa) :=
  ⟨pe_callB call_isi hg hm (by decide +kernel) (pa_cons ha.pe (pa_cons (pe_bltn hg2 hm2 hv2 (rfl : RelV (.ty T) (.type T)) hn2 hdb2) pa_nil he2) he) (by decide) (by decide) he hpl, fun F M σV H s z s' R q Q post => by
    obtain ⟨x, s1, q1, q⟩ := bnd_ok q
    split at q
    · rename_i d hd
      obtain ⟨qc, rfl⟩ := opt_ok q
      refine ha.ad F M σV H s x _ R q1 _ fun F1 M1 H1 v R1 E1 r1 => ?_
      have rc := deref_ok R1 r1 hd
      unfold gIsi at qc
      cases e1 : tyN d with
      | none => rw [e1] at qc; cases qc
      | some t =>
        rw [e1] at qc
        cases e2 : isiT t T with
        | none => simp [e2] at qc
        | some k =>
          simp [e2] at qc
          subst qc
          exact ⟨v, .ty T, .type t, .type T, k, rfl, .ty T, tyx_of rc e1, kit_of e2, post F1 M1 H1 _ R1 E1 (.bl k)⟩
    · cases q⟩
end
end Kr

namespace Kr
open PySem PySem.Spec L2
open PyProof.Rows hiding St

/-! ### what is walked -/
/-- at each later heap the walk hands out the items -/
def Wk (K : PySem.W.Frag) (F : Addr → Prop) (M : List Addr) (H : Hp) (J : It) (ds : List D) : Prop := ∀ (F2 : Addr → Prop) (M2 : List Addr) (H2 : Hp), Kp F M H F2 M2 H2 → ∀ i : Nat,
  (∀ d, ds[i]? = some d → J.go i H2 ∧ ∀ x H3, J.yld i H2 x H3 → Same H2 H3 ∧ Rep K F2 M2 H3 x d) ∧ (ds.length ≤ i → J.stop i H2)
def AdI (K : PySem.W.Frag) (own : List Nat) (wi : TI) (d : DA) : Prop :=
  ∀ (F : Addr → Prop) (M : List Addr) (σV : St) (H : Hp) (s : S) (ds : List D) (h' : List D), SR K own F M σV H s → d s = .ok (ds, h') → ∀ Q : It → Hp → Prop,
    (∀ (F' : Addr → Prop) (M' : List Addr) (H' : Hp) (J : It), SR K own F' M' σV H' ⟨s.σ, h'⟩ → EE F M (Ow own σV s.σ) H F' M' (Ow own σV s.σ) H' → ds.length ≤ sizeLine → Wk K F' M' H' J ds → Q J H') → wi σV H Q
structure PXI (X : Cx) (own : List Nat) (tg e : Expr) (wi : TI) (d : DA) : Prop where
  pi : PI X tg e wi
  ad : AdI X.K own wi d
section
variable {K : PySem.W.Frag} {X : Cx} {own : List Nat} {e a b c tg : Expr} {es : List Expr} {t ta tb tc : TE} {d da db dc : DE} {pos p : Pos}
def iAny (K : PySem.W.Frag) (tl : TE) : TI := fun σ H R => tl σ H fun x H1 => (∃ a, x = .ref a ∧ (∃ xs, SqL K H1 a xs) ∧ R (Itl K a) H1) ∨ (∃ a, x = .ref a ∧ (∃ xs, SqT K H1 a xs) ∧ R (Itt K a) H1) ∨ ∃ z, x = .str z ∧ R (Its z) H1
theorem pi_any (hl : PE X e t) : PI X tg e (iAny X.K t) := by
  refine ⟨fun pins s σ H R I h => ?_⟩
  refine thn (hl.run pins s σ H _ I h) fun v s1 ⟨x, H1, I1, r1, q1⟩ => ?_
  rcases q1 with ⟨a, rfl, ⟨xs, hq⟩, q⟩ | ⟨a, rfl, ⟨xs, hq⟩, q⟩ | ⟨z, rfl, q⟩
  · cases r1
    obtain ⟨its, rv, pl, _⟩ := I1.list hq
    exact wpAny_pyIter_list pl.isList (pi_one (tk := s1.toks) I1 _ (turn_list a _) ⟨_, Heap.get?_push_size _ rfl, rfl, rfl⟩ q)
  · cases r1
    obtain ⟨its, rv, pt, _⟩ := I1.tuple hq
    exact wpAny_pyIter_tuple (show s1.heap.IsTuple a its.toArray from pt) (pi_one (tk := s1.toks) I1 _ (turn_tuple a _) ⟨_, Heap.get?_push_size _ rfl, rfl, rfl⟩ q)
  · obtain ⟨t, rfl⟩ := r1
    cases ha : z.cps.all (· < 128)
    · exact wpAny_pyIter_wide ha (pi_one (tk := s1.toks) I1 _ (turn_str _ z t "str_iterator" (.inr rfl)) ⟨_, Heap.get?_push_size _ rfl, rfl, rfl⟩ q)
    · exact wpAny_pyIter_ascii ha (pi_one (tk := s1.toks) I1 _ (turn_str _ z t "str_ascii_iterator" (.inl rfl)) ⟨_, Heap.get?_push_size _ rfl, rfl, rfl⟩ q)
def itemsD : D → Option (List D)
  | .tup xs => some xs
  | .lst xs => some xs
  | .scr xs => some (xs.map .int)
  | .str x => bd (x.length ≤ sizeLine) (x.cps.toList.map fun c => .str ⟨#[c]⟩)
  | _ => none
def iAnyD (d : DE) : DA := bnd d fun x => opt (itemsD x)
theorem wk_list {F : Addr → Prop} {M : List Addr} {H : Hp} {a : Addr} {vs : List V} {ds : List D} (h : ∀ (F2 : Addr → Prop) (M2 : List Addr) (H2 : Hp), Kp F M H F2 M2 H2 → SqL K H2 a vs) (r : RepL K F M H vs ds) : Wk K F M H (Itl K a) ds := by
  intro F2 M2 H2 k i
  have hs := h F2 M2 H2 k
  have r2 := r.keep k
  refine ⟨fun d hd => ?_, fun hl => ⟨vs, hs, by rw [r.len]; exact hl⟩⟩
  obtain ⟨v, e1, e2⟩ := r2.get hd
  refine ⟨⟨vs, v, hs, e1⟩, fun x H3 y => ?_⟩
  obtain ⟨rfl, y⟩ := y
  have := y vs hs
  rw [e1] at this
  cases this
  exact ⟨Same.refl _, e2⟩
theorem wk_tup {F : Addr → Prop} {M : List Addr} {H : Hp} {a : Addr} {vs : List V} {ds : List D} (h : SqT K H a vs) (r : RepL K F M H vs ds) : Wk K F M H (Itt K a) ds := by
  intro F2 M2 H2 k i
  have hs := k.sqT h
  have r2 := r.keep k
  refine ⟨fun d hd => ?_, fun hl => ⟨vs, hs, by rw [r.len]; exact hl⟩⟩
  obtain ⟨v, e1, e2⟩ := r2.get hd
  refine ⟨⟨vs, v, hs, e1⟩, fun x H3 y => ?_⟩
  obtain ⟨rfl, y⟩ := y
  have := y vs hs
  rw [e1] at this
  cases this
  exact ⟨Same.refl _, e2⟩
theorem xi (h : PX X own e t d) : PXI X own tg e (iAny X.K t) (iAnyD d) := ⟨pi_any h.pe, fun F M σV H s z s' R q Q post => by
  obtain ⟨x, s1, q1, q⟩ := bnd_ok q
  obtain ⟨qa, rfl⟩ := opt_ok q
  refine h.ad F M σV H s x _ R q1 _ fun F1 M1 H1 v R1 E1 r1 => ?_
  unfold itemsD at qa
  split at qa
  · cases qa
    cases r1 with
    | @tup a vs _ hs hz r => exact .inr (.inl ⟨a, rfl, ⟨vs, hs⟩, post F1 M1 H1 _ R1 E1 hz (wk_tup hs r)⟩)
  · cases qa
    cases r1 with
    | @lst a vs _ hs nf hz r => exact .inl ⟨a, rfl, ⟨vs, .inl hs⟩, post F1 M1 H1 _ R1 E1 hz (wk_list (fun F2 M2 H2 k => .inl (k.rdd hs nf).1) r)⟩
  · rename_i ns
    cases qa
    cases r1 with
    | @scr a _ hs hz => exact .inl ⟨a, rfl, ⟨_, hs.sq⟩, post F1 M1 H1 _ R1 E1 (by rw [List.length_map]; exact hz) (wk_list (fun F2 M2 H2 k => (k.fzL hs).sq) (RepL.ofInts ns))⟩
  · rename_i x
    obtain ⟨hz, rfl⟩ := bd_ok qa
    cases r1
    refine .inr (.inr ⟨x, rfl, post F1 M1 H1 _ R1 E1 (by rw [List.length_map, Array.length_toList]; exact hz) fun F2 M2 H2 k i => ⟨fun d hd => ?_, fun hl => ?_⟩⟩)
    · rw [List.getElem?_map] at hd
      cases e : x.cps.toList[i]? with
      | none => rw [e] at hd; cases hd
      | some c =>
        rw [e] at hd; cases hd
        have e' : x.cps[i]? = some c := by rw [← Array.getElem?_toList]; exact e
        have hi : i < x.cps.size := (Array.getElem?_eq_some_iff.mp e').1
        refine ⟨hi, fun y H3 yy => ?_⟩
        obtain ⟨rfl, c', e2, rfl⟩ := yy
        rw [e'] at e2
        cases e2
        exact ⟨Same.refl _, .str _⟩
    · rw [List.length_map, Array.length_toList] at hl
      exact hl
  · cases qa⟩
/-! range -/
def rngD (lo : Int) (n : Nat) : List D := (List.range n).map fun (i : Nat) => D.int (lo + (i : Int))
theorem wk_rng {F : Addr → Prop} {M : List Addr} {H : Hp} {lo : Int} {n : Nat} : Wk K F M H (Itr lo n) (rngD lo n) := by
  intro F2 M2 H2 k i
  refine ⟨fun d hd => ?_, fun hl => by unfold rngD at hl; rw [List.length_map, List.length_range] at hl; exact hl⟩
  unfold rngD at hd
  rw [List.getElem?_map] at hd
  by_cases hi : i < n
  · rw [List.getElem?_range hi] at hd
    cases hd
    refine ⟨hi, fun x H3 y => ?_⟩
    obtain ⟨rfl, rfl⟩ := y
    exact ⟨Same.refl _, .int _⟩
  · rw [List.getElem?_eq_none (by rw [List.length_range]; omega)] at hd
    cases hd
def iRng1D (d : DE) : DA := bnd d fun x => match x with
  | .int j => opt (bd (-16777216 ≤ j ∧ j ≤ 16777216) (rngD 0 j.toNat))
  | _ => stk
theorem xi_rng1 {p : Pos} (hm : X.mg "range" = none) (h : PX X own a t d) (hg : Gl X "range" := by rfl) (hs : starEach [a] X.env = [(false, eval a X.env)] := by rfl) : PXI X own tg (.Call (.Name "range" p) [a] [] pos) (iRng1 (tCons t tNil)) (iRng1D d) := ⟨pi_range1 hg hm (pa_cons h.pe pa_nil hs) hs, fun F M σV H s z s' R q Q post => by
  obtain ⟨x, s1, q1, q⟩ := bnd_ok q
  refine h.ad F M σV H s x _ R q1 _ fun F1 M1 H1 v R1 E1 r1 => ?_
  cases x with
  | int j =>
    obtain ⟨qa, rfl⟩ := opt_ok q
    obtain ⟨⟨b1, b2⟩, rfl⟩ := bd_ok qa
    cases r1
    refine ⟨j, rfl, by omega, by omega, post F1 M1 H1 _ R1 E1 ?_ wk_rng⟩
    unfold rngD
    rw [List.length_map, List.length_range, sizeLine_eq]
    omega
  | _ => cases q⟩
def iRng2D (d e : DE) : DA := bnd d fun x => bnd e fun y => match x, y with
  | .int i, .int j => opt (bd ((-16777216 ≤ i ∧ i ≤ 16777216) ∧ -16777216 ≤ j ∧ j ≤ 16777216 ∧ j - i ≤ 16777216) (rngD i (j - i).toNat))
  | _, _ => stk
theorem xi_rng2 {p : Pos} (hm : X.mg "range" = none) (h : PX X own a ta da) (h2 : PX X own b tb db) (hg : Gl X "range" := by rfl) (hs : starEach [a, b] X.env = [(false, eval a X.env), (false, eval b X.env)] := by rfl) (hs2 : starEach [b] X.env = [(false, eval b X.env)] := by rfl)
    (hs3 : starEach [a, b] X.env = (false, eval a X.env) :: starEach [b] X.env := by rfl) : PXI X own tg (.Call (.Name "range" p) [a, b] [] pos) (iRng2 (tCons ta (tCons tb tNil))) (iRng2D da db) := ⟨pi_range2 hg hm (pa_cons h.pe (pa_cons h2.pe pa_nil hs2) hs3) hs hs2, fun F M σV H s z s' R q Q post => by
  obtain ⟨x, s1, q1, q⟩ := bnd_ok q
  obtain ⟨y, s2, q2, q⟩ := bnd_ok q
  refine h.ad F M σV H s x _ R q1 _ fun F1 M1 H1 v R1 E1 r1 => ?_
  refine h2.ad F1 M1 σV H1 _ y _ R1 q2 _ fun F2 M2 H2 w R2 E2 r2 => ?_
  cases x with
  | int i => cases y with
    | int j =>
      obtain ⟨qa, rfl⟩ := opt_ok q
      obtain ⟨⟨b1, b2⟩, rfl⟩ := bd_ok qa
      cases r1; cases r2
      refine ⟨i, j, rfl, by omega, post F2 M2 H2 _ R2 (E1.trans E2) ?_ wk_rng⟩
      unfold rngD
      rw [List.length_map, List.length_range, sizeLine_eq]
      omega
    | _ => cases q
  | _ => cases q⟩
end

/-! ### where a value goes -/
def AdG (K : PySem.W.Frag) (own ts : List Nat) (g : TG) (b : D → S → R S) : Prop :=
  ∀ (F : Addr → Prop) (M : List Addr) (σV : St) (H : Hp) (s : S) (v : V) (d : D) (s' : S), SR K own F M σV H s → Rep K F M H v d → b d s = .ok s' → ∀ Q : St → Hp → Prop,
    (∀ σV' : St, SR K own F M σV' H s' → s'.h = s.h → (∀ j, j ∉ ts → σV'[j]? = σV[j]? ∧ s'.σ[j]? = s.σ[j]?) → σV'.length = σV.length → Q σV' H) → g v σV H Q
structure PXG (X : Cx) (own ts : List Nat) (tg : Expr) (g : TG) (b : D → S → R S) : Prop where
  pg : PG X tg g
  ad : AdG X.K own ts g b
def AdGs (K : PySem.W.Frag) (own ts : List Nat) (g : TGs) (b : List D → S → R S) : Prop :=
  ∀ (F : Addr → Prop) (M : List Addr) (σV : St) (H : Hp) (s : S) (v : List V) (d : List D) (s' : S), SR K own F M σV H s → RepL K F M H v d → b d s = .ok s' → ∀ Q : St → Hp → Prop,
    (∀ σV' : St, SR K own F M σV' H s' → s'.h = s.h → (∀ j, j ∉ ts → σV'[j]? = σV[j]? ∧ s'.σ[j]? = s.σ[j]?) → σV'.length = σV.length → Q σV' H) → g v σV H Q
structure PXGs (X : Cx) (own ts : List Nat) (tg : List Expr) (g : TGs) (b : List D → S → R S) : Prop where
  pg : PGs X tg g
  ad : AdGs X.K own ts g b
def bName (i : Nat) : D → S → R S := fun d s => .ok ⟨s.σ.set i (some d), s.h⟩
section
variable {K : PySem.W.Frag} {X : Cx} {own ts us : List Nat} {e tg : Expr} {es : List Expr} {pos p : Pos}
theorem ow_set {σV : St} {σ : List (Option D)} {i : Nat} {v : V} {d : D} {a : Addr} (hi : i ∉ own) : Ow own (σV.set i (some v)) (σ.set i (some d)) a ↔ Ow own σV σ a := by
  have key : ∀ j, j ∈ own → (σV.set i (some v))[j]? = σV[j]? ∧ (σ.set i (some d))[j]? = σ[j]? := fun j hj => by
    have : i ≠ j := fun z => hi (z ▸ hj)
    exact ⟨List.getElem?_set_ne this, List.getElem?_set_ne this⟩
  constructor
  · rintro ⟨j, hj, h1, d', h2⟩
    rw [(key j hj).1] at h1
    rw [(key j hj).2] at h2
    exact ⟨j, hj, h1, d', h2⟩
  · rintro ⟨j, hj, h1, d', h2⟩
    exact ⟨j, hj, by rw [(key j hj).1]; exact h1, d', by rw [(key j hj).2]; exact h2⟩
/-- a slot gets a value -/
theorem SR.put {F : Addr → Prop} {M : List Addr} {H : Hp} {σV : St} {s : S} {i : Nat} {v : V} {d : D} (R : SR K own F M σV H s) (hi : i ∉ own) (r : Rep K F M H v d) : SR K own F M (σV.set i (some v)) H ⟨s.σ.set i (some d), s.h⟩ := by
  have key : ∀ j, j ∈ own → (σV.set i (some v))[j]? = σV[j]? ∧ (s.σ.set i (some d))[j]? = s.σ[j]? := fun j hj => by
    have : i ≠ j := fun z => hi (z ▸ hj)
    exact ⟨List.getElem?_set_ne this, List.getElem?_set_ne this⟩
  refine ⟨by show (s.σ.set i (some d)).length = _; rw [List.length_set, List.length_set]; exact R.len, fun j d' n h => ?_, fun j d' n h => ?_, fun j k q d' e' hj hk h1 h2 h3 h4 => ?_, R.ml, R.nd, R.obj, R.ft⟩
  · by_cases e : i = j
    · subst e
      have hl : i < s.σ.length := by
        have := (List.getElem?_eq_some_iff.mp h).1
        rw [List.length_set] at this
        exact this
      have h : (s.σ.set i (some d))[i]? = some (some d') := h
      rw [List.getElem?_set_self hl] at h
      cases h
      exact ⟨v, List.getElem?_set_self (by rw [← R.len]; exact hl), r⟩
    · have h : (s.σ.set i (some d))[j]? = some (some d') := h
      rw [List.getElem?_set_ne e] at h
      obtain ⟨w, e1, e2⟩ := R.val j d' n h
      exact ⟨w, by rw [List.getElem?_set_ne e]; exact e1, e2⟩
  · have h : (s.σ.set i (some d))[j]? = some (some d') := h
    rw [(key j n).2] at h
    obtain ⟨q, e1, e2⟩ := R.ownd j d' n h
    exact ⟨q, by rw [(key j n).1]; exact e1, e2⟩
  · have h1 : (s.σ.set i (some d))[j]? = some (some d') := h1
    have h2 : (s.σ.set i (some d))[k]? = some (some e') := h2
    rw [(key j hj).2] at h1
    rw [(key k hk).2] at h2
    rw [(key j hj).1] at h3
    rw [(key k hk).1] at h4
    exact R.dis j k q d' e' hj hk h1 h2 h3 h4
theorem xg (i : Nat) {x : Str} (hN : X.N.Nodup) (hi : i ∉ own := by decide) (hx : X.N[i]? = some x := by rfl) (hl : Loc X.env.scope x := by first | exact Or.inl rfl | exact Or.inr rfl) (hf : X.fn x = true ∨ X.env.scope.names.lookup x = some .local := by first | exact .inl rfl | exact .inr rfl) :
    PXG X own [i] (.Name x pos) (gName i) (bName i) := ⟨pg_name hN hx hl hf, fun F M σV H s v d s' R r q Q post => by
  cases q
  refine post (σV.set i (some v)) (R.put hi r) rfl (fun j hj => ?_) (List.length_set ..)
  have : i ≠ j := fun z => hj (by simp [z])
  exact ⟨List.getElem?_set_ne this, List.getElem?_set_ne this⟩⟩
def bsNil : List D → S → R S := fun ds s => match ds with
  | [] => .ok s
  | _ => .error .stuck
def bsCons (b : D → S → R S) (c : List D → S → R S) : List D → S → R S := fun ds s => match ds with
  | d :: r => match b d s with
    | .ok s1 => c r s1
    | .error e => .error e
  | _ => .error .stuck
def bTup (n : Nat) (c : List D → S → R S) : D → S → R S := fun d s => match d with
  | .tup ds => if ds.length = n then c ds s else .error .stuck
  | _ => .error .stuck
theorem xgs_nil : PXGs X own [] [] gNil bsNil := ⟨pgs_nil, fun F M σV H s v d s' R r q Q post => by
  cases d with
  | nil =>
    cases q
    cases r
    exact ⟨rfl, post σV R rfl (fun j _ => ⟨rfl, rfl⟩) rfl⟩
  | cons x y => cases q⟩
theorem xgs_cons {g : TG} {b : D → S → R S} {g2 : TGs} {c : List D → S → R S} (h : PXG X own ts e g b) (h2 : PXGs X own us es g2 c) (hs : (assignEach (e :: es) X.env).map (·.2) = assign e X.env :: (assignEach es X.env).map (·.2) := by rfl) : PXGs X own (ts ++ us) (e :: es) (gCons g g2) (bsCons b c) := ⟨pgs_cons h.pg h2.pg hs, fun F M σV H s v d s' R r q Q post => by
  cases d with
  | nil => cases q
  | cons x y =>
    cases r with
    | cons rx ry =>
    unfold bsCons at q
    dsimp only at q
    split at q
    · rename_i s1 q1
      refine ⟨_, _, rfl, h.ad F M σV H s _ x s1 R rx q1 _ fun σ1 R1 e1 k1 l1 => ?_⟩
      refine h2.ad F M σ1 H s1 _ y s' R1 ry q Q fun σ2 R2 e2 k2 l2 => ?_
      refine post σ2 R2 (e2.trans e1) (fun j hj => ?_) (l2.trans l1)
      rw [List.mem_append, not_or] at hj
      exact ⟨(k2 j hj.2).1.trans (k1 j hj.1).1, (k2 j hj.2).2.trans (k1 j hj.1).2⟩
    · cases q⟩
theorem xgt {k n : Nat} {g : TGs} {c : List D → S → R S} (hc : X.calm = true) (h : PXGs X own ts es g c) (hn : (assignEach es X.env).length = n := by rfl) (hst : (assignEach es X.env).findIdx? (·.1) = none := by rfl) : PXG X own ts (.Tuple es k pos) (gTup X.K n g) (bTup n c) := ⟨pg_tup hc h.pg hn hst, fun F M σV H s v d s' R r q Q post => by
  cases d with
  | tup ds =>
    unfold bTup at q
    dsimp only at q
    split at q
    · rename_i hl
      cases r with
      | @tup a vs _ hs hz r =>
      exact ⟨a, vs, rfl, hs, r.len.trans hl, h.ad F M σV H s vs ds s' R r q Q post⟩
    · cases q
  | _ => cases q⟩
end
end Kr

namespace Kr
open PySem PySem.Spec L2
open PyProof.Rows hiding St

/-! ### list comprehensions -/
def wipeD (σ : List (Option D)) : List Nat → List (Option D)
  | [] => σ
  | v :: vs => (wipeD σ vs).set v none
def cEl (vs : List Nat) (b : D → S → R S) (tt : DB) (te : DE) (σ0 : List (Option D)) (x : D) (h : List D) : R (Option D × List D) := match b x ⟨wipeD σ0 vs, h⟩ with
  | .ok s1 => match tt s1 with
    | .ok (true, h2) => match te ⟨s1.σ, h2⟩ with
      | .ok (y, h3) => .ok (some y, h3)
      | .error e => .error e
    | .ok (false, h2) => .ok (none, h2)
    | .error e => .error e
  | .error e => .error e
def cLoop (f : D → List D → R (Option D × List D)) : List D → List D → R (List D × List D)
  | [], h => .ok ([], h)
  | x :: xs, h => match f x h with
    | .ok (o, h1) => match cLoop f xs h1 with
      | .ok (ys, h2) => .ok (o.toList ++ ys, h2)
      | .error e => .error e
    | .error e => .error e
def dComp (vs : List Nat) (it : DA) (b : D → S → R S) (tt : DB) (te : DE) : DE := fun s => match it s with
  | .ok (items, h1) => match cLoop (cEl vs b tt te s.σ) items h1 with
    | .ok (ys, h2) => .ok (.lst ys, h2)
    | .error e => .error e
  | .error e => .error e
section
variable {K : PySem.W.Frag} {own : List Nat} {F F' F2 : Addr → Prop} {M M' M2 : List Addr} {H H' H2 : Hp} {σV σV' : St} {σ σ' : List (Option D)} {h h' : List D} {p : Addr} {o : HO} {O1 O2 : Addr → Prop}
theorem wipe_get (σ : St) : ∀ (vs : List Nat) (j : Nat), j ∉ vs → (wipe σ vs)[j]? = σ[j]?
  | [], _, _ => rfl
  | v :: vs, j, hj => by
    rw [List.mem_cons, not_or] at hj
    unfold wipe
    rw [List.getElem?_set_ne (fun e => hj.1 e.symm)]
    exact wipe_get σ vs j hj.2
theorem wipeD_get (σ : List (Option D)) : ∀ (vs : List Nat) (j : Nat), j ∉ vs → (wipeD σ vs)[j]? = σ[j]?
  | [], _, _ => rfl
  | v :: vs, j, hj => by
    rw [List.mem_cons, not_or] at hj
    unfold wipeD
    rw [List.getElem?_set_ne (fun e => hj.1 e.symm)]
    exact wipeD_get σ vs j hj.2
theorem wipeD_length (σ : List (Option D)) : ∀ vs : List Nat, (wipeD σ vs).length = σ.length
  | [] => rfl
  | v :: vs => by unfold wipeD; rw [List.length_set, wipeD_length σ vs]
theorem wipeD_in (σ : List (Option D)) : ∀ (vs : List Nat) (j : Nat) (d : D), (wipeD σ vs)[j]? = some (some d) → j ∉ vs
  | [], _, _, _ => by simp
  | v :: vs, j, d, e => by
    unfold wipeD at e
    by_cases hj : v = j
    · subst hj
      by_cases hl : v < (wipeD σ vs).length
      · rw [List.getElem?_set_self hl] at e; cases e
      · rw [List.getElem?_eq_none (by rw [List.length_set]; omega)] at e; cases e
    · rw [List.getElem?_set_ne hj] at e
      simp only [List.mem_cons, not_or]
      exact ⟨fun z => hj z.symm, wipeD_in σ vs j d e⟩
theorem wipe_at (σ : St) : ∀ (vs : List Nat) (j : Nat), j ∈ vs → j < σ.length → (wipe σ vs)[j]? = some none
  | [], _, h, _ => absurd h (by simp)
  | v :: vs, j, hj, hl => by
    unfold wipe
    by_cases e : v = j
    · subst e
      rw [List.getElem?_set_self (by rw [wipe_length]; exact hl)]
    · rw [List.getElem?_set_ne e]
      rcases List.mem_cons.mp hj with z | z
      · exact absurd z.symm e
      · exact wipe_at σ vs j z hl
theorem wipe_congr {a b : St} {vs : List Nat} (h : ∀ j, j ∉ vs → a[j]? = b[j]?) (hl : a.length = b.length) : wipe a vs = wipe b vs := by
  apply List.ext_getElem?
  intro j
  by_cases hj : j ∈ vs
  · by_cases hx : j < a.length
    · rw [wipe_at a vs j hj hx, wipe_at b vs j hj (by omega)]
    · rw [List.getElem?_eq_none (by rw [wipe_length]; omega), List.getElem?_eq_none (by rw [wipe_length]; omega)]
  · rw [wipe_get a vs j hj, wipe_get b vs j hj]
    exact h j hj
theorem SR.wipe {vs : List Nat} (R : SR K own F M σV H ⟨σ, h⟩) (hv : ∀ i ∈ vs, i ∉ own) : SR K own F M (wipe σV vs) H ⟨wipeD σ vs, h⟩ := by
  have ko : ∀ j, j ∈ own → (L2.wipe σV vs)[j]? = σV[j]? ∧ (wipeD σ vs)[j]? = σ[j]? := fun j hj => ⟨wipe_get σV vs j fun z => hv j z hj, wipeD_get σ vs j fun z => hv j z hj⟩
  refine ⟨by show (wipeD σ vs).length = _; rw [wipeD_length, wipe_length]; exact R.len, fun j d n e => ?_, fun j d n e => ?_, fun j k q d e hj hk h1 h2 h3 h4 => ?_, R.ml, R.nd, R.obj, R.ft⟩
  · have hj := wipeD_in σ vs j d e
    have e : (wipeD σ vs)[j]? = some (some d) := e
    rw [wipeD_get σ vs j hj] at e
    obtain ⟨v, e1, e2⟩ := R.val j d n e
    exact ⟨v, by rw [wipe_get σV vs j hj]; exact e1, e2⟩
  · have e : (wipeD σ vs)[j]? = some (some d) := e
    rw [(ko j n).2] at e
    obtain ⟨q, e1, e2⟩ := R.ownd j d n e
    exact ⟨q, by rw [(ko j n).1]; exact e1, e2⟩
  · have h1 : (wipeD σ vs)[j]? = some (some d) := h1
    have h2 : (wipeD σ vs)[k]? = some (some e) := h2
    rw [(ko j hj).2] at h1
    rw [(ko k hk).2] at h2
    rw [(ko j hj).1] at h3
    rw [(ko k hk).1] at h4
    exact R.dis j k q d e hj hk h1 h2 h3 h4
/-- the same own slots: the same owned objects -/
theorem ow_congr (k : ∀ j, j ∈ own → σV'[j]? = σV[j]? ∧ σ'[j]? = σ[j]?) : Ow own σV' σ' = Ow own σV σ := by
  funext a
  apply propext
  constructor
  · rintro ⟨j, hj, h1, d', h2⟩
    rw [(k j hj).1] at h1
    rw [(k j hj).2] at h2
    exact ⟨j, hj, h1, d', h2⟩
  · rintro ⟨j, hj, h1, d', h2⟩
    exact ⟨j, hj, by rw [(k j hj).1]; exact h1, d', by rw [(k j hj).2]; exact h2⟩
/-- back from a block with other slots -/
theorem SR.back (R : SR K own F M σV H ⟨σ, h⟩) (R' : SR K own F' M' σV' H' ⟨σ', h'⟩) (kp : Kp F M H F' M' H') (k : ∀ j, j ∈ own → σV'[j]? = σV[j]? ∧ σ'[j]? = σ[j]?) : SR K own F' M' σV H' ⟨σ, h'⟩ := by
  refine ⟨R.len, fun j d n e => ?_, fun j d n e => ?_, R.dis, R'.ml, R'.nd, R'.obj, R'.ft⟩
  · obtain ⟨v, e1, e2⟩ := R.val j d n e
    exact ⟨v, e1, e2.keep kp⟩
  · have e : σ[j]? = some (some d) := e
    obtain ⟨q, e1, e2⟩ := R'.ownd j d n (by show σ'[j]? = _; rw [(k j n).2]; exact e)
    rw [(k j n).1] at e1
    exact ⟨q, e1, e2⟩
theorem kp_wr {xs ys : List V} (hF : F p) (hp : H p = some (.lst xs)) : Kp F M H F M (upd H p (.lst ys)) := by
  refine ⟨fun a u e n => ⟨?_, n⟩, fun a zs e => ?_, fun _ _ e => e⟩
  · rw [upd_ne (fun z => n (by rw [z]; exact hF))]; exact e
  · have : a ≠ p := fun z => by
      subst z
      rcases e with e | ⟨_, e⟩ <;> rw [hp] at e <;> cases e
    unfold Rd
    rw [upd_ne this]
    exact e
/-- a kept list is changed -/
theorem SR.wr {s : S} {xs ys : List V} (R : SR K own F M σV H s) (hF : F p) (hm : p ∉ M) (ho : ¬ Ow own σV s.σ p) (hp : H p = some (.lst xs)) : SR K own F M σV (upd H p (.lst ys)) s := by
  have k : Kp F M H F M (upd H p (.lst ys)) := kp_wr hF hp
  refine ⟨R.len, fun i d n e => ?_, fun i d n e => ?_, R.dis, R.ml, R.nd, fun i q d h1 h2 => ?_, fun a e => ?_⟩
  · obtain ⟨v, e1, e2⟩ := R.val i d n e
    exact ⟨v, e1, e2.keep k⟩
  · obtain ⟨q, e1, e2, e3, e4⟩ := R.ownd i d n e
    have : q ≠ p := fun z => ho ⟨i, n, by rw [← z]; exact e1, d, e⟩
    exact ⟨q, e1, e2.keep k fun o' z => by rw [upd_ne this]; exact z, e3, e4⟩
  · obtain ⟨e1, e2⟩ := R.obj i q d h1 h2
    have : q ≠ p := fun z => hm (by rw [← z]; exact List.mem_of_getElem? h1)
    exact ⟨e1.keep k fun o' z => by rw [upd_ne this]; exact z, e2⟩
  · by_cases z : a = p
    · subst z; exact ⟨_, upd_same⟩
    · obtain ⟨u, hu⟩ := R.ft a e
      exact ⟨u, by rw [upd_ne z]; exact hu⟩
theorem EE.wr (E : EE F M O1 H F' M' O2 H') (hp : H p = none) {o : HO} (hp' : ∃ u, H' p = some u) : EE F M O1 H F' M' O2 (upd H' p o) := by
  refine ⟨fun a u e m n => ?_, fun a u e => ?_, E.m⟩
  · obtain ⟨h1, h2⟩ := E.keep a u e m n
    have : a ≠ p := fun z => by rw [z, hp] at e; cases e
    exact ⟨by rw [upd_ne this]; exact h1, h2⟩
  · obtain ⟨u', h1⟩ := E.gr a u e
    by_cases z : a = p
    · subst z; exact ⟨_, upd_same⟩
    · exact ⟨u', by rw [upd_ne z]; exact h1⟩
end
section
variable {K : PySem.W.Frag} {X : Cx} {own ts vs : List Nat} {elt tg iter : Expr} {ifs : List Expr} {wi : TI} {g : TG} {tt : TT} {te : TE} {it : DA} {b : D → S → R S} {qt : DB} {de : DE} {pos : Pos}
theorem ad_comp (hv : ∀ i ∈ vs, i ∉ own) (ht : ∀ j ∈ ts, j ∈ vs) (hi : AdI K own wi it) (hg : AdG K own ts g b) (hq : AdR K own ρB tt qt) (he : AdR K own (ρV K) te de) : AdF K own (tLc wi g tt te vs) (dComp vs it b qt de) := by
  intro F M σV H s r h' R q Q post
  unfold dComp at q
  split at q
  case h_2 => cases q
  rename_i items h1 q1
  split at q
  case h_2 => cases q
  rename_i ys hE q2
  cases q
  refine hi F M σV H s items h1 R q1 _ fun F1 M1 H1 J R1 E1 hz wk Dd hD => ?_
  have nD : H Dd = none := by
    cases e : H Dd with
    | none => rfl
    | some u => obtain ⟨u', e'⟩ := E1.gr Dd u e; rw [hD] at e'; cases e'
  refine ⟨fun i m H3 => m = items.length - i ∧ i ≤ items.length ∧ ∃ (F2 : Addr → Prop) (M2 : List Addr) (h2 : List D) (ac zs : List D) (av : List V), SR K own F2 M2 σV H3 ⟨s.σ, h2⟩ ∧ EE F M (Ow own σV s.σ) H F2 M2 (Ow own σV s.σ) H3 ∧ Kp F1 M1 H1 F2 M2 H3 ∧ F2 Dd ∧ Dd ∉ M2 ∧ ¬ Ow own σV s.σ Dd ∧
    H3 Dd = some (.lst av) ∧ RepL K F2 M2 H3 av ac ∧ ac.length ≤ i ∧ cLoop (cEl vs b qt de s.σ) (items.drop i) h2 = .ok (zs, h') ∧ ac ++ zs = ys, ?_, ?_⟩
  · refine ⟨items.length, by omega, Nat.zero_le _, plus F1 Dd, M1, h1, [], ys, [], R1.lay hD, E1.trans (EE.lay hD), kp_plus hD, .inr rfl, fun z => ?_, fun z => ?_, upd_same, .nil, Nat.le_refl _, q2, rfl⟩
    · obtain ⟨u, hu⟩ := R1.ft Dd (R1.inM z).1
      rw [hD] at hu; cases hu
    · obtain ⟨u, hu⟩ := R1.ft Dd (R1.inO z).1
      rw [hD] at hu; cases hu
  · rintro i m H3 ⟨rfl, hil, F2, M2, h2, ac, zs, av, R2, E2, kp2, fD, mD, oD, hDl, rL, hal, hl, hc⟩
    have wki := wk F2 M2 H3 kp2 i
    by_cases hlt : i < items.length
    · obtain ⟨go, yl⟩ := wki.1 _ (List.getElem?_eq_getElem hlt)
      rw [List.drop_eq_getElem_cons hlt] at hl
      unfold cLoop at hl
      split at hl
      case h_2 => cases hl
      rename_i o1 h3 f1
      split at hl
      case h_2 => cases hl
      rename_i ws h4 l1
      cases hl
      refine .inr ⟨go, fun H' => ∃ (F2 : Addr → Prop) (M2 : List Addr) (h2 : List D) (ac zs : List D) (av : List V), SR K own F2 M2 σV H' ⟨s.σ, h2⟩ ∧ EE F M (Ow own σV s.σ) H F2 M2 (Ow own σV s.σ) H' ∧ Kp F1 M1 H1 F2 M2 H' ∧ F2 Dd ∧ Dd ∉ M2 ∧ ¬ Ow own σV s.σ Dd ∧
        H' Dd = some (.lst av) ∧ RepL K F2 M2 H' av ac ∧ ac.length ≤ i + 1 ∧ cLoop (cEl vs b qt de s.σ) (items.drop (i + 1)) h2 = .ok (zs, h') ∧ ac ++ zs = ys, fun H' hn => ⟨_, by omega, rfl, hlt, hn⟩, fun x H4 y => ?_⟩
      obtain ⟨sm, rx⟩ := yl x H4 y
      have R3 := R2.same sm
      have E3 := E2.trans (EE.same sm)
      unfold cEl at f1
      split at f1
      case h_2 => cases f1
      rename_i s1 b1
      refine hg F2 M2 (wipe σV vs) H4 ⟨wipeD s.σ vs, h2⟩ x _ s1 (R3.wipe hv) rx b1 _ fun σ2 R4 eh ks kl => ?_
      have ko : ∀ j, j ∈ own → σ2[j]? = σV[j]? ∧ s1.σ[j]? = s.σ[j]? := fun j hj => by
        have nv : j ∉ vs := fun z => hv j z hj
        have nt : j ∉ ts := fun z => nv (ht j z)
        exact ⟨(ks j nt).1.trans (wipe_get σV vs j nv), (ks j nt).2.trans (wipeD_get s.σ vs j nv)⟩
      have eO : Ow own σ2 s1.σ = Ow own σV s.σ := ow_congr ko
      refine ⟨?_, ?_⟩
      · refine wipe_congr (fun j hj => ?_) (by rw [kl, wipe_length])
        exact (ks j fun z => hj (ht j z)).1.trans (wipe_get σV vs j hj)
      · split at f1
        · rename_i h5 t1
          split at f1
          case h_2 => cases f1
          rename_i y1 h6 e1
          cases f1
          refine hq F2 M2 σ2 H4 s1 true h5 R4 t1 _ fun F5 M5 H5 v5 R5 E5 r5 => ?_
          subst r5
          rw [if_pos rfl]
          refine he F5 M5 σ2 H5 ⟨s1.σ, h5⟩ y1 _ R5 e1 _ fun F6 M6 H6 v6 R6 E6 r6 => ?_
          have E56 := E5.trans E6
          rw [eO] at E56
          have kp36 := R3.kp E56
          have hD4 : H4 Dd = some (.lst av) := sm _ _ hDl
          obtain ⟨hD6, mD6, _, fD6⟩ := E56.keep Dd _ hD4 mD oD
          have fD6' := fD6.mpr fD
          have R7 := SR.back R3 R6 kp36 ko
          have kw : Kp F6 M6 H6 F6 M6 (upd H6 Dd (.lst (av ++ [v6]))) := kp_wr fD6' hD6
          refine ⟨av, hD6, ?_, F6, M6, h3, ac ++ [y1], ws, av ++ [v6], R7.wr fD6' mD6 oD hD6, (E3.trans E56).wr nD ⟨_, hD6⟩, ((kp2.trans (Kp.same sm)).trans kp36).trans kw, fD6', mD6, oD, upd_same, ?_, ?_, l1, ?_⟩
          · rw [rL.len]; omega
          · exact (((rL.keep (Kp.same sm)).keep kp36).append (.cons r6 .nil)).keep kw
          · rw [List.length_append, List.length_singleton]; omega
          · rw [List.append_assoc]; exact hc
        · rename_i h5 t1
          cases f1
          refine hq F2 M2 σ2 H4 s1 false h3 R4 t1 _ fun F5 M5 H5 v5 R5 E5 r5 => ?_
          subst r5
          rw [if_neg Bool.false_ne_true]
          have E56 := E5
          rw [eO] at E56
          have kp36 := R3.kp E56
          have hD4 : H4 Dd = some (.lst av) := sm _ _ hDl
          obtain ⟨hD6, mD6, _, fD6⟩ := E56.keep Dd _ hD4 mD oD
          have R7 := SR.back R3 R5 kp36 ko
          exact ⟨F5, M5, h3, ac, ws, av, R7, E3.trans E56, (kp2.trans (Kp.same sm)).trans kp36, fD6.mpr fD, mD6, oD, hD6, (rL.keep (Kp.same sm)).keep kp36, by omega, l1, hc⟩
        · cases f1
    · have ei : i = items.length := by omega
      subst ei
      refine .inl ⟨wki.2 (Nat.le_refl _), ?_⟩
      rw [List.drop_length] at hl
      cases hl
      rw [List.append_nil] at hc
      subst hc
      exact post F2 M2 H3 Dd R2 E2 nD fD mD oD ⟨av, hDl, rL, by omega⟩
/-- [e for x in xs if t] -/
theorem xlc {scope : Scope} {ow2 : List (Str × Nat)} (hc : X.calm = true) (hN : X.N.Nodup) (hi : PXI X own tg iter wi it) (ok : BlkOk X.N X.env.scope scope ow2)
    (hg : ∀ (s : Shared) (H : Hp) (C : Addr) (cl : List (Str × Addr)) (fp : List Addr), PXG (X.blk s H scope (compEnvC scope cl C X.env) fp) own ts tg g b) (ht : ∀ (s : Shared) (H : Hp) (C : Addr) (cl : List (Str × Addr)) (fp : List Addr), PTs (X.blk s H scope (compEnvC scope cl C X.env) fp) ifs tt ∧ AdR X.K own ρB tt qt)
    (he : ∀ (s : Shared) (H : Hp) (C : Addr) (cl : List (Str × Addr)) (fp : List Addr), PX (X.blk s H scope (compEnvC scope cl C X.env) fp) own elt te de) (hv : ∀ i ∈ ow2.map (·.2), i ∉ own := by decide) (hts : ∀ j ∈ ts, j ∈ ow2.map (·.2) := by decide) (hs : ∀ x, foldedSetIterable iter X.env x = pure x := by intro _; rfl) :
    PXF X own (.ListComp elt [⟨tg, iter, ifs, 0⟩] scope pos) (tLc wi g tt te (ow2.map (·.2))) (dComp (ow2.map (·.2)) it b qt de) :=
  ⟨pe_lc hc hN hi.pi ok (fun s H C cl fp => (hg s H C cl fp).pg) (fun s H C cl fp => (ht s H C cl fp).1) (fun s H C cl fp => (he s H C cl fp).pe) hs,
    ad_comp hv hts hi.ad (hg X.s_0 (fun _ => none) 0 [] []).ad (ht X.s_0 (fun _ => none) 0 [] []).2 (he X.s_0 (fun _ => none) 0 [] []).ad⟩
theorem qts_nil : PTs X [] tYes ∧ AdR X.K own ρB tYes (ret true) := ⟨pts_nil, fun F M σV H s z s' R q Q post => by
  obtain ⟨rfl, rfl⟩ := ret_ok q
  exact post F M H _ R EE.refl rfl⟩
theorem qts_one {c : Expr} (h : PXT X own c tt qt) : PTs X [c] tt ∧ AdR X.K own ρB tt qt := ⟨pts_one h.pt, h.ad⟩
end
end Kr

namespace Kr
open PySem PySem.Spec L2
open PyProof.Rows hiding St

/-! ### defs: what they give, by the plain evaluator -/
structure Fn where
  n : Nat
  np : Nat
  fr : Bool
  body : CallF → DS
def finish (fr : Bool) : R (O × S) → R (D × List D)
  | .ok (.rt d, s) => .ok (d, s.h)
  | .ok (.nx, s) => if fr = true then .error .stuck else .ok (.non, s.h)
  | .ok _ => .error .stuck
  | .error e => .error e
def runF (T : Nat → Option Fn) : Nat → CallF
  | 0, _, _, _ => .error .stuck
  | k + 1, f, args, h => match T f with
    | none => .error .stuck
    | some fn => if args.length = fn.np then finish fn.fr (fn.body (runF T k) ⟨args.map some ++ List.replicate (fn.n - fn.np) none, h⟩) else .error .stuck
def RetR (K : PySem.W.Frag) (fr : Bool) (H : Hp) (O : Addr → Prop) (F' : Addr → Prop) (M' : List Addr) (H' : Hp) (v : V) (r : D) : Prop := match fr with
  | false => Rep K F' M' H' v r
  | true => ∃ p, v = .ref p ∧ (H p = none ∨ O p) ∧ F' p ∧ p ∉ M' ∧ OwnC K F' M' H' p r
/-- what a def promises: what the plain evaluator gives -/
def spRun (K : PySem.W.Frag) (T : Nat → Option Fn) (k f : Nat) : Sp := fun vs H Q _ => ∃ fn, T f = some fn ∧ vs.length = fn.np ∧ ∃ (F : Addr → Prop) (M : List Addr) (ds h : List D) (r : D) (h' : List D), SR K [] F M [] H ⟨[], h⟩ ∧ RepL K F M H vs ds ∧ runF T k f ds h = .ok (r, h') ∧
  ∀ (F' : Addr → Prop) (M' : List Addr) (H' : Hp) (v : V), SR K [] F' M' [] H' ⟨[], h'⟩ → EE F M (fun _ => False) H F' M' (fun _ => False) H' → RetR K fn.fr H (fun _ => False) F' M' H' v r → Q v H'
/-- a def that may be called -/
def Cal (X : Cx) (T : Nat → Option Fn) (k : Nat) (x : Str) (f : Nat) : Prop := ∃ (a : Addr) (fd : FuncData) (ps : List Str), FnOk X.prog X.w X.K X.mg X.base CX0 k a fd ps (spRun X.K T k f) ∧ X.mg x = some (.ref a) ∧ PySem.W.keepIn X.K (.ref a) = true ∧ Binds X.K fd ps []
def dCall (cf : CallF) (f : Nat) (as : DA) : DE := bnd as fun ds s => cf f ds s.h
section
variable {K : PySem.W.Frag} {X : Cx} {T : Nat → Option Fn} {k f : Nat} {own : List Nat} {e : Expr} {es : List Expr} {ta : TA} {da : DA} {x : Str} {p pos : Pos} {fn : Fn}
theorem ad_call (hT : T f = some fn) (hf : fn.fr = false) (ha : AdR K own (ρL K) ta da) : AdR K own (ρV K) (tCall (spRun K T k f) [] E0 ta) (dCall (runF T k) f da) := by
  intro F M σV H s r h' R q Q post
  obtain ⟨ds, h1, q1, q⟩ := bnd_ok q
  refine ha F M σV H s ds h1 R q1 _ fun F1 M1 H1 vs R1 E1 r1 => ?_
  have hl : ds.length = fn.np := by
    cases k with
    | zero => cases q
    | succ k =>
      have q : (match T f with
        | none => Except.error Xn.stuck
        | some fn => if ds.length = fn.np then finish fn.fr (fn.body (runF T k) ⟨ds.map some ++ List.replicate (fn.n - fn.np) none, h1⟩) else .error .stuck) = _ := q
      rw [hT] at q
      dsimp only at q
      split at q
      · assumption
      · cases q
  refine ⟨fn, hT, by rw [List.append_nil, r1.len, hl], F1, M1, ds, h1, r, h', R1.bare, by rw [List.append_nil]; exact r1, q, fun F' M' H' v R' E' rr => ?_⟩
  rw [hf] at rr
  exact post F' M' H' v (R1.join R' E') (E1.trans E'.join) rr
theorem ad_callF (hT : T f = some fn) (hf : fn.fr = true) (ha : AdR K own (ρL K) ta da) : AdF K own (tCall (spRun K T k f) [] E0 ta) (dCall (runF T k) f da) := by
  intro F M σV H s r h' R q Q post
  obtain ⟨ds, h1, q1, q⟩ := bnd_ok q
  refine ha F M σV H s ds h1 R q1 _ fun F1 M1 H1 vs R1 E1 r1 => ?_
  have hl : ds.length = fn.np := by
    cases k with
    | zero => cases q
    | succ k =>
      have q : (match T f with
        | none => Except.error Xn.stuck
        | some fn => if ds.length = fn.np then finish fn.fr (fn.body (runF T k) ⟨ds.map some ++ List.replicate (fn.n - fn.np) none, h1⟩) else .error .stuck) = _ := q
      rw [hT] at q
      dsimp only at q
      split at q
      · assumption
      · cases q
  refine ⟨fn, hT, by rw [List.append_nil, r1.len, hl], F1, M1, ds, h1, r, h', R1.bare, by rw [List.append_nil]; exact r1, q, fun F' M' H' v R' E' rr => ?_⟩
  rw [hf] at rr
  obtain ⟨p, rfl, hp, fp, mp, oc⟩ := rr
  have hp : H1 p = none := hp.resolve_right id
  have np : H p = none := by
    cases e : H p with
    | none => rfl
    | some u => obtain ⟨u', e'⟩ := E1.gr p u e; rw [hp] at e'; cases e'
  refine post F' M' H' p (R1.join R' E') (E1.trans E'.join) np fp mp (fun z => ?_) oc
  obtain ⟨u, hu⟩ := R1.ft p (R1.inO z).1
  rw [hp] at hu; cases hu
theorem xcall (c : Cal X T k x f) (hr : Room k X.A) (hT : T f = some fn) (ha : PXA X own (e :: es) ta da) (hf : fn.fr = false := by rfl) (hg : Gl X x := by rfl) (hdb : (x == ("__debug__" : Str)) = false := by decide) (he : starEach (e :: es) X.env = (false, eval e X.env) :: starEach es X.env := by rfl) (hpl : (backTo pos (starEach es X.env)).any (·.1) = false := by rfl) :
    PX X own (.Call (.Name x p) (e :: es) [] pos) (tCall (spRun X.K T k f) [] E0 ta) (dCall (runF T k) f da) := by
  obtain ⟨a, fd, ps, G, hm, hk, hb⟩ := c
  exact ⟨pe_call G hr hg hm hk hb .nil pass0 ha.pa hdb he hpl, ad_call hT hf ha.ad⟩
theorem xcallF (c : Cal X T k x f) (hr : Room k X.A) (hT : T f = some fn) (ha : PXA X own (e :: es) ta da) (hf : fn.fr = true := by rfl) (hg : Gl X x := by rfl) (hdb : (x == ("__debug__" : Str)) = false := by decide) (he : starEach (e :: es) X.env = (false, eval e X.env) :: starEach es X.env := by rfl) (hpl : (backTo pos (starEach es X.env)).any (·.1) = false := by rfl) :
    PXF X own (.Call (.Name x p) (e :: es) [] pos) (tCall (spRun X.K T k f) [] E0 ta) (dCall (runF T k) f da) := by
  obtain ⟨a, fd, ps, G, hm, hk, hb⟩ := c
  exact ⟨pe_call G hr hg hm hk hb .nil pass0 ha.pa hdb he hpl, ad_callF hT hf ha.ad⟩
theorem xcall0 (c : Cal X T k x f) (hr : Room k X.A) (hT : T f = some fn) (hf : fn.fr = false := by rfl) (hg : Gl X x := by rfl) (hdb : (x == ("__debug__" : Str)) = false := by decide) :
    PX X own (.Call (.Name x p) [] [] pos) (tCall (spRun X.K T k f) [] E0 tNil) (dCall (runF T k) f aNil) := by
  obtain ⟨a, fd, ps, G, hm, hk, hb⟩ := c
  exact ⟨pe_call0 G hr hg hm hk hb .nil pass0 hdb, ad_call hT hf (xa_nil (X := X)).ad⟩
end

/-! ### statements -/
def AdS (K : PySem.W.Frag) (own : List Nat) (fr : Bool) (t : TS) (d : DS) : Prop :=
  ∀ (F : Addr → Prop) (M : List Addr) (σV : St) (H : Hp) (s : S) (o : O) (s' : S), SR K own F M σV H s → d s = .ok (o, s') → ∀ D : Ends, (match o with
    | .nx => ∀ (F' : Addr → Prop) (M' : List Addr) (σV' : St) (H' : Hp), SR K own F' M' σV' H' s' → EE F M (Ow own σV s.σ) H F' M' (Ow own σV' s'.σ) H' → D.nx σV' H'
    | .bk => ∀ (F' : Addr → Prop) (M' : List Addr) (σV' : St) (H' : Hp), SR K own F' M' σV' H' s' → EE F M (Ow own σV s.σ) H F' M' (Ow own σV' s'.σ) H' → D.bk σV' H'
    | .ct => ∀ (F' : Addr → Prop) (M' : List Addr) (σV' : St) (H' : Hp), SR K own F' M' σV' H' s' → EE F M (Ow own σV s.σ) H F' M' (Ow own σV' s'.σ) H' → D.ct σV' H'
    | .rt r => ∀ (F' : Addr → Prop) (M' : List Addr) (H' : Hp) (v : V), SR K [] F' M' [] H' ⟨[], s'.h⟩ → EE F M (Ow own σV s.σ) H F' M' (fun _ => False) H' → RetR K fr H (Ow own σV s.σ) F' M' H' v r → D.rt v H') → t D σV H
structure PXS (X : Cx) (own : List Nat) (fr : Bool) (st : Stmt) (t : TS) (d : DS) : Prop where
  ps : PS X st t
  ad : AdS X.K own fr t d
structure PXSs (X : Cx) (own : List Nat) (fr : Bool) (st : List Stmt) (t : TS) (d : DS) : Prop where
  ps : PSs X st t
  ad : AdS X.K own fr t d
section
variable {K : PySem.W.Frag} {X : Cx} {own ts us : List Nat} {fr : Bool} {st : Stmt} {rest p q : List Stmt} {t u tb : TS} {d d1 d2 db : DS} {e c iter tg : Expr} {te ta : TE} {de : DE} {tc : TT} {qc : DB} {pos pos' : Pos} {g : TG} {b : D → S → R S} {wi : TI} {it : DA}
theorem EE.less {F F' : Addr → Prop} {M M' : List Addr} {O1 O2 : Addr → Prop} {H H' : Hp} (E : EE F M O1 H F' M' O2 H') : EE F M O1 H F' M' (fun _ => False) H' :=
  ⟨fun a o h m n => let ⟨x, y, _, z⟩ := E.keep a o h m n; ⟨x, y, fun z => z, z⟩, E.gr, E.m⟩
theorem RetR.back {F F' : Addr → Prop} {M M' : List Addr} {O1 : Addr → Prop} {H H1 H' : Hp} {F1 : Addr → Prop} {M1 : List Addr} {v : V} {r : D} {σ1 : St} {s1 : S} (R1 : SR K own F1 M1 σ1 H1 s1) (E : EE F M O1 H F1 M1 (Ow own σ1 s1.σ) H1) (h : RetR K fr H1 (Ow own σ1 s1.σ) F' M' H' v r) : RetR K fr H O1 F' M' H' v r := by
  cases fr with
  | false => exact h
  | true =>
    obtain ⟨p, e, hp, z⟩ := h
    refine ⟨p, e, ?_, z⟩
    cases q : H p with
    | none => exact .inl rfl
    | some u =>
      rcases hp with hp | hp
      · obtain ⟨u', e'⟩ := E.gr p u q; rw [hp] at e'; cases e'
      · have nm : p ∉ M := fun z => by
          obtain ⟨i, hi⟩ := List.getElem?_of_mem z
          exact (R1.inO hp).2.1 (List.mem_of_getElem? (E.m i p hi))
        by_cases o : O1 p
        · exact .inr o
        · exact absurd hp (E.keep p u q nm o).2.2.1
def sSeq (a b : DS) : DS := fun s => match a s with
  | .ok (.nx, s1) => b s1
  | .ok (o, s1) => .ok (o, s1)
  | .error e => .error e
def sNil : DS := fun s => .ok (.nx, s)
theorem ad_seq (h1 : AdS K own fr t d1) (h2 : AdS K own fr u d2) : AdS K own fr (tSeq t u) (sSeq d1 d2) := by
  intro F M σV H s o s' R q D post
  unfold sSeq at q
  split at q
  · rename_i s1 q1
    refine h1 F M σV H s .nx s1 R q1 _ fun F1 M1 σ1 H1 R1 E1 => ?_
    refine h2 F1 M1 σ1 H1 s1 o s' R1 q D ?_
    cases o with
    | nx => exact fun F2 M2 σ2 H2 R2 E2 => post F2 M2 σ2 H2 R2 (E1.trans E2)
    | bk => exact fun F2 M2 σ2 H2 R2 E2 => post F2 M2 σ2 H2 R2 (E1.trans E2)
    | ct => exact fun F2 M2 σ2 H2 R2 E2 => post F2 M2 σ2 H2 R2 (E1.trans E2)
    | rt r => exact fun F2 M2 H2 v R2 E2 rr => post F2 M2 H2 v R2 (E1.trans E2) (RetR.back R1 E1 rr)
  · rename_i o1 s1 hne q1
    cases q
    refine h1 F M σV H s o s' R q1 _ ?_
    cases o with
    | nx => exact (hne rfl).elim
    | bk => exact post
    | ct => exact post
    | rt r => exact post
  · cases q
theorem ss_nil : PXSs X own fr [] tNext sNil := ⟨pss_nil, fun F M σV H s o s' R q D post => by
  cases q
  exact post F M σV H R EE.refl⟩
theorem ss_one (h : PXS X own fr st t d) : PXSs X own fr [st] t d := ⟨pss_one h.ps, h.ad⟩
theorem ss_cons (h : PXS X own fr st t d1) (h2 : PXSs X own fr rest u d2) : PXSs X own fr (st :: rest) (tSeq t u) (sSeq d1 d2) := ⟨pss_cons h.ps h2.ps, ad_seq h.ad h2.ad⟩
def sIf (c : DB) (a b : DS) : DS := fun s => match c s with
  | .ok (true, h) => a ⟨s.σ, h⟩
  | .ok (false, h) => b ⟨s.σ, h⟩
  | .error e => .error e
theorem s_if (hc : PXT X own c tc qc) (ha : PXSs X own fr p t d1) (hb : PXSs X own fr q u d2) : PXS X own fr (.If c p q pos) (tIfS tc t u) (sIf qc d1 d2) := ⟨ps_if hc.pt ha.ps hb.ps, by
  intro F M σV H s o s' R q D post
  unfold sIf at q
  have pd : ∀ {F1 : Addr → Prop} {M1 : List Addr} {H1 : Hp} {h1 : List Kr.D} {t : TS} {d : DS}, AdS X.K own fr t d → SR X.K own F1 M1 σV H1 ⟨s.σ, h1⟩ → EE F M (Ow own σV s.σ) H F1 M1 (Ow own σV s.σ) H1 → d ⟨s.σ, h1⟩ = .ok (o, s') → t D σV H1 := fun {F1 M1 H1 h1 t d} hh R1 E1 q => by
    refine hh F1 M1 σV H1 _ o s' R1 q D ?_
    cases o with
    | nx => exact fun F2 M2 σ2 H2 R2 E2 => post F2 M2 σ2 H2 R2 (E1.trans E2)
    | bk => exact fun F2 M2 σ2 H2 R2 E2 => post F2 M2 σ2 H2 R2 (E1.trans E2)
    | ct => exact fun F2 M2 σ2 H2 R2 E2 => post F2 M2 σ2 H2 R2 (E1.trans E2)
    | rt r => exact fun F2 M2 H2 v R2 E2 rr => post F2 M2 H2 v R2 (E1.trans E2) (RetR.back R1 E1 rr)
  split at q
  · rename_i h1 q1
    refine hc.ad F M σV H s true h1 R q1 _ fun F1 M1 H1 v R1 E1 r1 => ?_
    subst r1
    rw [if_pos rfl]
    exact pd ha.ad R1 E1 q
  · rename_i h1 q1
    refine hc.ad F M σV H s false h1 R q1 _ fun F1 M1 H1 v R1 E1 r1 => ?_
    subst r1
    rw [if_neg Bool.false_ne_true]
    exact pd hb.ad R1 E1 q
  · cases q⟩
def sRet (d : DE) : DS := fun s => match d s with
  | .ok (r, h) => .ok (.rt r, ⟨s.σ, h⟩)
  | .error e => .error e
theorem s_ret (h : PX X own e te de) : PXS X own false (.Return (some e) pos) (tRet te) (sRet de) := ⟨ps_ret h.pe, by
  intro F M σV H s o s' R q D post
  unfold sRet at q
  split at q
  · rename_i r h1 q1
    cases q
    exact h.ad F M σV H s r h1 R q1 _ fun F1 M1 H1 v R1 E1 r1 => post F1 M1 H1 v R1.bare E1.less r1
  · cases q⟩
theorem s_retF (h : PXF X own e te de) : PXS X own true (.Return (some e) pos) (tRet te) (sRet de) := ⟨ps_ret h.pe, by
  intro F M σV H s o s' R q D post
  unfold sRet at q
  split at q
  · rename_i r h1 q1
    cases q
    exact h.ad F M σV H s r h1 R q1 _ fun F1 M1 H1 p R1 E1 hp fp mp op oc => post F1 M1 H1 (.ref p) R1.bare E1.less ⟨p, rfl, .inl hp, fp, mp, oc⟩
  · cases q⟩
/-- an own slot is handed out -/
def sRetOwn (i : Nat) : DS := fun s => match s.σ[i]? with
  | some (some d) => .ok (.rt d, s)
  | _ => .error .stuck
theorem s_retOwn (i : Nat) {x : Str} {pos2 : Pos} (hi : i ∈ own := by decide) (hN : X.N[i]? = some x := by rfl) (hv : Vis X.env.scope x := by first | exact Or.inl rfl | exact Or.inr (Or.inl rfl) | exact Or.inr (Or.inr rfl)) (hd : (x == ("__debug__" : Str)) = false := by decide)
    (hcd : (x == ("__classdict__" : Str)) = false := by decide) : PXS X own false (.Return (some (.Name x pos2)) pos) (tRet (tVar i)) (sRetOwn i) := ⟨ps_ret (pe_var hN hv hd hcd), by
  intro F M σV H s o s' R q D post
  unfold sRetOwn at q
  split at q
  · rename_i d e
    cases q
    obtain ⟨p, h1, h2, h3, h4⟩ := R.ownd i d hi e
    refine ⟨.ref p, h1, post (minus F p) M H (.ref p) (R.bare.free h4 (fun z => ?_)) ⟨fun a u ha hm ho => ⟨ha, hm, fun z => z, ⟨fun z => z.1, fun z => ⟨z, fun w => ho ⟨i, hi, by rw [w]; exact h1, d, e⟩⟩⟩⟩, fun a u ha => ⟨u, ha⟩, fun _ _ h => h⟩ h2.val⟩
    obtain ⟨j, hj, _⟩ := z
    exact absurd hj (by simp)
  · cases q⟩
theorem s_retOwnF (i : Nat) {x : Str} {pos2 : Pos} (hi : i ∈ own := by decide) (hN : X.N[i]? = some x := by rfl) (hv : Vis X.env.scope x := by first | exact Or.inl rfl | exact Or.inr (Or.inl rfl) | exact Or.inr (Or.inr rfl)) (hd : (x == ("__debug__" : Str)) = false := by decide)
    (hcd : (x == ("__classdict__" : Str)) = false := by decide) : PXS X own true (.Return (some (.Name x pos2)) pos) (tRet (tVar i)) (sRetOwn i) := ⟨ps_ret (pe_var hN hv hd hcd), by
  intro F M σV H s o s' R q D post
  unfold sRetOwn at q
  split at q
  · rename_i d e
    cases q
    obtain ⟨p, h1, h2, h3, h4⟩ := R.ownd i d hi e
    exact ⟨.ref p, h1, post F M H (.ref p) R.bare EE.refl.less ⟨p, rfl, .inr ⟨i, hi, h1, d, e⟩, h3, h4, h2⟩⟩
  · cases q⟩
def sExpr (d : DE) : DS := fun s => match d s with
  | .ok (_, h) => .ok (.nx, ⟨s.σ, h⟩)
  | .error e => .error e
theorem s_expr (h : PX X own e te de) (hs : swapsWith e none pos.line X.env = pure false := by rfl) : PXS X own fr (.Expr e pos) (tDrop te) (sExpr de) := ⟨ps_expr h.pe hs, by
  intro F M σV H s o s' R q D post
  unfold sExpr at q
  split at q
  · rename_i r h1 q1
    cases q
    exact h.ad F M σV H s r h1 R q1 _ fun F1 M1 H1 v R1 E1 r1 => post F1 M1 σV H1 R1 E1
  · cases q⟩
theorem s_break : PXS X own fr (.Break pos) tBreak (fun s => .ok (.bk, s)) := ⟨ps_break, fun F M σV H s o s' R q D post => by
  cases q
  exact post F M σV H R EE.refl⟩
theorem s_continue : PXS X own fr (.Continue pos) tCont (fun s => .ok (.ct, s)) := ⟨ps_continue, fun F M σV H s o s' R q D post => by
  cases q
  exact post F M σV H R EE.refl⟩
theorem s_pass : PXS X own fr (.Pass pos) tNext sNil := ⟨ps_pass, fun F M σV H s o s' R q D post => by
  cases q
  exact post F M σV H R EE.refl⟩
/-- x = e, a, b = e -/
def sAsg (d : DE) (b : D → S → R S) : DS := fun s => match d s with
  | .ok (r, h) => match b r ⟨s.σ, h⟩ with
    | .ok s1 => .ok (.nx, s1)
    | .error e => .error e
  | .error e => .error e
theorem ad_asg (hts : ∀ j ∈ ts, j ∉ own) (h : AdR K own (ρV K) te de) (hg : AdG K own ts g b) : AdS K own fr (tAsg te g) (sAsg de b) := by
  intro F M σV H s o s' R q D post
  unfold sAsg at q
  split at q
  · rename_i r h1 q1
    split at q
    · rename_i s1 q2
      cases q
      refine h F M σV H s r h1 R q1 _ fun F1 M1 H1 v R1 E1 r1 => ?_
      refine hg F1 M1 σV H1 _ v r s' R1 r1 q2 D.nx fun σ2 R2 eh ks kl => ?_
      have eO : Ow own σ2 s'.σ = Ow own σV s.σ := ow_congr fun j hj => ks j fun z => hts j z hj
      refine post F1 M1 σ2 H1 R2 ?_
      rw [eO]
      exact E1
    · cases q
  · cases q
theorem s_asg (h : PX X own e te de) (hg : PXG X own ts tg g b) (hts : ∀ j ∈ ts, j ∉ own := by decide) (hs : swapsWithSole [tg] e pos.line X.env = pure false := by rfl) (hw : swappedStores [tg] e X.env = pure none := by rfl)
    (h1 : (assignEach [tg] X.env).map (·.2) = [assign tg X.env] := by rfl) : PXS X own fr (.Assign [tg] e pos) (tAsg te g) (sAsg de b) := ⟨ps_asg h.pe hg.pg hs hw h1, ad_asg hts h.ad hg.ad⟩
end
end Kr

namespace Kr
open PySem PySem.Spec L2
open PyProof.Rows hiding St

/-! ### own slots: made, changed -/
section
variable {K : PySem.W.Frag} {own : List Nat} {F : Addr → Prop} {M : List Addr} {H : Hp} {σV : St} {s : S} {i : Nat} {p : Addr} {d d' : D} {o : HO}
theorem kp_chg (hF : F p) (hp : ∀ xs, ¬ Rd H p (.tup xs)) : Kp F M H F M (upd H p o) := by
  refine ⟨fun a u e n => ⟨?_, n⟩, fun a zs e => ?_, fun _ _ e => e⟩
  · rw [upd_ne (fun z => n (by rw [z]; exact hF))]; exact e
  · have : a ≠ p := fun z => hp zs (by rw [← z]; exact e)
    unfold Rd
    rw [upd_ne this]
    exact e
theorem get_len {l : List (Option D)} {i : Nat} {x : Option D} (h : l[i]? = some x) : i < l.length := (List.getElem?_eq_some_iff.mp h).1
theorem ow_chg (hs : s.σ[i]? = some (some d)) : Ow own σV (s.σ.set i (some d')) = Ow own σV s.σ := by
  have hl := get_len hs
  funext a
  apply propext
  constructor
  · rintro ⟨j, hj, h1, e, h2⟩
    by_cases z : i = j
    · subst z; exact ⟨i, hj, h1, d, hs⟩
    · rw [List.getElem?_set_ne z] at h2; exact ⟨j, hj, h1, e, h2⟩
  · rintro ⟨j, hj, h1, e, h2⟩
    by_cases z : i = j
    · subst z; exact ⟨i, hj, h1, d', List.getElem?_set_self hl⟩
    · exact ⟨j, hj, h1, e, by rw [List.getElem?_set_ne z]; exact h2⟩
/-- what an own slot holds is changed -/
theorem SR.chg (R : SR K own F M σV H s) (hi : i ∈ own) (hs : s.σ[i]? = some (some d)) (hv : σV[i]? = some (some (.ref p))) (hn : OwnC K F M (upd H p o) p d') : SR K own F M σV (upd H p o) ⟨s.σ.set i (some d'), s.h⟩ ∧ EE F M (Ow own σV s.σ) H F M (Ow own σV (s.σ.set i (some d'))) (upd H p o) := by
  obtain ⟨p', e1, oc, hF, hM⟩ := R.ownd i d hi hs
  rw [hv] at e1
  cases e1
  have hl := get_len hs
  have k : Kp F M H F M (upd H p o) := kp_chg hF oc.mut
  refine ⟨⟨by show (s.σ.set i (some d')).length = _; rw [List.length_set]; exact R.len, fun j e n h => ?_, fun j e n h => ?_, fun j m q e f hj hm h1 h2 h3 h4 => ?_, R.ml, R.nd, fun j q e h1 h2 => ?_, fun a h => ?_⟩, ?_⟩
  · have z : i ≠ j := fun z => n (z ▸ hi)
    have h : (s.σ.set i (some d'))[j]? = some (some e) := h
    rw [List.getElem?_set_ne z] at h
    obtain ⟨v, e1, e2⟩ := R.val j e n h
    exact ⟨v, e1, e2.keep k⟩
  · by_cases z : i = j
    · subst z
      have h : (s.σ.set i (some d'))[i]? = some (some e) := h
      rw [List.getElem?_set_self hl] at h
      cases h
      exact ⟨p, hv, hn, hF, hM⟩
    · have h : (s.σ.set i (some d'))[j]? = some (some e) := h
      rw [List.getElem?_set_ne z] at h
      obtain ⟨q, e1, e2, e3, e4⟩ := R.ownd j e n h
      have : q ≠ p := fun w => z (R.dis i j p d e hi n hs h hv (by rw [← w]; exact e1))
      exact ⟨q, e1, e2.keep k fun o' w => by rw [upd_ne this]; exact w, e3, e4⟩
  · have g : ∀ {j : Nat} {e : D}, (s.σ.set i (some d'))[j]? = some (some e) → ∃ e', s.σ[j]? = some (some e') := fun {j e} h => by
      by_cases z : i = j
      · subst z; exact ⟨d, hs⟩
      · rw [List.getElem?_set_ne z] at h; exact ⟨e, h⟩
    obtain ⟨e', h1'⟩ := g h1
    obtain ⟨f', h2'⟩ := g h2
    exact R.dis j m q e' f' hj hm h1' h2' h3 h4
  · obtain ⟨e1, e2⟩ := R.obj j q e h1 h2
    have : q ≠ p := fun w => hM (by rw [← w]; exact List.mem_of_getElem? h1)
    exact ⟨e1.keep k fun o' w => by rw [upd_ne this]; exact w, e2⟩
  · by_cases z : a = p
    · subst z; exact ⟨_, upd_same⟩
    · obtain ⟨u, hu⟩ := R.ft a h
      exact ⟨u, by rw [upd_ne z]; exact hu⟩
  · rw [ow_chg hs]
    refine ⟨fun a u h m n => ?_, fun a u h => ?_, fun _ _ h => h⟩
    · have : a ≠ p := fun z => n ⟨i, hi, by rw [z]; exact hv, d, hs⟩
      exact ⟨by rw [upd_ne this]; exact h, m, n, Iff.rfl⟩
    · by_cases z : a = p
      · subst z; exact ⟨_, upd_same⟩
      · exact ⟨u, by rw [upd_ne z]; exact h⟩
/-- an own slot gets a new object -/
theorem SR.take (R : SR K own F M σV H s) (hi : i ∈ own) (hl : i < s.σ.length) (fp : F p) (mp : p ∉ M) (op : ¬ Ow own σV s.σ p) (oc : OwnC K F M H p d) : SR K own F M (σV.set i (some (.ref p))) H ⟨s.σ.set i (some d), s.h⟩ := by
  have hlV : i < σV.length := by rw [← R.len]; exact hl
  refine ⟨by show (s.σ.set i (some d)).length = _; rw [List.length_set, List.length_set]; exact R.len, fun j e n h => ?_, fun j e n h => ?_, fun j m q e f hj hm h1 h2 h3 h4 => ?_, R.ml, R.nd, R.obj, R.ft⟩
  · have z : i ≠ j := fun z => n (z ▸ hi)
    have h : (s.σ.set i (some d))[j]? = some (some e) := h
    rw [List.getElem?_set_ne z] at h
    obtain ⟨v, e1, e2⟩ := R.val j e n h
    exact ⟨v, by rw [List.getElem?_set_ne z]; exact e1, e2⟩
  · by_cases z : i = j
    · subst z
      have h : (s.σ.set i (some d))[i]? = some (some e) := h
      rw [List.getElem?_set_self hl] at h
      cases h
      exact ⟨p, List.getElem?_set_self hlV, oc, fp, mp⟩
    · have h : (s.σ.set i (some d))[j]? = some (some e) := h
      rw [List.getElem?_set_ne z] at h
      obtain ⟨q, e1, e2⟩ := R.ownd j e n h
      exact ⟨q, by rw [List.getElem?_set_ne z]; exact e1, e2⟩
  · have h1 : (s.σ.set i (some d))[j]? = some (some e) := h1
    have h2 : (s.σ.set i (some d))[m]? = some (some f) := h2
    by_cases z : i = j
    · by_cases z2 : i = m
      · rw [← z, z2]
      · subst z
        rw [List.getElem?_set_ne z2] at h2 h4
        rw [List.getElem?_set_self hlV] at h3
        cases h3
        exact absurd ⟨m, hm, h4, f, h2⟩ op
    · rw [List.getElem?_set_ne z] at h1 h3
      by_cases z2 : i = m
      · subst z2
        rw [List.getElem?_set_self hlV] at h4
        cases h4
        exact absurd ⟨j, hj, h3, e, h1⟩ op
      · rw [List.getElem?_set_ne z2] at h2 h4
        exact R.dis j m q e f hj hm h1 h2 h3 h4
theorem EE.take {F0 : Addr → Prop} {M0 : List Addr} {O0 : Addr → Prop} {H0 : Hp} (E : EE F0 M0 O0 H0 F M (Ow own σV s.σ) H) (hp : H0 p = none) : EE F0 M0 O0 H0 F M (Ow own (σV.set i (some (.ref p))) (s.σ.set i (some d))) H := by
  refine ⟨fun a u h m n => ?_, E.gr, E.m⟩
  obtain ⟨h1, h2, h3, h4⟩ := E.keep a u h m n
  refine ⟨h1, h2, ?_, h4⟩
  rintro ⟨j, hj, e1, e, e2⟩
  by_cases z : i = j
  · subst z
    have hl : i < σV.length := by
      have := (List.getElem?_eq_some_iff.mp e1).1
      rw [List.length_set] at this
      exact this
    rw [List.getElem?_set_self hl] at e1
    cases e1
    rw [hp] at h; cases h
  · rw [List.getElem?_set_ne z] at e1 e2
    exact h3 ⟨j, hj, e1, e, e2⟩
end
section
variable {K : PySem.W.Frag} {X : Cx} {own ts us : List Nat} {fr : Bool} {rest p q : List Stmt} {t u tb : TS} {d d1 d2 db : DS} {e c iter tg a b0 : Expr} {es : List Expr} {te ta : TE} {de da dv : DE} {tc : TT} {qc : DB} {pos pos' : Pos} {g : TG} {b : D → S → R S} {wi : TI} {it : DA}
def sOwn (i : Nat) (d : DE) : DS := fun s => match d s with
  | .ok (r, h) => if i < s.σ.length then .ok (.nx, ⟨s.σ.set i (some r), h⟩) else .error .stuck
  | .error e => .error e
theorem ad_own {i : Nat} (hi : i ∈ own) (h : AdF K own te de) : AdS K own fr (tAsg te (gName i)) (sOwn i de) := by
  intro F M σV H s o s' R q D post
  unfold sOwn at q
  split at q
  · rename_i r h1 q1
    split at q
    · rename_i hl
      cases q
      refine h F M σV H s r h1 R q1 _ fun F1 M1 H1 p R1 E1 hp fp mp op oc => ?_
      exact post F1 M1 (σV.set i (some (.ref p))) H1 (R1.take hi hl fp mp op oc) (EE.take (s := ⟨s.σ, h1⟩) E1 hp)
    · cases q
  · cases q
theorem s_own (i : Nat) {x : Str} {px : Pos} (hN : X.N.Nodup) (h : PXF X own e te de) (hi : i ∈ own := by decide) (hx : X.N[i]? = some x := by rfl) (hl : Loc X.env.scope x := by first | exact Or.inl rfl | exact Or.inr rfl)
    (hs : swapsWith e (some (.Name x px)) pos.line X.env = pure false := by rfl) (hf : X.fn x = true ∨ X.env.scope.names.lookup x = some .local := by first | exact .inl rfl | exact .inr rfl) : PXS X own fr (.Assign [.Name x px] e pos) (tAsg te (gName i)) (sOwn i de) :=
  ⟨ps_set hN hx hl h.pe hs hf, ad_own hi h.ad⟩
/-- name = value -/
theorem s_set (i : Nat) {x : Str} {px : Pos} (hN : X.N.Nodup) (h : PX X own e te de) (hi : i ∉ own := by decide) (hx : X.N[i]? = some x := by rfl) (hl : Loc X.env.scope x := by first | exact Or.inl rfl | exact Or.inr rfl)
    (hs : swapsWith e (some (.Name x px)) pos.line X.env = pure false := by rfl) (hf : X.fn x = true ∨ X.env.scope.names.lookup x = some .local := by first | exact .inl rfl | exact .inr rfl) : PXS X own fr (.Assign [.Name x px] e pos) (tAsg te (gName i)) (sAsg de (bName i)) :=
  ⟨ps_set hN hx hl h.pe hs hf, ad_asg (ts := [i]) (fun j hj => by rw [List.mem_singleton] at hj; rw [hj]; exact hi) h.ad fun F M σV H s v d s' R r q Q post => by
    cases q
    refine post (σV.set i (some v)) (R.put hi r) rfl (fun j hj => ?_) (List.length_set ..)
    have : i ≠ j := fun z => hj (by simp [z])
    exact ⟨List.getElem?_set_ne this, List.getElem?_set_ne this⟩⟩
/-- a, b = x, y, both plain local names -/
def sPar (i j : Nat) (a : DA) : DS := fun s => match a s with
  | .ok ([x, y], h) => .ok (.nx, ⟨(s.σ.set i (some x)).set j (some y), h⟩)
  | .ok _ => .error .stuck
  | .error e => .error e
theorem s_par (i j : Nat) {x y : Str} {a b : Expr} {tA : TA} {dA : DA} {px py pt : Pos} {kt k2 : Nat} {pt2 : Pos} (hc : X.calm = true) (hN : X.N.Nodup) (h : PXA X own [a, b] tA dA) (hoi : i ∉ own := by decide) (hoj : j ∉ own := by decide) (hi : X.N[i]? = some x := by rfl) (hj : X.N[j]? = some y := by rfl) (hij : i ≠ j := by decide)
    (hx : X.env.scope.names.lookup x = some .local := by rfl) (hy : X.env.scope.names.lookup y = some .local := by rfl) (hw : swappedStores [.Tuple [.Name x px, .Name y py] kt pt] (.Tuple [a, b] k2 pt2) X.env = pure (some [x, y]) := by rfl)
    (hs : swapsWithSole [.Tuple [.Name x px, .Name y py] kt pt] (.Tuple [a, b] k2 pt2) pos.line X.env = pure false := by rfl) :
    PXS X own fr (.Assign [.Tuple [.Name x px, .Name y py] kt pt] (.Tuple [a, b] k2 pt2) pos) (tPar i j tA) (sPar i j dA) := ⟨ps_par hc hN hi hj hij hx hy h.pa hw hs, by
  intro F M σV H s o s' R q D post
  unfold sPar at q
  split at q
  · rename_i d e h1 q1
    cases q
    refine h.ad F M σV H s [d, e] h1 R q1 _ fun F1 M1 H1 vs R1 E1 r1 => ?_
    cases r1 with
    | cons rd rt =>
    cases rt with
    | cons re rt2 =>
    cases rt2
    refine ⟨_, _, rfl, post F1 M1 _ H1 (SR.put (SR.put R1 hoi rd) hoj re) ?_⟩
    have e1 : ∀ v w : V, Ow own ((σV.set i (some v)).set j (some w)) ((s.σ.set i (some d)).set j (some e)) = Ow own σV s.σ := fun v w => ow_congr fun m hm => by
      have z1 : i ≠ m := fun z => hoi (z ▸ hm)
      have z2 : j ≠ m := fun z => hoj (z ▸ hm)
      exact ⟨by rw [List.getElem?_set_ne z2, List.getElem?_set_ne z1], by rw [List.getElem?_set_ne z2, List.getElem?_set_ne z1]⟩
    rw [e1]
    exact E1
  · cases q
  · cases q⟩

/-! ### loops -/
def fLoop (b : D → S → R S) (body : DS) : List D → DS
  | [], s => .ok (.nx, s)
  | x :: xs, s => match b x s with
    | .ok s1 => match body s1 with
      | .ok (.nx, s2) => fLoop b body xs s2
      | .ok (.ct, s2) => fLoop b body xs s2
      | .ok (.bk, s2) => .ok (.nx, s2)
      | .ok (.rt r, s2) => .ok (.rt r, s2)
      | .error e => .error e
    | .error e => .error e
def sFor (it : DA) (b : D → S → R S) (body : DS) : DS := fun s => match it s with
  | .ok (items, h) => fLoop b body items ⟨s.σ, h⟩
  | .error e => .error e
theorem ad_for (hts : ∀ j ∈ ts, j ∉ own) (hi : AdI K own wi it) (hg : AdG K own ts g b) (hb : AdS K own fr tb db) : AdS K own fr (tFor wi g tb) (sFor it b db) := by
  intro F M σV H s o s' R q D post
  unfold sFor at q
  split at q
  case h_2 => cases q
  rename_i items h1 q1
  refine hi F M σV H s items h1 R q1 _ fun F1 M1 H1 J R1 E1 hz wk => ?_
  refine ⟨fun i m σ H3 => m = items.length - i ∧ i ≤ items.length ∧ ∃ (F2 : Addr → Prop) (M2 : List Addr) (s2 : S), SR K own F2 M2 σ H3 s2 ∧ EE F M (Ow own σV s.σ) H F2 M2 (Ow own σ s2.σ) H3 ∧ Kp F1 M1 H1 F2 M2 H3 ∧ fLoop b db (items.drop i) s2 = .ok (o, s'),
    ⟨items.length, by omega, Nat.zero_le _, F1, M1, _, R1, E1, Kp.refl, q⟩, ?_⟩
  rintro i m σ H3 ⟨rfl, hil, F2, M2, s2, R2, E2, kp2, hl⟩
  have wki := wk F2 M2 H3 kp2 i
  by_cases hlt : i < items.length
  · obtain ⟨go, yl⟩ := wki.1 _ (List.getElem?_eq_getElem hlt)
    rw [List.drop_eq_getElem_cons hlt] at hl
    unfold fLoop at hl
    split at hl
    case h_2 => cases hl
    rename_i s3 b1
    refine .inr ⟨go, fun σ' H' => ∃ (F2 : Addr → Prop) (M2 : List Addr) (s2 : S), SR K own F2 M2 σ' H' s2 ∧ EE F M (Ow own σV s.σ) H F2 M2 (Ow own σ' s2.σ) H' ∧ Kp F1 M1 H1 F2 M2 H' ∧ fLoop b db (items.drop (i + 1)) s2 = .ok (o, s'), fun σ' H' hn => ⟨_, by omega, rfl, hlt, hn⟩, fun x H4 y => ?_⟩
    obtain ⟨sm, rx⟩ := yl x H4 y
    refine hg F2 M2 σ H4 s2 x _ s3 (R2.same sm) rx b1 _ fun σ2 R3 eh ks kl => ?_
    have eO : Ow own σ2 s3.σ = Ow own σ s2.σ := ow_congr fun j hj => ks j fun z => hts j z hj
    have E3 : EE F M (Ow own σV s.σ) H F2 M2 (Ow own σ2 s3.σ) H4 := by rw [eO]; exact E2.trans (EE.same sm)
    have kp3 : Kp F1 M1 H1 F2 M2 H4 := kp2.trans (Kp.same sm)
    split at hl
    · rename_i s4 q4
      refine hb F2 M2 σ2 H4 s3 .nx s4 R3 q4 _ fun F4 M4 σ4 H5 R4 E4 => ⟨F4, M4, s4, R4, E3.trans E4, kp3.trans (R3.kp E4), hl⟩
    · rename_i s4 q4
      refine hb F2 M2 σ2 H4 s3 .ct s4 R3 q4 _ fun F4 M4 σ4 H5 R4 E4 => ⟨F4, M4, s4, R4, E3.trans E4, kp3.trans (R3.kp E4), hl⟩
    · rename_i s4 q4
      cases hl
      refine hb F2 M2 σ2 H4 s3 .bk s' R3 q4 _ fun F4 M4 σ4 H5 R4 E4 => post F4 M4 σ4 H5 R4 (E3.trans E4)
    · rename_i r s4 q4
      cases hl
      refine hb F2 M2 σ2 H4 s3 (.rt r) s' R3 q4 _ fun F4 M4 H5 v R4 E4 rr => post F4 M4 H5 v R4 (E3.trans E4) (RetR.back R3 E3 rr)
    · cases hl
  · have ei : i = items.length := by omega
    subst ei
    refine .inl ⟨wki.2 (Nat.le_refl _), ?_⟩
    rw [List.drop_length] at hl
    cases hl
    exact post F2 M2 σ H3 R2 E2
theorem s_for (hc : X.calm = true) (hi : PXI X own tg iter wi it) (hg : PXG X own ts tg g b) (hb : PXSs X own fr p tb db) (hp : PassesOwn (model X.prog X.w) X.A X.env X.xe) (hts : ∀ j ∈ ts, j ∉ own := by decide) (hs : ∀ x, foldedSetIterable iter X.env x = pure x := by intro _; rfl) : PXS X own fr (.For tg iter p [] pos) (tFor wi g tb) (sFor it b db) :=
  ⟨ps_for hp hc hi.pi hg.pg hb.ps hs, ad_for hts hi.ad hg.ad hb.ad⟩
def wLoop (c : DB) (body : DS) : Nat → DS
  | 0, _ => .error .stuck
  | n + 1, s => match c s with
    | .ok (true, h) => match body ⟨s.σ, h⟩ with
      | .ok (.nx, s2) => wLoop c body n s2
      | .ok (.ct, s2) => wLoop c body n s2
      | .ok (.bk, s2) => .ok (.nx, s2)
      | .ok (.rt r, s2) => .ok (.rt r, s2)
      | .error e => .error e
    | .ok (false, h) => .ok (.nx, ⟨s.σ, h⟩)
    | .error e => .error e
theorem ad_while {n : Nat} (hc : AdR K own ρB tc qc) (hb : AdS K own fr tb db) : AdS K own fr (tWhile tc tb) (wLoop qc db n) := by
  intro F M σV H s o s' R q D post
  refine ⟨fun m σ H3 => ∃ (F2 : Addr → Prop) (M2 : List Addr) (s2 : S), SR K own F2 M2 σ H3 s2 ∧ EE F M (Ow own σV s.σ) H F2 M2 (Ow own σ s2.σ) H3 ∧ wLoop qc db m s2 = .ok (o, s'), ⟨n, F, M, s, R, EE.refl, q⟩, ?_⟩
  rintro m σ H3 ⟨F2, M2, s2, R2, E2, hl⟩
  cases m with
  | zero => cases hl
  | succ m =>
    unfold wLoop at hl
    split at hl
    · rename_i h3 c3
      refine hc F2 M2 σ H3 s2 true h3 R2 c3 _ fun F3 M3 H4 v R3 E3 r3 => ?_
      subst r3
      rw [if_pos rfl]
      have E23 := E2.trans E3
      refine ⟨fun σ' H' => ∃ (F2 : Addr → Prop) (M2 : List Addr) (s2 : S), SR K own F2 M2 σ' H' s2 ∧ EE F M (Ow own σV s.σ) H F2 M2 (Ow own σ' s2.σ) H' ∧ wLoop qc db m s2 = .ok (o, s'), fun σ' H' hn => ⟨m, Nat.lt_succ_self _, hn⟩, ?_⟩
      split at hl
      · rename_i s4 q4
        exact hb F3 M3 σ H4 _ .nx s4 R3 q4 _ fun F4 M4 σ4 H5 R4 E4 => ⟨F4, M4, s4, R4, E23.trans E4, hl⟩
      · rename_i s4 q4
        exact hb F3 M3 σ H4 _ .ct s4 R3 q4 _ fun F4 M4 σ4 H5 R4 E4 => ⟨F4, M4, s4, R4, E23.trans E4, hl⟩
      · rename_i s4 q4
        cases hl
        exact hb F3 M3 σ H4 _ .bk s' R3 q4 _ fun F4 M4 σ4 H5 R4 E4 => post F4 M4 σ4 H5 R4 (E23.trans E4)
      · rename_i r s4 q4
        cases hl
        exact hb F3 M3 σ H4 _ (.rt r) s' R3 q4 _ fun F4 M4 H5 v R4 E4 rr => post F4 M4 H5 v R4 (E23.trans E4) (RetR.back R3 E23 rr)
      · cases hl
    · rename_i h3 c3
      cases hl
      refine hc F2 M2 σ H3 s2 false h3 R2 c3 _ fun F3 M3 H4 v R3 E3 r3 => ?_
      subst r3
      rw [if_neg Bool.false_ne_true]
      exact post F3 M3 σ H4 R3 (E2.trans E3)
    · cases hl
theorem s_while (n : Nat) (hc : PXT X own c tc qc) (hb : PXSs X own fr p tb db) (hp : PassesOwn (model X.prog X.w) X.A X.env X.xe) : PXS X own fr (.While c p [] pos) (tWhile tc tb) (wLoop qc db n) := ⟨ps_while hp hc.pt hb.ps, ad_while hc.ad hb.ad⟩
end
end Kr

namespace Kr
open PySem PySem.Spec L2
open PyProof.Rows hiding St

/-! ### dicts by key -/
def dPut (kvs : List (Key × D)) (k : Key) (v : D) : List (Key × D) :=
  if (kvs.any fun kv => decide (kv.1 = k)) = true then kvs.map (fun kv => if kv.1 = k then (kv.1, v) else kv) else kvs ++ [(k, v)]
def dDrop (kvs : List (Key × D)) (k : Key) : List (Key × D) := kvs.filter fun kv => decide (kv.1 ≠ k)
def dMerge (kvs more : List (Key × D)) : List (Key × D) := more.foldl (fun acc kv => dPut acc kv.1 kv.2) kvs
section
variable {K : PySem.W.Frag} {F : Addr → Prop} {M : List Addr} {H : Hp}
theorem RepK.any (k : Key) : ∀ {vs : List (Key × V)} {ds : List (Key × D)}, RepK K F M H vs ds → (vs.any fun kv => decide (kv.1 = k)) = ds.any fun kv => decide (kv.1 = k)
  | _, _, .nil => rfl
  | _, _, .cons r t => by rw [List.any_cons, List.any_cons, RepK.any k t]
theorem RepK.snoc {k : Key} {v : V} {d : D} (r : Rep K F M H v d) : ∀ {vs : List (Key × V)} {ds : List (Key × D)}, RepK K F M H vs ds → RepK K F M H (vs ++ [(k, v)]) (ds ++ [(k, d)])
  | _, _, .nil => .cons r .nil
  | _, _, .cons q t => .cons q (RepK.snoc r t)
theorem RepK.repl (k : Key) {v : V} {d : D} (r : Rep K F M H v d) : ∀ {vs : List (Key × V)} {ds : List (Key × D)}, RepK K F M H vs ds → RepK K F M H (vs.map fun kv => if kv.1 = k then (kv.1, v) else kv) (ds.map fun kv => if kv.1 = k then (kv.1, d) else kv)
  | _, _, .nil => .nil
  | (k', _) :: _, (_, _) :: _, .cons q t => by
    rw [List.map_cons, List.map_cons]
    by_cases e : k' = k
    · rw [if_pos e, if_pos e]; exact .cons r (RepK.repl k r t)
    · rw [if_neg e, if_neg e]; exact .cons q (RepK.repl k r t)
theorem RepK.put {vs : List (Key × V)} {ds : List (Key × D)} (q : RepK K F M H vs ds) (k : Key) {v : V} {d : D} (r : Rep K F M H v d) : RepK K F M H (putK vs k v) (dPut ds k d) := by
  unfold putK dPut
  rw [q.any k]
  split
  · exact q.repl k r
  · exact q.snoc r
theorem RepK.drop (k : Key) : ∀ {vs : List (Key × V)} {ds : List (Key × D)}, RepK K F M H vs ds → RepK K F M H (dropK vs k) (dDrop ds k)
  | _, _, .nil => .nil
  | (k', _) :: _, (_, _) :: _, .cons q t => by
    have ih := RepK.drop k t
    unfold dropK dDrop at ih ⊢
    rw [List.filter_cons, List.filter_cons]
    by_cases e : decide (k' ≠ k) = true
    · rw [if_pos e, if_pos e]; exact .cons q ih
    · rw [if_neg e, if_neg e]; exact ih
theorem RepK.merge : ∀ {ws : List (Key × V)} {es : List (Key × D)} {vs : List (Key × V)} {ds : List (Key × D)}, RepK K F M H ws es → RepK K F M H vs ds → RepK K F M H (mergeK vs ws) (dMerge ds es)
  | _, _, _, _, .nil, q => q
  | _ :: _, _ :: _, vs, ds, .cons (k := k) r t, q => RepK.merge (vs := putK vs k _) (ds := dPut ds k _) t (q.put k r)
theorem dPut_len (kvs : List (Key × D)) (k : Key) (v : D) : (dPut kvs k v).length ≤ kvs.length + 1 := by
  unfold dPut
  split
  · rw [List.length_map]; omega
  · rw [List.length_append]; exact Nat.le_refl _
theorem dMerge_len : ∀ (es ds : List (Key × D)), (dMerge ds es).length ≤ ds.length + es.length
  | [], _ => Nat.le_refl _
  | e :: es, ds => by
    have := dMerge_len es (dPut ds e.1 e.2)
    have h2 := dPut_len ds e.1 e.2
    show (dMerge (dPut ds e.1 e.2) es).length ≤ _
    rw [List.length_cons]
    omega
theorem dDrop_len (kvs : List (Key × D)) (k : Key) : (dDrop kvs k).length ≤ kvs.length := List.length_filter_le ..
end

/-! ### dict.update -/
section
variable {X : Cx}
def rUpd : V → List V → Hp → VK → Prop := fun x xs H Q => ∃ (a b : Addr) (kvs more : List (Key × V)), x = .ref a ∧ xs = [.ref b] ∧ a ≠ b ∧ H a = some (.dK kvs) ∧ Rd H b (.dK more) ∧ kvs.length + more.length ≤ sizeLine ∧ Q .non (upd H a (.dK (mergeK kvs more)))
theorem mergeK_len : ∀ (more kvs : List (Key × V)), (mergeK kvs more).length ≤ kvs.length + more.length
  | [], _ => Nat.le_refl _
  | e :: es, ds => by
    have := mergeK_len es (putK ds e.1 e.2)
    have h2 := length_putK ds e.1 e.2
    show (mergeK (putK ds e.1 e.2) es).length ≤ _
    rw [List.length_cons]
    omega
theorem mt_upd : MtR X "dict.update" rUpd := by
  intro pins s σ H x xs v us Q I rx rxs h
  obtain ⟨a, b, kvs, more, rfl, rfl, hne, ha, hb, hz, q⟩ := h
  cases rx
  cases rxs with
  | cons rb t =>
  cases t
  cases rb
  obtain ⟨z1, hs1, vs1, rel1, dd1⟩ := dk_of I.hok ha
  obtain ⟨z2, hs2, vs2, rel2, dd2⟩ := dk_rd I.hok hb
  refine call_meetsIn PySem.F.slot_dict_update dd1.typeIs PySem.F.entry_dict_update (PySem.F.args_dict_update_2 _ _) (PySem.meets_dict_update (mixKind X.prog X.w) a b hne hs2) ⟨vs1, vs2, dd1, dd2, by rw [← rel1.length, ← rel2.length]; exact hz, fun h' hd' ho' hs' => ?_⟩
  have hl := Nat.le_trans (mergeK_len more kvs) hz
  have he : ∃ u, h'.get? a = some u := let ⟨u, _, _, hu, _⟩ := hd'; ⟨u, hu⟩
  exact ⟨.non, _, d_write (t' := s.toks) I (by rw [ha]; exact True.intro) hs' he (dk_new hl hs1 (KV.merge rel2 rel1) hd'), rfl, q⟩
/-- list.extend by any list that is read -/
def rExtR : V → List V → Hp → VK → Prop := fun x vs H Q => ∃ l b xs zs, x = .ref l ∧ vs = [.ref b] ∧ H l = some (.lst xs) ∧ Rd H b (.lst zs) ∧ xs.length + zs.length ≤ sizeLine ∧ Q .non (upd H l (.lst (xs ++ zs)))
theorem mt_extR : MtM X "list.extend" rExtR := by
  intro pins s σ H x vs v us Q I rx rv h
  obtain ⟨l, b, xs, zs, rfl, rfl, hH, hB, hz, q⟩ := h
  cases rx
  obtain ⟨u, rfl, ru⟩ := rv.one
  cases ru
  obtain ⟨k1, its, n, r, hl, e⟩ := I.lstM hH
  obtain ⟨k2, jts, m, r2, hl2, e2⟩ := lstR I hB
  have sz : its.toArray.size + jts.toArray.size ≤ sizeLine := by simp only [List.size_toArray]; omega
  have nt : ¬ (!its.toArray.isEmpty && Builtin.List.listTooLong (its.toArray.size + jts.toArray.size)) = true := by rw [notLongL sz, Bool.and_false]; exact Bool.false_ne_true
  refine call_meets F.slot_list_extend ⟨_, e, rfl⟩ F.entry_list_extend (F.args_list_extend_2 _ _) (AutoSeq1.list_extend_list_list_0 l its.toArray n b jts.toArray m nt (by simp only [List.size_toArray]; omega) (by omega)) ⟨e, e2, ?_⟩
  exact ⟨.non, _, I.lset (its' := its ++ jts) hH e (by simp) (r.append r2) (by rw [List.length_append]; omega), rfl, q⟩
end

/-! ### own slots by methods -/
section
variable {K : PySem.W.Frag} {X : Cx} {own ts us : List Nat} {fr : Bool} {e c tg a : Expr} {es : List Expr} {te ta ty tv : TE} {de da dv dy : DE} {oa : DO} {pos pos' apos px cpos : Pos}
/-- a method's call on an own slot, the argument kept -/
def sMV (i : Nat) (m : D → D → Option D) (a : DE) : DS := fun s => match a s with
  | .ok (y, h) => match s.σ[i]? with
    | some (some c) => match m c y with
      | some c' => .ok (.nx, ⟨s.σ.set i (some c'), h⟩)
      | none => .error .stuck
    | _ => .error .stuck
  | .error e => .error e
def MtV (K : PySem.W.Frag) (T : String) (r : V → List V → Hp → VK → Prop) (m : D → D → Option D) : Prop := ∀ (F : Addr → Prop) (M : List Addr) (H : Hp) (p : Addr) (w : V) (c y c' : D) (Q : VK), OwnC K F M H p c → F p → Rep K F M H w y → m c y = some c' →
  (∀ o, OwnC K F M (upd H p o) p c' → Q .non (upd H p o)) → r (.ref p) [w] H Q
def tyD (T : String) : D → Prop
  | .lst _ => T = "list"
  | .dic _ => T = "dict"
  | _ => False
theorem tyV_own {T : String} {F : Addr → Prop} {M : List Addr} {H : Hp} {p : Addr} {d : D} (h : OwnC K F M H p d) (t : tyD T d) : tyV K T (.ref p) H := by
  cases d with
  | lst ds => obtain ⟨vs, e, _⟩ := h; exact .inl ⟨t, _, SqL.of e⟩
  | dic ds => obtain ⟨vs, e, _⟩ := h; exact .inr (.inr (.inl ⟨t, .inl ⟨_, e⟩⟩))
  | _ => exact t.elim
theorem ad_MV {T : String} {r : V → List V → Hp → VK → Prop} {m : D → D → Option D} {i : Nat} (hi : i ∈ own) (hm : MtV K T r m) (ht : ∀ c y c', m c y = some c' → ∀ d, tyD T d ↔ (match c, d with | .lst _, .lst _ => True | .dic _, .dic _ => True | _, _ => False)) (ha : AdR K own (ρV K) ta da) :
    AdS K own fr (tDrop (tBM K T r (tVar i) (tCons ta tNil))) (sMV i m da) := by
  intro F M σV H s o s' R q D post
  unfold sMV at q
  split at q
  case h_2 => cases q
  rename_i y h1 q1
  split at q
  case h_2 => cases q
  rename_i c0 e1
  split at q
  case h_2 => cases q
  rename_i c1 m1
  cases q
  obtain ⟨p, hv, oc, fp, mp⟩ := R.ownd i c0 hi e1
  have ty : tyD T c0 := by
    refine (ht _ _ _ m1 c0).mpr ?_
    cases c0 <;> first | exact oc.elim | trivial
  refine ⟨.ref p, hv, tyV_own oc ty, ?_⟩
  refine ha F M σV H s y h1 R q1 _ fun F1 M1 H1 w R1 E1 r1 => ?_
  obtain ⟨p', hv', oc1, fp1, mp1⟩ := R1.ownd i c0 hi e1
  rw [hv] at hv'
  cases hv'
  refine hm F1 M1 H1 p w c0 y c1 _ oc1 fp1 r1 m1 fun o ho => ?_
  obtain ⟨R2, E2⟩ := R1.chg hi e1 hv ho
  exact post F1 M1 σV _ R2 (E1.trans E2)
def mAppend : D → D → Option D
  | .lst ds, y => bd (ds.length < sizeLine) (.lst (ds ++ [y]))
  | _, _ => none
theorem mtv_append : MtV K "list" rAppend mAppend := by
  intro F M H p w c y c' Q oc fp r hm q
  unfold mAppend at hm
  split at hm
  · rename_i ds
    obtain ⟨hz, rfl⟩ := bd_ok hm
    obtain ⟨vs, hp, rl, z⟩ := oc
    have k : Kp F M H F M (upd H p (.lst (vs ++ [w]))) := kp_wr fp hp
    refine ⟨p, vs, w, rfl, rfl, hp, by rw [rl.len]; exact hz, q _ ⟨vs ++ [w], upd_same, ((rl.append (.cons r .nil)).keep k), by rw [List.length_append]; exact hz⟩⟩
  · cases hm
theorem s_append (i : Nat) {x : Str} (h : PX X own a ta da) (hi : i ∈ own := by decide) (hN : X.N[i]? = some x := by rfl) (hv : Vis X.env.scope x := by first | exact Or.inl rfl | exact Or.inr (Or.inl rfl) | exact Or.inr (Or.inr rfl)) (hd : (x == ("__debug__" : Str)) = false := by decide) (hcd : (x == ("__classdict__" : Str)) = false := by decide)
    (hbase : attributeBase (.Name x px) "append" X.env (eval (.Name x px) X.env) = eval (.Name x px) X.env := by rfl)
    (hfew : ((backTo cpos (starEach (a :: []) X.env)).all (fun x => !x.1) && (backToKw cpos (keywordEach [] X.env)).all (fun x => x.1.isSome) && decide ((a :: []).length + ([] : List Keyword).length + (if ([] : List Keyword).isEmpty then 0 else 1) < 30)) = true := by rfl)
    (hline : (apos.endLine == cpos.line) = true := by rfl) (hs : starEach (a :: []) X.env = (false, eval a X.env) :: starEach [] X.env := by rfl) (hplain : (backTo cpos (starEach [] X.env)).any (·.1) = false := by rfl)
    (hsw : swapsWith (.Call (.Attribute (.Name x px) "append" apos) (a :: []) [] cpos) none pos.line X.env = pure false := by rfl) :
    PXS X own fr (.Expr (.Call (.Attribute (.Name x px) "append" apos) (a :: []) [] cpos) pos) (tDrop (tBM X.K "list" rAppend (tVar i) (tCons ta tNil))) (sMV i mAppend da) :=
  ⟨ps_expr (pe_bm PySem.F.plainAttrs_list PySem.F.slot_list_append PySem.F.type_list_append mt_append (pe_var hN hv hd hcd) (pa_cons h.pe pa_nil hs) hbase hfew hline hs hplain) hsw,
    ad_MV hi mtv_append (fun c y c' hm d => by cases c <;> first | (cases hm; done) | (cases d <;> simp [tyD])) h.ad⟩
/-- a method's call on an own slot, the argument looked at -/
def sMO (i : Nat) (m : D → D → Option D) (a : DO) : DS := fun s => match a s with
  | .ok (y, h) => match s.σ[i]?, deref ⟨s.σ, h⟩ y with
    | some (some c), some y => match m c y with
      | some c' => .ok (.nx, ⟨s.σ.set i (some c'), h⟩)
      | none => .error .stuck
    | _, _ => .error .stuck
  | .error e => .error e
def mExtend : D → D → Option D
  | .lst ds, .lst es => bd (ds.length + es.length ≤ sizeLine) (.lst (ds ++ es))
  | _, _ => none
def mUpdate : D → D → Option D
  | .dic ds, .dic es => bd (ds.length + es.length ≤ sizeLine) (.dic (dMerge ds es))
  | _, _ => none
theorem s_extend (i : Nat) {x : Str} (h : PX X own a ta da) (hi : i ∈ own := by decide) (hN : X.N[i]? = some x := by rfl) (hv : Vis X.env.scope x := by first | exact Or.inl rfl | exact Or.inr (Or.inl rfl) | exact Or.inr (Or.inr rfl)) (hd : (x == ("__debug__" : Str)) = false := by decide) (hcd : (x == ("__classdict__" : Str)) = false := by decide)
    (hbase : attributeBase (.Name x px) "extend" X.env (eval (.Name x px) X.env) = eval (.Name x px) X.env := by rfl)
    (hfew : ((backTo cpos (starEach (a :: []) X.env)).all (fun x => !x.1) && (backToKw cpos (keywordEach [] X.env)).all (fun x => x.1.isSome) && decide ((a :: []).length + ([] : List Keyword).length + (if ([] : List Keyword).isEmpty then 0 else 1) < 30)) = true := by rfl)
    (hline : (apos.endLine == cpos.line) = true := by rfl) (hs : starEach (a :: []) X.env = (false, eval a X.env) :: starEach [] X.env := by rfl) (hplain : (backTo cpos (starEach [] X.env)).any (·.1) = false := by rfl)
    (hsw : swapsWith (.Call (.Attribute (.Name x px) "extend" apos) (a :: []) [] cpos) none pos.line X.env = pure false := by rfl) :
    PXS X own fr (.Expr (.Call (.Attribute (.Name x px) "extend" apos) (a :: []) [] cpos) pos) (tDrop (tBM X.K "list" rExtR (tVar i) (tCons ta tNil))) (sMV i mExtend da) :=
  ⟨ps_expr (pe_bm PySem.F.plainAttrs_list PySem.F.slot_list_extend PySem.F.type_list_extend mt_extR (pe_var hN hv hd hcd) (pa_cons h.pe pa_nil hs) hbase hfew hline hs hplain) hsw,
    ad_MV hi (by
      intro F M H p w c y c' Q oc fp r hm q
      unfold mExtend at hm
      split at hm
      · rename_i ds es
        obtain ⟨hz, rfl⟩ := bd_ok hm
        obtain ⟨vs, hp, rl, z⟩ := oc
        cases r with
        | @lst b ws _ hb nf z2 r2 =>
        have k : Kp F M H F M (upd H p (.lst (vs ++ ws))) := kp_wr fp hp
        exact ⟨p, b, vs, ws, rfl, rfl, hp, hb, by rw [rl.len, r2.len]; exact hz, q _ ⟨vs ++ ws, upd_same, ((rl.append r2).keep k), by rw [List.length_append]; exact hz⟩⟩
      · cases hm) (fun c y c' hm d => by cases c <;> first | (cases hm; done) | (cases d <;> simp [tyD])) h.ad⟩
/-- found.update(names) -/
theorem ad_upd {i : Nat} (hi : i ∈ own) {j : Nat} (hj : j ∈ own) (hij : i ≠ j) : AdS K own fr (tDrop (tBM K "dict" rUpd (tVar i) (tCons (tVar j) tNil))) (sMO i mUpdate (oOwn j)) := by
  intro F M σV H s o s' R q D post
  unfold sMO oOwn ret at q
  dsimp only at q
  split at q
  case h_2 => cases q
  rename_i c0 y e1 e2
  split at q
  case h_2 => cases q
  rename_i c1 m1
  cases q
  have e2 : s.σ[j]? = some (some y) := by
    have e2 : (s.σ[j]?).join = some y := e2
    cases q : s.σ[j]? with
    | none => rw [q] at e2; cases e2
    | some z => rw [q] at e2; cases z with
      | none => cases e2
      | some w => cases e2; rfl
  obtain ⟨p, hv, oc, fp, mp⟩ := R.ownd i c0 hi e1
  obtain ⟨b, hv2, oc2, fp2, mp2⟩ := R.ownd j y hj e2
  cases c0 with
  | dic ds => cases y with
   | dic es =>
    obtain ⟨hz, rfl⟩ := bd_ok (show bd (ds.length + es.length ≤ sizeLine) (Kr.D.dic (dMerge ds es)) = some c1 from m1)
    obtain ⟨vs, hp, rl, z⟩ := oc
    obtain ⟨ws, hb, rl2, z2⟩ := oc2
    have hpb : p ≠ b := fun w => hij (R.dis i j p _ _ hi hj e1 e2 hv (by rw [w]; exact hv2))
    refine ⟨.ref p, hv, .inr (.inr (.inl ⟨rfl, .inl ⟨_, hp⟩⟩)), .ref b, hv2, p, b, vs, ws, rfl, rfl, hpb, hp, .inl hb, by rw [rl.len, rl2.len]; exact hz, ?_⟩
    have k : Kp F M H F M (upd H p (.dK (mergeK vs ws))) := kp_chg fp fun xs hx => by rcases hx with hx | ⟨_, hx⟩ <;> rw [hp] at hx <;> cases hx
    obtain ⟨R2, E2⟩ := R.chg (d' := .dic (dMerge ds es)) hi e1 hv ⟨_, upd_same, (rl2.merge rl).keep k, Nat.le_trans (dMerge_len es ds) hz⟩
    exact post F M σV _ R2 E2
   | _ => cases m1
  | _ => first | cases m1 | exact oc.elim
theorem s_update (i j : Nat) {x y : Str} {p2 : Pos} (hi : i ∈ own := by decide) (hj : j ∈ own := by decide) (hij : i ≠ j := by decide) (hN : X.N[i]? = some x := by rfl) (hv : Vis X.env.scope x := by first | exact Or.inl rfl | exact Or.inr (Or.inl rfl) | exact Or.inr (Or.inr rfl)) (hd : (x == ("__debug__" : Str)) = false := by decide) (hcd : (x == ("__classdict__" : Str)) = false := by decide)
    (hN2 : X.N[j]? = some y := by rfl) (hv2 : Vis X.env.scope y := by first | exact Or.inl rfl | exact Or.inr (Or.inl rfl) | exact Or.inr (Or.inr rfl)) (hd2 : (y == ("__debug__" : Str)) = false := by decide) (hcd2 : (y == ("__classdict__" : Str)) = false := by decide)
    (hbase : attributeBase (.Name x px) "update" X.env (eval (.Name x px) X.env) = eval (.Name x px) X.env := by rfl)
    (hfew : ((backTo cpos (starEach (.Name y p2 :: []) X.env)).all (fun x => !x.1) && (backToKw cpos (keywordEach [] X.env)).all (fun x => x.1.isSome) && decide ((Expr.Name y p2 :: []).length + ([] : List Keyword).length + (if ([] : List Keyword).isEmpty then 0 else 1) < 30)) = true := by rfl)
    (hline : (apos.endLine == cpos.line) = true := by rfl) (hs : starEach (.Name y p2 :: []) X.env = (false, eval (.Name y p2) X.env) :: starEach [] X.env := by rfl) (hplain : (backTo cpos (starEach [] X.env)).any (·.1) = false := by rfl)
    (hsw : swapsWith (.Call (.Attribute (.Name x px) "update" apos) (.Name y p2 :: []) [] cpos) none pos.line X.env = pure false := by rfl) :
    PXS X own fr (.Expr (.Call (.Attribute (.Name x px) "update" apos) (.Name y p2 :: []) [] cpos) pos) (tDrop (tBM X.K "dict" rUpd (tVar i) (tCons (tVar j) tNil))) (sMO i mUpdate (oOwn j)) :=
  ⟨ps_expr (pe_bm PySem.F.plainAttrs_dict PySem.F.slot_dict_update PySem.F.type_dict_update mt_upd (pe_var hN hv hd hcd) (pa_cons (pe_var hN2 hv2 hd2 hcd2) pa_nil hs) hbase hfew hline hs hplain) hsw, ad_upd hi hj hij⟩
/-- names.pop(k, x) of an own dict, as a statement -/
def sPop2 (i : Nat) (a b : DE) : DS := fun s => match a s with
  | .ok (y, h) => match b ⟨s.σ, h⟩ with
    | .ok (z, h2) => match s.σ[i]?, toKey y with
      | some (some (.dic ds)), some k => .ok (.nx, ⟨s.σ.set i (some (.dic (dDrop ds k))), h2⟩)
      | _, _ => .error .stuck
    | .error e => .error e
  | .error e => .error e
theorem set_same {α : Type} : ∀ {l : List α} {i : Nat} {x : α}, l[i]? = some x → l.set i x = l
  | [], _, _, h => by simp at h
  | y :: l, 0, x, h => by simp at h; rw [h]; rfl
  | y :: l, i + 1, x, h => by rw [List.set_cons_succ, set_same (by simpa using h)]
theorem dDrop_none {ds : List (Key × D)} {k : Key} (h : dGet ds k = none) : dDrop ds k = ds := by
  unfold dDrop
  refine List.filter_eq_self.mpr fun p hp => ?_
  unfold dGet at h
  cases e : ds.find? (fun kv => decide (kv.1 = k)) with
  | none =>
    have := List.find?_eq_none.mp e p hp
    simpa using this
  | some q => rw [e] at h; cases h
theorem s_pop2 (i : Nat) {x : Str} {f : Expr} {tf : TE} {df : DE} (h : PX X own a ta da) (h2 : PX X own f tf df) (hi : i ∈ own := by decide) (hN : X.N[i]? = some x := by rfl) (hv : Vis X.env.scope x := by first | exact Or.inl rfl | exact Or.inr (Or.inl rfl) | exact Or.inr (Or.inr rfl)) (hd : (x == ("__debug__" : Str)) = false := by decide) (hcd : (x == ("__classdict__" : Str)) = false := by decide)
    (m : M2 X (.Name x px) "pop" apos a f cpos := by exact ⟨rfl, rfl, rfl, rfl⟩) (hsw : swapsWith (.Call (.Attribute (.Name x px) "pop" apos) [a, f] [] cpos) none pos.line X.env = pure false := by rfl) :
    PXS X own fr (.Expr (.Call (.Attribute (.Name x px) "pop" apos) [a, f] [] cpos) pos) (tDrop (tDPop2 (tVar i) ta tf)) (sPop2 i da df) := ⟨ps_expr (pe_dpop2 (pe_var hN hv hd hcd) h.pe h2.pe m) hsw, by
  intro F M σV H s o s' R q D post
  unfold sPop2 at q
  split at q
  case h_2 => cases q
  rename_i y h1 q1
  split at q
  case h_2 => cases q
  rename_i z h3 q3
  split at q
  case h_2 => cases q
  rename_i ds k e1 e2
  cases q
  obtain ⟨p, hv1, oc, fp, mp⟩ := R.ownd i _ hi e1
  obtain ⟨vs0, hp0, _, _⟩ := oc
  refine ⟨.ref p, hv1, p, rfl, .inl ⟨_, .inl hp0⟩, ?_⟩
  refine h.ad F M σV H s y h1 R q1 _ fun F1 M1 H1 w R1 E1 r1 => ?_
  refine h2.ad F1 M1 σV H1 _ z h3 R1 q3 _ fun F2 M2 H2 w2 R2 E2 r2 => ?_
  obtain ⟨p', hv', oc2, fp2, mp2⟩ := R2.ownd i _ hi e1
  rw [hv1] at hv'
  cases hv'
  obtain ⟨vs, hp, rl, zl⟩ := oc2
  have kp : ∀ {o : HO}, Kp F2 M2 H2 F2 M2 (upd H2 p o) := kp_chg fp2 fun xs hx => by rcases hx with hx | ⟨_, hx⟩ <;> rw [hp] at hx <;> cases hx
  refine ⟨vs, k, hp, key_of (RepC.of (r1.keep (R1.kp E2))) e2, fun v hval => ?_, fun hn => ?_⟩
  · obtain ⟨R3, E3⟩ := R2.chg (d' := .dic (dDrop ds k)) (o := .dK (dropK vs k)) hi e1 hv1 ⟨_, upd_same, (rl.drop k).keep kp, Nat.le_trans (dDrop_len ds k) zl⟩
    exact post F2 M2 σV _ R3 ((E1.trans E2).trans E3)
  · have hg : dGet ds k = none := by
      rcases rl.val k with ⟨_, e⟩ | ⟨v, d, e3, _⟩
      · exact e
      · rw [hn] at e3; cases e3
    have es : s.σ.set i (some (.dic (dDrop ds k))) = s.σ := by
      rw [dDrop_none hg]
      exact set_same e1
    have post := post F2 M2 σV H2
    rw [es] at post
    exact post R2 (E1.trans E2)⟩
/-- parts[i] = e of an own list -/
def sSet (i : Nat) (de di : DE) : DS := fun s => match de s with
  | .ok (y, h) => match di ⟨s.σ, h⟩ with
    | .ok (.int k, h2) => match s.σ[i]? with
      | some (some (.lst ds)) => match ixN ds.length k with
        | some j => .ok (.nx, ⟨s.σ.set i (some (.lst (ds.set j y))), h2⟩)
        | none => .error .stuck
      | _ => .error .stuck
    | .ok _ => .error .stuck
    | .error e => .error e
  | .error e => .error e
theorem s_setL (i : Nat) {x : Str} {p2 : Pos} {f : Expr} {tf : TE} {df : DE} (h : PX X own a ta da) (h2 : PX X own f tf df) (hi : i ∈ own := by decide) (hN : X.N[i]? = some x := by rfl) (hv : Vis X.env.scope x := by first | exact Or.inl rfl | exact Or.inr (Or.inl rfl) | exact Or.inr (Or.inr rfl)) (hd : (x == ("__debug__" : Str)) = false := by decide) (hcd : (x == ("__classdict__" : Str)) = false := by decide)
    (hs : swapsWithSole [.Subscript (.Name x px) f p2] a pos.line X.env = pure false := by rfl) (hw : swappedStores [.Subscript (.Name x px) f p2] a X.env = pure none := by rfl)
    (h1 : (assignEach [.Subscript (.Name x px) f p2] X.env).map (·.2) = [assign (.Subscript (.Name x px) f p2) X.env] := by rfl)
    (ha : ∀ v, assign (.Subscript (.Name x px) f p2) X.env v = (do
      let ov ← holding [v] (eval (.Name x px) X.env)
      let iv ← holding [v, ov] (eval f X.env)
      standAt p2
      holding [v, ov, iv] (setItem ov iv v)
      release [v, ov, iv] []) := by intro _; rfl) :
    PXS X own fr (.Assign [.Subscript (.Name x px) f p2] a pos) (tAsg ta (L2.gSub (tVar i) tf rSetL)) (sSet i da df) := ⟨ps_asg h.pe (pg_sub (pe_var hN hv hd hcd) h2.pe set_list ha) hs hw h1, by
  intro F M σV H s o s' R q D post
  unfold sSet at q
  split at q
  case h_2 => cases q
  rename_i y h1 q1
  split at q
  · rename_i k h3 q3
    split at q
    · rename_i ds e1
      split at q
      · rename_i j hj
        cases q
        refine h.ad F M σV H s y h1 R q1 _ fun F1 M1 H1 w R1 E1 r1 => ?_
        obtain ⟨p, hv1, oc, fp, mp⟩ := R1.ownd i _ hi e1
        refine ⟨.ref p, hv1, ?_⟩
        refine h2.ad F1 M1 σV H1 _ (.int k) h3 R1 q3 _ fun F2 M2 H2 w2 R2 E2 r2 => ?_
        cases r2
        obtain ⟨p', hv', oc2, fp2, mp2⟩ := R2.ownd i _ hi e1
        rw [hv1] at hv'
        cases hv'
        obtain ⟨vs, hp, rl, zl⟩ := oc2
        have kp : Kp F2 M2 H2 F2 M2 (upd H2 p (.lst (vs.set j w))) := kp_wr fp2 hp
        obtain ⟨R3, E3⟩ := R2.chg (d' := .lst (ds.set j y)) (o := .lst (vs.set j w)) hi e1 hv1 ⟨_, upd_same, (rl.set (r1.keep (R1.kp E2)) j).keep kp, by rw [List.length_set]; exact zl⟩
        exact ⟨p, vs, k, j, rfl, rfl, hp, by rw [rl.len]; exact hj, post F2 M2 σV _ R3 ((E1.trans E2).trans E3)⟩
      · cases q
    · cases q
  · cases q
  · cases q⟩
end
end Kr

/-! t[::-1] of a tuple -/
namespace HT
open PySem PySem.W PyProof.Rows
section
variable {prog : Program} {w : World} {A : Around} {E : Value → Shared → Prop} {s : Shared}
theorem rev_pick (xs : Array Value) : ((List.range xs.size).filterMap fun (m : Nat) => xs[(((xs.size : Int) - 1) + (m : Int) * (-1)).toNat]?).toArray = xs.toList.reverse.toArray := by
  have e : (fun (m : Nat) => xs[(((xs.size : Int) - 1) + (m : Int) * (-1)).toNat]?) = (fun k => xs[k]?) ∘ (fun k => xs.size - 1 - k) := by
    funext m
    show _ = xs[xs.size - 1 - m]?
    have h : (((xs.size : Int) - 1) + (m : Int) * (-1)).toNat = xs.size - 1 - m := by omega
    rw [h]
  rw [e, ← List.filterMap_map, krv_range, List.filterMap_reverse, krv_all]
theorem adjust_rev (n : Nat) : Builtin.Slice.sliceAdjust none none (-1) (n : Int) = ((n : Int) - 1, -1) := by
  unfold Builtin.Slice.sliceAdjust
  simp
theorem places_rev (n : Nat) : Builtin.Slice.slicePlaces ((n : Int) - 1) (-1) (-1) = n := by
  unfold Builtin.Slice.slicePlaces
  simp
  split <;> omega
theorem tuple_rev {t sl : Addr} {items : Array Value} {vl vu vs : Value} {Q : Value → Shared → Prop} (ht : IsTup s.heap t items) (hs : s.heap.IsSliceOf sl vl vu vs) (pl : IsPart vl none) (pu : IsPart vu none) (ps : IsPart vs (some (-1)))
    (h : Q (.ref s.heap.objs.size) { s with heap := s.heap.push { cls := .type "tuple", data := .seq items.toList.reverse.toArray } }) (hsz : items.size ≤ sizeLine) : wpAny (model prog w) A (getItem (.ref t) (.ref sl)) Q E s := by
  have hz : sizeOk (.seq items.toList.reverse.toArray) := by
    show items.toList.reverse.toArray.size ≤ sizeLine
    simpa using hsz
  obtain ⟨os, hos, hcs, hds⟩ := id hs
  have hTs : s.TypeIs (.ref sl) "slice" := ⟨os, hos, hcs⟩
  unfold getItem
  try with_reducible refine wpAny_holding ?_
  first | refine wpAny_bind (wpAny_pure ?_) | skip
  refine wpAny_bind (wpAny_sequenceKey ht.typeIs (by decide) ?_)
  refine wpAny_bind (wpAny_callSpecial?_slot (name := Str.ofString "__getitem__") ht.typeIs PyProof.Rows.slot_tuple_getitem (wpAny_call_entry PyProof.Rows.slot_tuple_getitem ht.typeIs entry_tuple_getitem ?_ (args_tuple_getitem _ _)))
  show wpAny _ _ (Builtin.Tuple.tupleItemsOf (.ref t) >>= _) _ _ s
  refine wpAny_bind (tupleItemsOf_ ht ?_)
  refine wpAny_bind (wpAny_typeOf hTs ?_)
  rw [if_pos (by decide)]
  refine wpAny_bind ?_
  unfold Builtin.Slice.sliceApplied Builtin.Slice.sliceFields
  refine wpAny_bind (wpAny_bind (wpAny_field hos hds (x := vl) rfl (wpAny_bind (wpAny_field hos hds (x := vu) rfl (wpAny_bind (wpAny_field hos hds (x := vs) rfl (wpAny_pure ?_)))))))
  refine wpAny_bind (slicePart_ ps ?_)
  show wpAny _ _ (if ((-1 : Int) == 0) = true then _ else _) _ _ s
  rw [if_neg (by decide)]
  refine wpAny_bind (slicePart_ pl (wpAny_bind (slicePart_ pu (wpAny_bind (wpAny_pure ?_)))))
  show wpAny _ _ (match Builtin.Slice.sliceAdjust none none (-1) (items.size : Int) with | (lo, hi) => pure (lo, (-1 : Int), Builtin.Slice.slicePlaces lo hi (-1))) _ _ s
  rw [adjust_rev]
  show wpAny _ _ (pure ((items.size : Int) - 1, (-1 : Int), Builtin.Slice.slicePlaces ((items.size : Int) - 1) (-1) (-1))) _ _ s
  rw [places_rev]
  refine wpAny_pure ?_
  have hno : ¬ ((((items.size : Int) - 1) == 0 && (-1 : Int) == 1 && items.size == items.size) = true) := by
    have : ((-1 : Int) == 1) = false := by decide
    rw [this, Bool.and_false, Bool.false_and]
    exact Bool.false_ne_true
  show wpAny _ _ (if (((items.size : Int) - 1) == 0 && (-1 : Int) == 1 && items.size == items.size) = true then _ else _) _ _ s
  rw [if_neg hno, rev_pick]
  first
    | exact wpAny_bind (m := Builtin.Tuple.tupleExact _) (wpAny_newObj_type (wpAny_pure ⟨_, rfl, wpAny_pure h⟩) hz)
    | exact wpAny_bind (m := Builtin.Tuple.tupleExact _) (wpAny_newObj_type (wpAny_bind (wpAny_pure (wpAny_pure ⟨_, rfl, wpAny_pure h⟩))) hz)
    | exact wpAny_bind (wpAny_bind (m := Builtin.Tuple.tupleExact _) (wpAny_newObj_type (wpAny_pure (wpAny_pure ⟨_, rfl, wpAny_pure h⟩)) hz))
    | exact wpAny_bind (wpAny_bind (m := Builtin.Tuple.tupleExact _) (wpAny_newObj_type (wpAny_pure ⟨_, rfl, wpAny_pure h⟩) hz))
end
end HT
namespace Kr
open PySem PySem.Spec L2
open PyProof.Rows hiding St
def tRev (K : PySem.W.Frag) (te : TE) : TE := fun σ H Q => te σ H fun x H2 => ∃ a xs, x = .ref a ∧ ((SqT K H2 a xs ∧ ∀ p, H2 p = none → Q (.ref p) (upd H2 p (.tup xs.reverse))) ∨ (SqL K H2 a xs ∧ ∀ p, H2 p = none → Q (.ref p) (upd H2 p (.lst xs.reverse))))
section
variable {X : Cx} {own : List Nat} {e st : Expr} {te ts : TE} {oa : DO} {ds : DE} {p3 pos : Pos}
theorem pe_rev (he : PE X e te) (hst : PE X st ts) (hk : ∀ σ H (Q : VK), Q (.int (-1)) H → ts σ H Q) : PE X (.Subscript e (.Slice none none (some st) p3) pos) (tRev X.K te) := by
  refine ⟨fun pins s σ H Q I h => ?_⟩
  refine Subscript_ (thn (he.run pins s σ H _ I h) fun v s1 ⟨x, H1, I1, r1, q1⟩ => ?_)
  obtain ⟨a, xs, rfl, q1⟩ := q1
  cases r1
  refine wpAny_Slice (thn (po_none.run pins s1 σ H1 (fun o H2 => o = none ∧ H2 = H1) I1 ⟨rfl, rfl⟩) fun vl s2 ⟨l, H2, I2, pl, el, e2⟩ => ?_)
  subst el e2
  refine thn (po_none.run pins s2 σ H2 (fun o H3 => o = none ∧ H3 = H2) I2 ⟨rfl, rfl⟩) fun vu s3 ⟨u, H3, I3, pu, eu, e3⟩ => ?_
  subst eu e3
  refine thn ((po_some hst).run pins s3 σ H3 (fun o H4 => o = some (-1) ∧ H4 = H3) I3 (hk _ _ _ ⟨-1, rfl, rfl, rfl⟩)) fun vs s4 ⟨o, H4, I4, ps, eo, e4⟩ => ?_
  subst eo e4
  have I5 : L2.Inv X pins σ H4 { s4 with heap := s4.heap.push { cls := .type "slice", data := .fields #[vl, vu, vs] } } := I4.kept (t' := s4.toks) fun b ob q => Heap.get?_push_of_some _ q
  show wpAny (model X.prog X.w) X.A (subscriptTail e (.Slice none none (some st) p3) (.ref a) (.ref s4.heap.objs.size)) (EP X pins σ Q) X.xe { s4 with heap := s4.heap.push { cls := .type "slice", data := .fields #[vl, vu, vs] } }
  rcases q1 with ⟨hx, q⟩ | ⟨hx, q⟩
  · obtain ⟨its, r, ht, hz⟩ := I5.tuple hx
    refine tail_any (ops := [.ref a, .ref s4.heap.objs.size]) ht.typeIs PyProof.Rows.slot_tuple_getitem.lookup ?_ (by with_unfolding_all rfl)
    refine HT.tuple_rev ht (Heap.IsSliceOf.new _ vl vu vs) pl pu ps ?_ (by rw [List.size_toArray, ← r.length]; exact hz)
    refine ⟨.ref _, _, I5.laid (t' := s4.toks) (o := .tup xs.reverse) (fun b ob q => Heap.get?_push_of_some _ q) (Nat.le_refl _) ?_, rfl, q _ (I5.hok.fresh (Nat.le_refl _))⟩
    exact ⟨by rw [List.length_reverse]; exact hz, _, r.reverse, IsTup.new _ _⟩
  · obtain ⟨its, r, ht, hz⟩ := I5.list hx
    refine tail_any (ops := [.ref a, .ref s4.heap.objs.size]) ht.isList.typeIs PySem.slot_list_getitem.lookup ?_ (by with_unfolding_all rfl)
    refine wpAny_getItem_list_slice ht.isList (Heap.IsSliceOf.new _ vl vu vs) pl pu ps (by decide) ?_ (by rw [List.size_toArray, ← r.length]; exact hz)
    rw [PySem.W.krv_pick]
    refine ⟨.ref _, _, I5.laid (t' := s4.toks) (o := .lst xs.reverse) (fun b ob q => Heap.get?_push_of_some _ q) (Nat.le_refl _) ?_, rfl, q _ (I5.hok.fresh (Nat.le_refl _))⟩
    exact ⟨by rw [List.length_reverse]; exact hz, _, 0, r.reverse, Heap.get?_push_size _ rfl⟩
def gRev : D → Option D
  | .tup xs => some (.tup xs.reverse)
  | .lst xs => some (.lst xs.reverse)
  | _ => none
def dRev (a : DO) : DE := bnd a fun x s => match deref s x with
  | some x => opt (gRev x) s
  | none => .error .stuck
theorem xrev (h : PXO X own e te oa) (hst : PE X st ts) (hk : ∀ σ H (Q : VK), Q (.int (-1)) H → ts σ H Q) : PX X own (.Subscript e (.Slice none none (some st) p3) pos) (tRev X.K te) (dRev oa) := ⟨pe_rev h.pe hst hk, fun F M σV H s z s' R q Q post => by
  obtain ⟨x, s1, q1, q⟩ := bnd_ok q
  split at q
  · rename_i d hd
    obtain ⟨qc, rfl⟩ := opt_ok q
    refine h.ad F M σV H s x _ R q1 _ fun F1 M1 H1 v R1 E1 r1 => ?_
    have rc := deref_ok R1 r1 hd
    unfold gRev at qc
    split at qc
    · cases qc
      cases rc with
      | @tup a vs _ hs hz r =>
      refine ⟨a, vs, rfl, .inl ⟨hs, fun p hp => ?_⟩⟩
      have sm : Same H1 (upd H1 p (.tup vs.reverse)) := same_upd hp
      exact post F1 M1 _ _ (R1.same sm) (E1.trans (EE.same sm)) (.tup (.inl (.inl upd_same)) (by rw [List.length_reverse]; exact hz) (r.reverse.keep (Kp.same sm)))
    · cases qc
      obtain ⟨a, vs, rfl, hs, r, hz⟩ := rc
      refine ⟨a, vs, rfl, .inr ⟨.inl hs, fun p hp => ?_⟩⟩
      have sm : Same H1 (upd H1 p (.lst vs.reverse)) := same_upd hp
      refine post F1 M1 _ _ (R1.same sm) (E1.trans (EE.same sm)) (.lst (.inl upd_same) (fun z => ?_) (by rw [List.length_reverse]; exact hz) (r.reverse.keep (Kp.same sm)))
      obtain ⟨o, ho⟩ := R1.ft p z
      rw [hp] at ho; cases ho
    · cases qc
  · cases q⟩
end
end Kr

namespace Kr
open PySem PySem.Spec L2
open PyProof.Rows hiding St

/-! ### written dicts -/
abbrev DPs := ME (List (Key × D))
def AdPs (K : PySem.W.Frag) (own : List Nat) (trs : List (TE × TE)) (d : DPs) : Prop :=
  ∀ (F : Addr → Prop) (M : List Addr) (σV : St) (H : Hp) (s : S) (r : List (Key × D)) (h' : List D), SR K own F M σV H s → d s = .ok (r, h') → ∀ Q : List (V × V) → Hp → Prop,
    (∀ (F' : Addr → Prop) (M' : List Addr) (H' : Hp) (kvs : List (Key × V)), SR K own F' M' σV H' ⟨s.σ, h'⟩ → EE F M (Ow own σV s.σ) H F' M' (Ow own σV s.σ) H' → RepK K F' M' H' kvs r → Q (kvs.map fun kv => (kV kv.1, kv.2)) H') → tPairs trs σV H Q
structure PXPs (X : Cx) (own : List Nat) (pos : Pos) (keys : List (Option Expr)) (values : List Expr) (trs : List (TE × TE)) (d : DPs) : Prop where
  pps : PPs X pos keys values trs
  ad : AdPs X.K own trs d
def psNil : DPs := ret []
def psCons (a b : DE) (r : DPs) : DPs := bnd a fun x => bnd b fun y => bnd (opt (toKey x)) fun k => bnd r fun rest => ret ((k, y) :: rest)
section
variable {K : PySem.W.Frag} {X : Cx} {own : List Nat} {pos : Pos} {k v : Expr} {ks : List (Option Expr)} {vs : List Expr} {tk tv : TE} {trs : List (TE × TE)} {dk dv : DE} {dr : DPs}
theorem xp_nil : PXPs X own pos [] [] [] psNil := ⟨pps_nil, fun F M σV H s r h' R q Q post => by
  obtain ⟨rfl, rfl⟩ := ret_ok q
  exact post F M H [] R EE.refl .nil⟩
theorem xp_cons (hk : PX X own k tk dk) (hv : PX X own v tv dv) (hr : PXPs X own pos ks vs trs dr) : PXPs X own pos (some k :: ks) (v :: vs) ((tk, tv) :: trs) (psCons dk dv dr) := ⟨pps_cons hk.pe hv.pe hr.pps, fun F M σV H s r h' R q Q post => by
  obtain ⟨x, h1, q1, q⟩ := bnd_ok q
  obtain ⟨y, h2, q2, q⟩ := bnd_ok q
  obtain ⟨kk, hx, qk, q⟩ := bnd_ok q
  obtain ⟨ek, rfl⟩ := opt_ok qk
  obtain ⟨rest, h3, q3, q⟩ := bnd_ok q
  obtain ⟨rfl, rfl⟩ := ret_ok q
  refine hk.ad F M σV H s x h1 R q1 _ fun F1 M1 H1 w1 R1 E1 r1 => ?_
  refine hv.ad F1 M1 σV H1 _ y _ R1 q2 _ fun F2 M2 H2 w2 R2 E2 r2 => ?_
  refine hr.ad F2 M2 σV H2 _ rest _ R2 q3 _ fun F3 M3 H3 kvs R3 E3 r3 => ?_
  have e1 : w1 = kV kk := key_of (RepC.of r1) ek
  subst e1
  exact post F3 M3 H3 ((kk, w2) :: kvs) R3 ((E1.trans E2).trans E3) (.cons (r2.keep (R2.kp E3)) r3)⟩
def dDisp (r : DPs) : DE := bnd r fun kvs => opt (bd (kvs.length ≤ 15) (.dic (dMerge [] kvs)))
theorem xdispF (h : PXPs X own pos ks vs trs dr) (hall : ks.all (·.isSome) = true := by rfl) (hl : ks.length = vs.length := by rfl) (h0 : ks ≠ [] := by simp) (h15 : ks.length ≤ 15 := by decide) : PXF X own (.Dict ks vs pos) (tDisp trs) (dDisp dr) := ⟨pe_disp h.pps hall hl h0 h15, fun F M σV H s r h' R q Q post => by
  obtain ⟨kvs, h1, q1, q⟩ := bnd_ok q
  obtain ⟨qa, rfl⟩ := opt_ok q
  obtain ⟨hz, rfl⟩ := bd_ok qa
  intro p hp
  have nm : p ∉ M := fun z => by obtain ⟨u, hu⟩ := R.ft p (R.inM z).1; rw [hp] at hu; cases hu
  have no : ¬ Ow own σV s.σ p := fun z => by obtain ⟨u, hu⟩ := R.ft p (R.inO z).1; rw [hp] at hu; cases hu
  refine h.ad (plus F p) M σV _ s kvs _ (R.lay hp) q1 _ fun F1 M1 H1 ws R1 E1 r1 => ?_
  obtain ⟨e1, e2, _, e4⟩ := E1.keep p _ upd_same nm no
  have fp : F1 p := e4.mpr (.inr rfl)
  have kp : Kp F1 M1 H1 F1 M1 (upd H1 p (.dK (mergeK [] ws))) := kp_chg fp fun xs hx => by rcases hx with hx | ⟨_, hx⟩ <;> rw [e1] at hx <;> cases hx
  refine ⟨e1, ws, rfl, by rw [r1.len]; exact hz, ?_⟩
  have len : (dMerge [] kvs).length ≤ sizeLine := Nat.le_trans (dMerge_len kvs []) (by rw [sizeLine_eq]; simp; omega)
  have R2 : SR X.K own F1 M1 σV (upd H1 p (.dK (mergeK [] ws))) ⟨s.σ, h'⟩ := by
    refine ⟨R1.len, fun i d n e => ?_, fun i d n e => ?_, R1.dis, R1.ml, R1.nd, fun i q d h1 h2 => ?_, fun a e => ?_⟩
    · obtain ⟨v, e1, e2⟩ := R1.val i d n e
      exact ⟨v, e1, e2.keep kp⟩
    · obtain ⟨q, g1, g2, g3, g4⟩ := R1.ownd i d n e
      have : q ≠ p := fun z => no ⟨i, n, by rw [← z]; exact g1, d, e⟩
      exact ⟨q, g1, g2.keep kp fun o' z => by rw [upd_ne this]; exact z, g3, g4⟩
    · obtain ⟨g1, g2⟩ := R1.obj i q d h1 h2
      have : q ≠ p := fun z => e2 (by rw [← z]; exact List.mem_of_getElem? h1)
      exact ⟨g1.keep kp fun o' z => by rw [upd_ne this]; exact z, g2⟩
    · by_cases z : a = p
      · subst z; exact ⟨_, upd_same⟩
      · obtain ⟨u, hu⟩ := R1.ft a e
        exact ⟨u, by rw [upd_ne z]; exact hu⟩
  exact post F1 M1 _ p R2 (EE.wr ((EE.lay hp).trans E1) hp ⟨_, e1⟩) hp fp e2 no ⟨_, upd_same, (RepK.merge r1 .nil).keep kp, len⟩⟩
end

/-! ### changeable objects -/
section
variable {K : PySem.W.Frag} {X : Cx} {own : List Nat} {fr : Bool} {e a f : Expr} {te ta tf : TE} {de da df : DE} {oa : DO} {pos pos' : Pos}
/-- x = {..}, to be changed by others -/
def sObj (i : Nat) (d : DE) : DS := fun s => match d s with
  | .ok (r, h) => .ok (.nx, ⟨s.σ.set i (some (.obj h.length)), h ++ [r]⟩)
  | .error e => .error e
theorem SR.adopt {F : Addr → Prop} {M : List Addr} {H : Hp} {σV : St} {s : S} {p : Addr} {d : D} (R : SR K own F M σV H s) (fp : F p) (mp : p ∉ M) (op : ¬ Ow own σV s.σ p) (oc : OwnC K F M H p d) : SR K own F (M ++ [p]) σV H ⟨s.σ, s.h ++ [d]⟩ := by
  have k : Kp F M H F (M ++ [p]) H := ⟨fun a o h n => ⟨h, n⟩, fun a xs h => h, fun i q h => by
    rw [List.getElem?_append_left (List.getElem?_eq_some_iff.mp h).1]; exact h⟩
  refine ⟨R.len, fun i d n h => ?_, fun i d n h => ?_, R.dis, by show (M ++ [p]).length = (s.h ++ [d]).length; rw [List.length_append, List.length_append, R.ml]; rfl, ?_, fun i q e h1 h2 => ?_, R.ft⟩
  · obtain ⟨v, e1, e2⟩ := R.val i d n h
    exact ⟨v, e1, e2.keep k⟩
  · obtain ⟨q, e1, e2, e3, e4⟩ := R.ownd i d n h
    refine ⟨q, e1, e2.keep k fun o z => z, e3, fun z => ?_⟩
    rcases List.mem_append.mp z with z | z
    · exact e4 z
    · rw [List.mem_singleton] at z
      exact op ⟨i, n, by rw [← z]; exact e1, d, h⟩
  · refine List.nodup_append.mpr ⟨R.nd, by simp, fun x hx y hy z => ?_⟩
    rw [List.mem_singleton] at hy
    exact mp (by rw [← hy, ← z]; exact hx)
  · have h2 : (s.h ++ [d])[i]? = some e := h2
    by_cases hi : i < M.length
    · rw [List.getElem?_append_left hi] at h1
      rw [List.getElem?_append_left (by rw [← R.ml]; exact hi)] at h2
      obtain ⟨e1, e2⟩ := R.obj i q e h1 h2
      exact ⟨e1.keep k fun o z => z, e2⟩
    · rw [List.getElem?_append_right (by omega)] at h1
      rw [List.getElem?_append_right (by rw [← R.ml]; omega)] at h2
      rw [← R.ml] at h2
      cases e0 : i - M.length with
      | zero =>
        rw [e0] at h1 h2
        cases h1; cases h2
        exact ⟨oc.keep k fun o z => z, fp⟩
      | succ n => rw [e0] at h1; cases h1
theorem s_obj (i : Nat) {x : Str} {px : Pos} (hN : X.N.Nodup) (h : PXF X own e te de) (hi : i ∉ own := by decide) (hx : X.N[i]? = some x := by rfl) (hl : Loc X.env.scope x := by first | exact Or.inl rfl | exact Or.inr rfl)
    (hs : swapsWith e (some (.Name x px)) pos.line X.env = pure false := by rfl) (hf : X.fn x = true ∨ X.env.scope.names.lookup x = some .local := by first | exact .inl rfl | exact .inr rfl) : PXS X own fr (.Assign [.Name x px] e pos) (tAsg te (gName i)) (sObj i de) :=
  ⟨ps_set hN hx hl h.pe hs hf, fun F M σV H s o s' R q D post => by
    unfold sObj at q
    split at q
    case h_2 => cases q
    rename_i r h1 q1
    cases q
    refine h.ad F M σV H s r h1 R q1 _ fun F1 M1 H1 p R1 E1 hp fp mp op oc => ?_
    have R2 := R1.adopt fp mp op oc
    have R3 : SR X.K own F1 (M1 ++ [p]) (σV.set i (some (.ref p))) H1 ⟨s.σ.set i (some (.obj h1.length)), h1 ++ [r]⟩ := SR.put (s := ⟨s.σ, h1 ++ [r]⟩) R2 hi (.obj (by rw [List.getElem?_append_right (by rw [R1.ml]; exact Nat.le_refl _), R1.ml, Nat.sub_self]; rfl))
    refine post F1 (M1 ++ [p]) _ H1 R3 ?_
    have eO : Ow own (σV.set i (some (.ref p))) (s.σ.set i (some (.obj h1.length))) = Ow own σV s.σ := by funext a; exact propext (ow_set hi)
    rw [eO]
    refine ⟨fun a u h m n => ?_, E1.gr, fun j q h => ?_⟩
    · obtain ⟨g1, g2, g3, g4⟩ := E1.keep a u h m n
      refine ⟨g1, fun z => ?_, g3, g4⟩
      rcases List.mem_append.mp z with z | z
      · exact g2 z
      · rw [List.mem_singleton] at z
        rw [z, hp] at h; cases h
    · have g := E1.m j q h
      rw [List.getElem?_append_left (List.getElem?_eq_some_iff.mp g).1]
      exact g⟩
/-- a changeable object is changed -/
theorem SR.chgO {F : Addr → Prop} {M : List Addr} {H : Hp} {σV : St} {s : S} {n : Nat} {p : Addr} {d d' : D} {o : HO} (R : SR K own F M σV H s) (hm : M[n]? = some p) (hd : s.h[n]? = some d) (hn : OwnC K F M (upd H p o) p d') : SR K own F M σV (upd H p o) ⟨s.σ, s.h.set n d'⟩ ∧ EE F M (Ow own σV s.σ) H F M (Ow own σV s.σ) (upd H p o) := by
  obtain ⟨oc, hF⟩ := R.obj n p d hm hd
  have hM : p ∈ M := List.mem_of_getElem? hm
  have k : Kp F M H F M (upd H p o) := kp_chg hF oc.mut
  refine ⟨⟨R.len, fun j e m h => ?_, fun j e m h => ?_, R.dis, by show M.length = (s.h.set n d').length; rw [List.length_set]; exact R.ml, R.nd, fun j q e h1 h2 => ?_, fun a h => ?_⟩, fun a u h m x => ?_, fun a u h => ?_, fun _ _ h => h⟩
  · obtain ⟨v, e1, e2⟩ := R.val j e m h
    exact ⟨v, e1, e2.keep k⟩
  · obtain ⟨q, e1, e2, e3, e4⟩ := R.ownd j e m h
    have : q ≠ p := fun z => e4 (by rw [z]; exact hM)
    exact ⟨q, e1, e2.keep k fun o' w => by rw [upd_ne this]; exact w, e3, e4⟩
  · have h2 : (s.h.set n d')[j]? = some e := h2
    by_cases z : n = j
    · subst z
      rw [hm] at h1
      cases h1
      rw [List.getElem?_set_self (List.getElem?_eq_some_iff.mp hd).1] at h2
      cases h2
      exact ⟨hn, hF⟩
    · rw [List.getElem?_set_ne z] at h2
      obtain ⟨e1, e2⟩ := R.obj j q e h1 h2
      have : q ≠ p := fun w => z ((List.getElem?_inj (List.getElem?_eq_some_iff.mp hm).1 R.nd).mp (by rw [hm, h1, w]))
      exact ⟨e1.keep k fun o' w => by rw [upd_ne this]; exact w, e2⟩
  · by_cases z : a = p
    · subst z; exact ⟨_, upd_same⟩
    · obtain ⟨u, hu⟩ := R.ft a h
      exact ⟨u, by rw [upd_ne z]; exact hu⟩
  · have : a ≠ p := fun z => m (by rw [z]; exact hM)
    exact ⟨by rw [upd_ne this]; exact h, m, x, Iff.rfl⟩
  · by_cases z : a = p
    · subst z; exact ⟨_, upd_same⟩
    · exact ⟨u, by rw [upd_ne z]; exact h⟩
/-- o[k] = e, o a changeable dict -/
def sPutO (de : DE) (oa : DE) (dk : DE) : DS := fun s => match de s with
  | .ok (v, h1) => match oa ⟨s.σ, h1⟩ with
    | .ok (.obj n, h2) => match dk ⟨s.σ, h2⟩ with
      | .ok (y, h3) => match h3[n]?, toKey y with
        | some (.dic kvs), some k => if kvs.length < sizeLine then .ok (.nx, ⟨s.σ, h3.set n (.dic (dPut kvs k v))⟩) else .error .stuck
        | _, _ => .error .stuck
      | .error e => .error e
    | .ok _ => .error .stuck
    | .error e => .error e
  | .error e => .error e
theorem s_putO (hu : X.A.units + 1 < cLine) (ho : PX X own a ta da) (hk : PX X own f tf df) (hv : PX X own e te de) (hs : swapsWith e (some (.Subscript a f pos')) pos.line X.env = pure false := by rfl) : PXS X own fr (.Assign [.Subscript a f pos'] e pos) (sDPut ta tf te) (sPutO de da df) := ⟨ps_dput hu ho.pe hk.pe hv.pe hs, fun F M σV H s o s' R q D post => by
  unfold sPutO at q
  split at q
  case h_2 => cases q
  rename_i v h1 q1
  split at q
  · rename_i n h2 q2
    split at q
    case h_2 => cases q
    rename_i y h3 q3
    split at q
    · rename_i kvs k e1 e2
      split at q
      · rename_i hz
        cases q
        refine hv.ad F M σV H s v h1 R q1 _ fun F1 M1 H1 w1 R1 E1 r1 => ?_
        refine ho.ad F1 M1 σV H1 _ _ h2 R1 q2 _ fun F2 M2 H2 w2 R2 E2 r2 => ?_
        refine hk.ad F2 M2 σV H2 _ y h3 R2 q3 _ fun F3 M3 H3 w3 R3 E3 r3 => ?_
        have r2' := r2.keep (R2.kp E3)
        cases r2' with
        | @obj p _ hm =>
        obtain ⟨oc, hF⟩ := R3.obj n p _ hm e1
        obtain ⟨vs, hp, rl, zl⟩ := oc
        have kp : Kp F3 M3 H3 F3 M3 (upd H3 p (.dK (putK vs k w1))) := kp_chg hF fun xs hx => by rcases hx with hx | ⟨_, hx⟩ <;> rw [hp] at hx <;> cases hx
        have ek := key_of (RepC.of r3) e2
        subst ek
        obtain ⟨R4, E4⟩ := R3.chgO (d' := .dic (dPut kvs k v)) (o := .dK (putK vs k w1)) hm e1 ⟨_, upd_same, (rl.put k ((r1.keep (R1.kp E2)).keep (R2.kp E3))).keep kp, Nat.le_trans (dPut_len kvs k v) hz⟩
        exact ⟨p, _, rfl, DPut.k hp (by rw [rl.len]; exact hz), post F3 M3 σV _ R4 (((E1.trans E2).trans E3).trans E4)⟩
      · cases q
    · cases q
  · cases q
  · cases q⟩
end
end Kr

namespace Kr
open PySem PySem.Spec L2
open PyProof.Rows hiding St

/-! ### sorted: texts, ints -/
def leS (a b : Str) : Prop := a.cps.toList ≤ b.cps.toList
theorem leS_trans {a b c : Str} (h : leS a b) (h2 : leS b c) : leS a c := List.le_trans h h2
theorem leS_anti {a b : Str} (h : leS a b) (h2 : leS b a) : a = b := by
  have e := List.le_antisymm h h2
  obtain ⟨⟨x⟩⟩ := a
  obtain ⟨⟨y⟩⟩ := b
  have e : x = y := e
  rw [e]
theorem lt_leS {a b : Str} (h : ltCps a.cps.toList b.cps.toList = true) : leS a b := by
  rw [ltCps_eq] at h
  exact List.le_of_lt (of_decide_eq_true h)
theorem nlt_leS {a b : Str} (h : ltCps b.cps.toList a.cps.toList = false) : leS a b := by
  rw [ltCps_eq] at h
  exact List.not_lt.mp (of_decide_eq_false h)
def insS (x : Str) : List Str → List Str
  | [] => [x]
  | y :: r => if ltCps y.cps.toList x.cps.toList = true then y :: insS x r else x :: y :: r
def sortS : List Str → List Str
  | [] => []
  | x :: r => insS x (sortS r)
theorem insS_perm (x : Str) : ∀ l, (insS x l).Perm (x :: l)
  | [] => List.Perm.refl _
  | y :: r => by
    unfold insS
    split
    · exact ((insS_perm x r).cons y).trans (List.Perm.swap ..)
    · exact List.Perm.refl _
theorem sortS_perm : ∀ l, (sortS l).Perm l
  | [] => List.Perm.refl _
  | x :: r => (insS_perm x _).trans ((sortS_perm r).cons x)
theorem insS_pw (x : Str) : ∀ l, l.Pairwise leS → (insS x l).Pairwise leS
  | [], _ => by simp [insS]
  | y :: r, h => by
    rw [List.pairwise_cons] at h
    unfold insS
    split
    · rename_i hl
      rw [List.pairwise_cons]
      refine ⟨fun z hz => ?_, insS_pw x r h.2⟩
      rcases List.mem_cons.mp ((insS_perm x r).mem_iff.mp hz) with rfl | hz
      · exact lt_leS hl
      · exact h.1 z hz
    · rename_i hl
      have hxy : leS x y := nlt_leS (by simpa using hl)
      rw [List.pairwise_cons]
      refine ⟨fun z hz => ?_, List.pairwise_cons.mpr h⟩
      rcases List.mem_cons.mp hz with rfl | hz
      · exact hxy
      · exact leS_trans hxy (h.1 z hz)
theorem sortS_pw : ∀ l, (sortS l).Pairwise leS
  | [] => .nil
  | x :: r => insS_pw x _ (sortS_pw r)
theorem rising_pw : ∀ (l : List Str) (p : Str), risingS p l = true → (p :: l).Pairwise leS
  | [], p, _ => List.pairwise_singleton ..
  | x :: r, p, h => by
    have h' : (!ltCps x.cps.toList p.cps.toList && risingS x r) = true := h
    rw [Bool.and_eq_true, Bool.not_eq_true'] at h'
    have ih := rising_pw r x h'.2
    rw [List.pairwise_cons]
    refine ⟨fun z hz => ?_, ih⟩
    rcases List.mem_cons.mp hz with rfl | hz
    · exact nlt_leS h'.1
    · exact leS_trans (nlt_leS h'.1) ((List.pairwise_cons.mp ih).1 z hz)
theorem sorted_pw : ∀ (l : List Str), sortedS l = true → l.Pairwise leS
  | [], _ => .nil
  | x :: r, h => rising_pw r x h
theorem sortS_eq {ys xs : List Str} (p : ys.Perm xs) (h : ys.Pairwise leS) : ys = sortS xs :=
  List.Perm.eq_of_pairwise (fun a b _ _ => leS_anti) h (sortS_pw xs) (p.trans (sortS_perm xs).symm)
def insI (x : Int) : List Int → List Int
  | [] => [x]
  | y :: r => if y < x then y :: insI x r else x :: y :: r
def sortI : List Int → List Int
  | [] => []
  | x :: r => insI x (sortI r)
theorem insI_perm (x : Int) : ∀ l, (insI x l).Perm (x :: l)
  | [] => List.Perm.refl _
  | y :: r => by
    unfold insI
    split
    · exact ((insI_perm x r).cons y).trans (List.Perm.swap ..)
    · exact List.Perm.refl _
theorem sortI_perm : ∀ l, (sortI l).Perm l
  | [] => List.Perm.refl _
  | x :: r => (insI_perm x _).trans ((sortI_perm r).cons x)
theorem insI_pw (x : Int) : ∀ l, l.Pairwise (· ≤ ·) → (insI x l).Pairwise (· ≤ ·)
  | [], _ => by simp [insI]
  | y :: r, h => by
    rw [List.pairwise_cons] at h
    unfold insI
    split
    · rename_i hl
      rw [List.pairwise_cons]
      refine ⟨fun z hz => ?_, insI_pw x r h.2⟩
      rcases List.mem_cons.mp ((insI_perm x r).mem_iff.mp hz) with rfl | hz
      · omega
      · exact h.1 z hz
    · rename_i hl
      rw [List.pairwise_cons]
      refine ⟨fun z hz => ?_, List.pairwise_cons.mpr h⟩
      rcases List.mem_cons.mp hz with rfl | hz
      · omega
      · have := h.1 z hz; omega
theorem sortI_pw : ∀ l, (sortI l).Pairwise (· ≤ ·)
  | [] => .nil
  | x :: r => insI_pw x _ (sortI_pw r)
theorem sortI_eq {ys xs : List Int} (p : ys.Perm xs) (h : ys.Pairwise (· ≤ ·)) : ys = sortI xs :=
  List.Perm.eq_of_pairwise (fun a b _ _ h1 h2 => by omega) h (sortI_pw xs) (p.trans (sortI_perm xs).symm)
def keysS : List (Key × D) → Option (List Str)
  | [] => some []
  | (.inr x, _) :: r => (keysS r).map (x :: ·)
  | _ => none
def gSorted : List D → Option D
  | [.lst xs] => match asStrs xs with
    | some ns => bd (ns.length < 64) (.lst ((sortS ns).map .str))
    | none => (asInts xs).map fun ns => .lst ((sortI ns).map .int)
  | [.dic kvs] => match keysS kvs with
    | some ns => bd (ns.length < 64) (.lst ((sortS ns).map .str))
    | none => none
  | _ => none
section
variable {K : PySem.W.Frag} {X : Cx}
def rSortDk : List V → Hp → VK → Prop := fun xs H Q => ∃ (a : Addr) (kvs : List (Key × V)) (ks : List Str), xs = [.ref a] ∧ Rd H a (.dK kvs) ∧ kvs.map (·.1) = ks.map Sum.inr ∧ ks.length < 64 ∧ ∀ ys p, ys.Perm ks → sortedS ys = true → H p = none → Q (.ref p) (upd H p (.lst (ys.map V.str)))
def rSortA (K : PySem.W.Frag) : List V → Hp → VK → Prop := fun xs H Q => (rSortedS K xs H Q ∨ rSortedI K xs H Q) ∨ rSortDk xs H Q
theorem cr_sortA (hc : X.calm = true) : CallR X (.builtin "sorted") (rSortA X.K) := CallR.or (CallR.or cr_sortedS cr_sortedI) (call_sortedD hc)
theorem keysS_eq {F : Addr → Prop} {M : List Addr} {H : Hp} : ∀ {vs : List (Key × V)} {ds : List (Key × D)} {ns : List Str}, RepK K F M H vs ds → keysS ds = some ns → vs.map (·.1) = ns.map Sum.inr
  | _, _, _, .nil, h => by cases h; rfl
  | (.inr x, _) :: _, _, ns, .cons r t, h => by
    unfold keysS at h
    cases e : keysS _ with
    | none => rw [e] at h; cases h
    | some l => rw [e] at h; cases h; rw [List.map_cons, keysS_eq t e]; rfl
  | (.inl x, _) :: _, _, ns, .cons r t, h => nomatch h
theorem g_sortA : OpNF K (rSortA K) gSorted := by
  intro F M H vs ds z Q r hg q
  unfold gSorted at hg
  split at hg
  · rename_i xs
    obtain ⟨v, rfl, a, vs, rfl, hs, r, hz⟩ := r.one
    split at hg
    · rename_i ns hns
      obtain ⟨h64, rfl⟩ := bd_ok hg
      have e := asStrs_eq hns
      subst e
      rw [r.strs] at hs
      refine .inl (.inl ⟨a, ns, rfl, .inl hs, h64, fun ys p hp hsd np => ?_⟩)
      rw [sortS_eq hp (sorted_pw ys hsd)]
      refine q p _ np ⟨_, rfl, RepL.ofStrs _, ?_⟩
      rw [List.length_map, (sortS_perm ns).length_eq, sizeLine_eq]
      omega
    · cases hi : asInts xs with
      | none => rw [hi] at hg; cases hg
      | some ns =>
        rw [hi] at hg
        cases hg
        have e := asInts_eq hi
        subst e
        rw [r.ints] at hs
        refine .inl (.inr ⟨a, ns, rfl, .inl hs, fun ys p hp hsd np => ?_⟩)
        rw [sortI_eq hp hsd]
        refine q p _ np ⟨_, rfl, RepL.ofInts _, ?_⟩
        rw [List.length_map, (sortI_perm ns).length_eq]
        rw [List.length_map] at hz
        exact hz
  · rename_i kvs
    obtain ⟨v, rfl, a, vs, rfl, hs, r, hz⟩ := r.one
    split at hg
    · rename_i ns hns
      obtain ⟨h64, rfl⟩ := bd_ok hg
      refine .inr ⟨a, vs, ns, rfl, hs, keysS_eq r hns, h64, fun ys p hp hsd np => ?_⟩
      rw [sortS_eq hp (sorted_pw ys hsd)]
      refine q p _ np ⟨_, rfl, RepL.ofStrs _, ?_⟩
      rw [List.length_map, (sortS_perm ns).length_eq, sizeLine_eq]
      omega
    · cases hg
  · cases hg
theorem OpNF.n {r : List V → Hp → VK → Prop} {g : List D → Option D} (h : OpNF K r g) : OpN K r g := by
  intro F M H vs ds z Q ft rc hg q
  refine h F M H vs ds z Q rc hg fun p o hp ho => q _ _ (same_upd hp) (ho.val hp fun z => ?_)
  obtain ⟨o, ho⟩ := ft p z
  rw [hp] at ho; cases ho
end
end Kr

namespace Kr
open PySem PySem.Spec L2
open PyProof.Rows hiding St

/-! ### enumerate(list), enumerate(tuple) -/
set_option maxHeartbeats 1000000 in
theorem meets_enumerate_new1 {v : Value} {o : Obj} {H : Heap → Prop} (B : Begins v o H) :
    Meets (Builtin.«enumerate.__new__» ⟨[.type "enumerate", v], []⟩) (fun _ R s => H s.heap ∧
      R (.ok (.ret (.ref (s.heap.push o).objs.size))) { s with heap := (s.heap.push o).push { cls := .type "enumerate", data := .fields #[.none, .bool false, .ref s.heap.objs.size, rawInt 0, .none, .none] } }) :=
  .of_wp fun prog w A R s h => by
    obtain ⟨hp, g, d, tk, os⟩ := s; obtain ⟨h1, h⟩ := h
    have hsub := sub_enumerate
    have q1 : ∀ {A' : Around} {E : Value → Shared → Prop} {Q : Value → Shared → Prop}, Q (.ref hp.objs.size) ⟨hp.push o, g, d, tk, os⟩ → wpAny (model prog w) A' (pyIter v) Q E ⟨hp, g, d, tk, os⟩ :=
      fun q => B.iter prog w _ _ ⟨hp, g, d, tk, os⟩ _ h1 q
    wp_walk using q1
    refine wpAny_stack_any fun st => wpAny_pure ?_
    split
    · rename_i c _ _ _ _ _
      cases (c == Value.type "enumerate")
      · wp_walk using q1
        exact ⟨_, rfl, h⟩
      · wp_walk using q1
        exact ⟨_, rfl, h⟩
    · wp_walk using q1
      exact ⟨_, rfl, h⟩
section
variable {prog : Program} {w : World} {A : Around} {E : Value → Shared → Prop} {s : Shared}
theorem enum_begins1 {v : Value} {o : Obj} {H : Heap → Prop} {Q : Value → Shared → Prop} (B : Begins v o H) (h1 : H s.heap)
    (h : ∀ h', IsEnum h' (s.heap.objs.size + 1) s.heap.objs.size 0 .none → h'.get? s.heap.objs.size = some o → h'.objs.size = s.heap.objs.size + 2 →
      (∀ b o, s.heap.get? b = some o → h'.get? b = some o) → Q (.ref (s.heap.objs.size + 1)) { s with heap := h' }) :
    wpAny (model prog w) A (call (.type "enumerate") [v]) Q E s := by
  refine callType_new F.called_enumerate (by decide) (F.typeCall_enumerate_1 _) (F.newCall_enumerate_1 _) (fun obj => F.args_object_init_2 obj _) F.entry_enumerate_new
    (meets_enumerate_new1 B) ⟨h1, ?_⟩
  have hz : (s.heap.push o).objs.size = s.heap.objs.size + 1 := Heap.size_push ..
  show _ ∧ _
  rw [hz]
  have he : IsEnum ((s.heap.push o).push { cls := .type "enumerate", data := .fields #[.none, .bool false, .ref s.heap.objs.size, rawInt 0, .none, .none] }) (s.heap.objs.size + 1) s.heap.objs.size 0 .none := by
    have := Heap.get?_push_size (s.heap.push o) (o := { cls := .type "enumerate", data := .fields #[.none, .bool false, .ref s.heap.objs.size, rawInt 0, .none, .none] }) rfl
    rw [hz] at this; exact this
  refine ⟨⟨_, he, rfl⟩, h _ he (Heap.get?_push_of_some _ (Heap.get?_push_size _ B.free)) (by rw [Heap.size_push, hz]) fun b o x => Heap.get?_push_of_some _ (Heap.get?_push_of_some _ x)⟩
end
theorem drawsEnd {prog : Program} {w : World} {A : Around} (hh : A.handled = none) (it a : Addr) (i : Nat) (its : Array Value) (hx : its[i]? = none) : Draws prog w A it [it, a] i (fun _ _ => False) (fun j h => j = i ∧ h.IsTupleIter it a i ∧ h.IsTuple a its) where
  live := fun _ _ st => let ⟨o, ho, _⟩ := st.2.1; ⟨o, ho⟩
  frame := fun _ _ _ st hk => ⟨st.1, st.2.1.at fun o e => hk it (by simp) o e, st.2.2.at fun o e => hk a (by simp) o e⟩
  item := fun j s Q E hi st hQ => absurd st.1 (Nat.ne_of_lt hi)
  done := fun s Q E st hE => wpAny_nextOf_tuple_end hh st.2.1 st.2.2 hx hE
/-- the tuple at a, each item in a new pair -/
def Itet (K : PySem.W.Frag) (a : Addr) : It :=
  ⟨fun i H => ∃ (xs : List V) (x : V), SqT K H a xs ∧ xs[i]? = some x, fun i H v H' => ∃ T x, v = .ref T ∧ H T = none ∧ H' = upd H T (.tup [.int (i : Nat), x]) ∧ ∀ xs, SqT K H a xs → xs[i]? = some x, fun i H => ∃ xs : List V, SqT K H a xs ∧ xs.length ≤ i⟩
theorem turn_enumT {P : Program} {w : World} {K : PySem.W.Frag} {elts : List Expr} {kk : Nat} {tpos : Pos} (a e it : Addr) (hta : a ≠ it) (hea : e ≠ a) :
    Turn P w K (.Tuple elts kk tpos) (Itet K a) [e, it] e (fun i h => (∃ old, IsEnum h e it ((i : Nat) : Int) old) ∧ h.IsTupleIter it a i ∧ e ≠ it) where
  mem := by simp
  obj := fun i h st b hb => by
    obtain ⟨⟨old, he⟩, ⟨o, ho, hc, hd⟩, _⟩ := st
    have e' : b = e ∨ b = it := by simpa using hb
    rcases e' with z | z
    · rw [z]; exact ⟨_, he, fun v q => nomatch q⟩
    · rw [z]; exact ⟨o, ho, fun v q => by rw [hd] at q; cases q⟩
  keep := fun i h h' st k => let ⟨⟨old, he⟩, hi, hne⟩ := st; ⟨⟨old, k e (by simp) _ he⟩, hi.at fun o q => k it (by simp) o q, hne⟩
  item := by
    intro X hP hw hK hc i pins s σ H E I hf st hg
    subst hP hw hK
    obtain ⟨⟨old, he⟩, hit, hne⟩ := st
    obtain ⟨xs, x, hq, hx⟩ := hg
    obtain ⟨its, rv, p, hz⟩ := I.tuple hq
    obtain ⟨u, hu, ru⟩ := rv.get hx
    have hel : e < s.heap.objs.size := Heap.lt_size he
    have hil : it < s.heap.objs.size := by obtain ⟨_, q, _⟩ := hit; exact Heap.lt_size q
    have hd := I.ok.hd hc
    have p : s.heap.IsTuple a its.toArray := p
    have hlt : i < its.toArray.size := by
      obtain ⟨h, _⟩ := List.getElem?_eq_some_iff.mp hu
      simpa using h
    refine wpAny_pyNext_enum_itemD (Draws.tuple (A := X.A.in1) hd it a hta its.toArray) he ⟨hit, p⟩ hlt hne (by simp [hne, hea]) fun y h' tk hy ho st' hT hsz hk => ?_
    obtain ⟨hit', -⟩ := st'
    have hy : its.toArray[i]? = some y := hy
    have : y = u := by
      have : its[i]? = some y := by simpa using hy
      rw [this] at hu; cases hu; rfl
    subst this
    refine ⟨_, rfl, wpAny_letOwnedTupleGo_enum (s := { s with heap := h', toks := tk + 1 }) ho fun h'' he' sb => ?_⟩
    have hT2 : h''.get? s.heap.objs.size = some { cls := .type "tuple", data := .seq #[.int i tk, y] } := (sb.2 _ (Nat.ne_of_gt hel)).trans hT
    have new : ObjOk X.prog X.w (upd H s.heap.objs.size (.tup [.int (i : Nat), x])) h'' s.heap.objs.size (.tup [.int (i : Nat), x]) :=
      ⟨by show 2 ≤ sizeLine; decide, [.int i tk, y], .cons ⟨_, rfl⟩ (.cons ru .nil), ⟨_, hT2, rfl, _, rfl⟩⟩
    have I1 : Inv X pins σ (upd H s.heap.objs.size (.tup [.int (i : Nat), x])) { s with heap := h'', toks := tk + 1 } :=
      I.turnedNew (ch := [e, it]) (fun b ob hb q => (sb.2 b (fun z => hb (by simp [z]))).trans (hk b ob (fun z => hb (by simp [z])) (fun z => hb (by simp [z])) q)) hf (Nat.le_refl _) new
    refine ⟨.ref s.heap.objs.size, _, I1, rfl, ⟨_, x, rfl, I.hok.fresh (Nat.le_refl _), rfl, fun ys hy => by rw [I.tuple_inj hy hq]; exact hx⟩, ⟨⟨y, ?_⟩, hit'.at fun o q => (sb.2 it (Ne.symm hne)).trans q, hne⟩, fun b hb => ?_⟩
    · have e1 : ((i + 1 : Nat) : Int) = (i : Int) + 1 := by omega
      rw [e1]; exact he'
    · have hb' : b < s.heap.objs.size := by
        have e' : b = e ∨ b = it := by simpa using hb
        rcases e' with z | z
        · rw [z]; exact hel
        · rw [z]; exact hil
      rw [upd_ne (Nat.ne_of_lt hb')]
      exact (hf b hb).1
  done := by
    intro X hP hw hK hc i pins s σ H E I hf st hg
    subst hP hw hK
    obtain ⟨⟨old, he⟩, hit, hne⟩ := st
    obtain ⟨xs, hq, hx⟩ := hg
    obtain ⟨its, rv, p, hz⟩ := I.tuple hq
    obtain ⟨f0, f1, f2, f3, f4, f5⟩ := hf it (by simp)
    have hl := rv.length
    have hd := I.ok.hd hc
    have p : s.heap.IsTuple a its.toArray := p
    exact wpAny_pyNext_enum_endD (drawsEnd (A := X.A.in1) hd it a i its.toArray (by simp; omega)) he ⟨rfl, hit, p⟩ fun h' eb => ⟨rfl, I.turned (t' := s.toks) (fun b o hb q => eb b o hb q) f0 f1 f3 f4 f5⟩
  self := fun A i s Q E st h => let ⟨⟨_, he⟩, _⟩ := st; wpAny_pyIter_enum he h
def iEnumA (K : PySem.W.Frag) (ta : TA) : TI := fun σ H R => ta σ H fun vs H1 => ∃ a, vs = [.ref a] ∧ ((∃ xs, SqL K H1 a xs ∧ R (Ite K a) H1) ∨ ∃ xs, SqT K H1 a xs ∧ R (Itet K a) H1)
def enumL (n : Nat) : List D → List D
  | [] => []
  | d :: ds => D.tup [.int (n : Int), d] :: enumL (n + 1) ds
theorem enumL_len (ds : List D) : ∀ n, (enumL n ds).length = ds.length := by
  induction ds with
  | nil => exact fun _ => rfl
  | cons d ds ih => exact fun n => congrArg (· + 1) (ih (n + 1))
theorem enumL_get (ds : List D) : ∀ (n i : Nat) (x : D), (enumL n ds)[i]? = some x → ∃ d, ds[i]? = some d ∧ x = D.tup [.int ((n + i : Nat) : Int), d] := by
  induction ds with
  | nil => intro n i x h; cases h
  | cons d ds ih =>
    intro n i x h
    cases i with
    | zero => cases h; exact ⟨d, rfl, rfl⟩
    | succ i =>
      obtain ⟨d', e1, e2⟩ := ih (n + 1) i x h
      exact ⟨d', e1, by rw [e2, show n + 1 + i = n + (i + 1) by omega]⟩
def iEnumD (d : DE) : DA := bnd d fun x => opt (match x with
  | .tup xs => some (enumL 0 xs)
  | .lst xs => some (enumL 0 xs)
  | .scr xs => some (enumL 0 (xs.map .int))
  | _ => none)
section
variable {K : PySem.W.Frag} {X : Cx} {own : List Nat} {e : Expr} {t : TE} {d : DE} {p pos tpos : Pos} {elts : List Expr} {kk : Nat}
theorem pi_enumA {ta : TA} (hg : Gl X "enumerate") (hm : X.mg "enumerate" = none) (ha : PA X [e] ta) (hs : starEach [e] X.env = [(false, eval e X.env)] := by rfl) :
    PI X (.Tuple elts kk tpos) (.Call (.Name "enumerate" p) [e] [] pos) (iEnumA X.K ta) := by
  refine ⟨fun pins s σ H R I h => ?_⟩
  refine Call_ (ld_blt I hg hm boot_enumerate (PyProof.Rows.callWith_type1 (thn (ha.run pos pins s σ H _ I h) fun us s1 ⟨vs, H1, I1, r1, q1⟩ => ?_) hs rfl))
  obtain ⟨a, ev, q⟩ := q1
  subst ev
  cases r1 with
  | cons r rr =>
    cases rr
    cases r
    rcases q with ⟨xs, hq, q⟩ | ⟨xs, hq, q⟩
    · obtain ⟨its, rv, p', hz⟩ := I1.list hq
      refine call_enumerate_list p'.isList fun h' he hit hsz hk => wpAny_pyIter_enum he ?_
      have I2 : Inv X pins σ H1 { s1 with heap := h' } := I1.kept (t' := s1.toks) hk
      refine ⟨s1.heap.objs.size + 1, [s1.heap.objs.size + 1, s1.heap.objs.size], _, _, H1, rfl, I2, turn_enum a (s1.heap.objs.size + 1) s1.heap.objs.size, ⟨⟨.none, he⟩, hit, Nat.succ_ne_self _⟩, fun b hb => ?_, q⟩
      have e' : b = s1.heap.objs.size + 1 ∨ b = s1.heap.objs.size := by simpa using hb
      have hle : s1.heap.objs.size ≤ b := by
        rcases e' with z | z
        · rw [z]; exact Nat.le_add_right _ _
        · rw [z]; exact Nat.le_refl _
      exact I1.fpOk hle (I1.hok.fresh hle)
    · obtain ⟨its, rv, p', hz⟩ := I1.tuple hq
      have p' : s1.heap.IsTuple a its.toArray := p'
      have hal : a < s1.heap.objs.size := by obtain ⟨o, ho, _⟩ := p'; exact Heap.lt_size ho
      refine enum_begins1 (begins_tuple a its.toArray) p' fun h' he hit hsz hk => wpAny_pyIter_enum he ?_
      have I2 : Inv X pins σ H1 { s1 with heap := h' } := I1.kept (t' := s1.toks) hk
      refine ⟨s1.heap.objs.size + 1, [s1.heap.objs.size + 1, s1.heap.objs.size], _, _, H1, rfl, I2, turn_enumT a (s1.heap.objs.size + 1) s1.heap.objs.size (Nat.ne_of_lt hal) (Nat.ne_of_gt (Nat.lt_succ_of_lt hal)), ⟨⟨.none, he⟩, ⟨_, hit, rfl, rfl⟩, Nat.succ_ne_self _⟩, fun b hb => ?_, q⟩
      have e' : b = s1.heap.objs.size + 1 ∨ b = s1.heap.objs.size := by simpa using hb
      have hle : s1.heap.objs.size ≤ b := by
        rcases e' with z | z
        · rw [z]; exact Nat.le_add_right _ _
        · rw [z]; exact Nat.le_refl _
      exact I1.fpOk hle (I1.hok.fresh hle)
theorem wk_enumL {F : Addr → Prop} {M : List Addr} {H : Hp} {a : Addr} {vs : List V} {ds : List D} (h : ∀ (F2 : Addr → Prop) (M2 : List Addr) (H2 : Hp), Kp F M H F2 M2 H2 → SqL K H2 a vs) (r : RepL K F M H vs ds) : Wk K F M H (Ite K a) (enumL 0 ds) := by
  intro F2 M2 H2 k i
  have hs := h F2 M2 H2 k
  have r2 := r.keep k
  refine ⟨fun d hd => ?_, fun hl => ⟨vs, hs, by rw [r.len, ← enumL_len ds 0]; exact hl⟩⟩
  obtain ⟨d', e0, rfl⟩ := enumL_get ds 0 i d hd
  obtain ⟨v, e1, e2⟩ := r2.get e0
  refine ⟨⟨vs, v, hs, e1⟩, fun x H3 y => ?_⟩
  obtain ⟨T, x', rfl, hT, rfl, y⟩ := y
  have := y vs hs
  rw [e1] at this
  cases this
  have sm : Same H2 (upd H2 T (.tup [.int (i : Nat), v])) := same_upd hT
  refine ⟨sm, .tup (.inl (.inl upd_same)) (by show 2 ≤ sizeLine; decide) (.cons ?_ (.cons (e2.keep (Kp.same sm)) .nil))⟩
  rw [Nat.zero_add]
  exact .int _
theorem wk_enumT {F : Addr → Prop} {M : List Addr} {H : Hp} {a : Addr} {vs : List V} {ds : List D} (h : SqT K H a vs) (r : RepL K F M H vs ds) : Wk K F M H (Itet K a) (enumL 0 ds) := by
  intro F2 M2 H2 k i
  have hs := k.sqT h
  have r2 := r.keep k
  refine ⟨fun d hd => ?_, fun hl => ⟨vs, hs, by rw [r.len, ← enumL_len ds 0]; exact hl⟩⟩
  obtain ⟨d', e0, rfl⟩ := enumL_get ds 0 i d hd
  obtain ⟨v, e1, e2⟩ := r2.get e0
  refine ⟨⟨vs, v, hs, e1⟩, fun x H3 y => ?_⟩
  obtain ⟨T, x', rfl, hT, rfl, y⟩ := y
  have := y vs hs
  rw [e1] at this
  cases this
  have sm : Same H2 (upd H2 T (.tup [.int (i : Nat), v])) := same_upd hT
  refine ⟨sm, .tup (.inl (.inl upd_same)) (by show 2 ≤ sizeLine; decide) (.cons ?_ (.cons (e2.keep (Kp.same sm)) .nil))⟩
  rw [Nat.zero_add]
  exact .int _
theorem xi_enum {p : Pos} (hm : X.mg "enumerate" = none) (h : PX X own e t d) (hg : Gl X "enumerate" := by rfl) (hs : starEach [e] X.env = [(false, eval e X.env)] := by rfl) : PXI X own (.Tuple elts kk tpos) (.Call (.Name "enumerate" p) [e] [] pos) (iEnumA X.K (tCons t tNil)) (iEnumD d) := ⟨pi_enumA hg hm (pa_cons h.pe pa_nil hs) hs, fun F M σV H s z s' R q Q post => by
  obtain ⟨x, s1, q1, q⟩ := bnd_ok q
  obtain ⟨qa, rfl⟩ := opt_ok q
  refine h.ad F M σV H s x _ R q1 _ fun F1 M1 H1 v R1 E1 r1 => ?_
  cases x with
  | tup xs =>
    cases qa
    cases r1 with
    | @tup a vs _ hs hz r => exact ⟨a, rfl, .inr ⟨vs, hs, post F1 M1 H1 _ R1 E1 (by rw [enumL_len]; exact hz) (wk_enumT hs r)⟩⟩
  | lst xs =>
    cases qa
    cases r1 with
    | @lst a vs _ hs nf hz r => exact ⟨a, rfl, .inl ⟨vs, .inl hs, post F1 M1 H1 _ R1 E1 (by rw [enumL_len]; exact hz) (wk_enumL (fun F2 M2 H2 k => .inl (k.rdd hs nf).1) r)⟩⟩
  | scr ns =>
    cases qa
    cases r1 with
    | @scr a _ hs hz => exact ⟨a, rfl, .inl ⟨_, hs.sq, post F1 M1 H1 _ R1 E1 (by rw [enumL_len, List.length_map]; exact hz) (wk_enumL (fun F2 M2 H2 k => (k.fzL hs).sq) (RepL.ofInts ns))⟩⟩
  | _ => cases qa⟩
end
end Kr

namespace Kr
open PySem PySem.Spec L2 PySem.Froz
open PyProof.Rows hiding St

/-! ### set(texts), a list or a tuple of them -/
/-- the set at a holds the texts l, each once; it can be walked -/
def TS (P : Program) (w : World) (h : Heap) (a : Addr) (l : List Str) : Prop :=
  ∃ D : SD, h.get? a = some (Froz.sObj "set" D) ∧ TxOk P w D l ∧ l.Nodup ∧ Ris D.2.2.place.toList ∧ (w.params.followText "set-order" = true ∨ D.2.2.led = true)
section
variable {P : Program} {w : World} {A : Around} {E : Value → Shared → Prop} {s : Shared} {a : Addr} {l : List Str}
theorem tail_walk {ep : Nat} {es : Array (Int × Value)} {t : SetTable} {b : Bool} (r : Ris t.place.toList) : Ris (tailTx ep es t b).2.2.place.toList ∧ (tailTx ep es t b).2.2.led = t.led := by
  unfold tailTx
  split
  · exact ⟨relayAll_ris .., relayAll_led ..⟩
  · exact ⟨r, rfl⟩
theorem add_walk {hk : Int} {v : Value} {D : SD} (r : Ris D.2.2.place.toList) : Ris (addTx hk v D).2.2.place.toList ∧ (addTx hk v D).2.2.led = D.2.2.led := by
  have r1 := layNew_ris D.2.2 D.1 hk v r
  have l1 := layNew_led D.2.2 D.1 hk v
  unfold addTx
  by_cases c : (layNew D.2.2 D.1 hk v).2.1.plain = true
  · rw [if_pos c]
    have z := tail_walk (ep := D.2.1) (es := (layNew D.2.2 D.1 hk v).1) (t := { (layNew D.2.2 D.1 hk v).2.1 with plain := false }) (b := (layNew D.2.2 D.1 hk v).2.2.1) r1
    exact ⟨z.1, z.2.trans l1⟩
  · rw [if_neg c]
    have z := tail_walk (ep := D.2.1) (es := (layNew D.2.2 D.1 hk v).1) (t := (layNew D.2.2 D.1 hk v).2.1) (b := (layNew D.2.2 D.1 hk v).2.2.1) r1
    exact ⟨z.1, z.2.trans l1⟩
theorem TS.keep {h h' : Heap} (x : TS P w h a l) (k : ∀ o, h.get? a = some o → h'.get? a = some o) : TS P w h' a l :=
  let ⟨D, ho, r⟩ := x
  ⟨D, k _ ho, r⟩
theorem old_x {T : String} {D : SD} {k : Str} {u : Tok} {Q : Bool → Shared → Prop} (ho : s.heap.get? a = some (Froz.sObj T D)) (F : TxOk P w D l) (hk : k ∈ l) (hb : l.length < scanBound)
    (h : Q false s) : wpAny (model P w) A (setAddHashed a (.str k u) (hashStr w k)) Q E s := by
  obtain ⟨es, ep, t⟩ := D
  have hd : (Froz.sObj T (es, ep, t)).data = .set es ep t := rfl
  have hf : t.fits es.size = true := F.fit
  have hel : ElemsOf (strKind P w) es.toList := F.el
  have hsz : es.size = l.length := F.sz
  have hkey : (strKind P w).is k (.str k u) = true := is_str k u
  unfold setAddHashed setAddHashedIn
  refine wpAny_holding (wpAny_bind (wpAny_setState_of ho hd hf ?_))
  dsimp only
  rw [byScan_of rfl (by omega) hel]
  simp only [↓reduceIte]
  unfold setAddByScan
  refine wpAny_bind (wpAny_bind (wpAny_rule (wpAny_bind (wpAny_setScan_of (knd := strKind P w) (k := k) hkey ho hd hf hel ?_))))
  cases hfi : List.findIdx? (fun e => (strKind P w).is k e.2) es.toList with
  | some j => exact wpAny_pure (wpAny_pure h)
  | none =>
    exfalso
    obtain ⟨e, he, q⟩ := (F.mem k).mp hk
    have c := List.findIdx?_eq_none_iff.mp hfi e he
    rw [q] at c
    cases c
/-- the texts met so far, each once, the last first -/
def metS : List Str → List Str → List Str
  | l, [] => l
  | l, x :: r => metS (if x ∈ l then l else x :: l) r
theorem upd_texts {I : Addr} {fp wr : List Addr} {G : Array GenState → Array GenState → Prop} {n : Nat} {Pv : Nat → Value → Prop} {St : Nat → Shared → Prop} {R : Result → Shared → Prop}
    (W : WalksS P w A.in1 I fp wr G n Pv St) (b : Addr) (hbf : b ∉ fp) (xs : List Str) (hn : n = xs.length) (hv : ∀ i v, Pv i v → ∃ k t, xs[i]? = some k ∧ v = .str k t) :
    ∀ (k i : Nat) (s : Shared) (l : List Str), n - i = k → i ≤ n → l.length ≤ i → n + 1 < scanBound → St i s → TS P w s.heap b l →
      (∀ s', Moved (b :: wr) G s s' → TS P w s'.heap b (metS l (xs.drop i)) → R (.ok (.ret .none)) s') →
      codeAny (model P w) A (.builtin "set.update.loop" ⟨[.ref b, .ref I], []⟩) R s := by
  have hbw : b ∉ wr := fun h => hbf (W.sub _ h)
  have sub : ∀ c ∈ wr, c ∈ b :: wr := fun c hc => List.mem_cons_of_mem _ hc
  intro k
  induction k with
  | zero =>
    intro i s l hk hi hl hb st T fin
    obtain rfl : i = n := by omega
    rw [List.drop_eq_nil_of_le (by omega)] at fin
    refine codeAny_builtin F.entry_set_update_loop ?_
    rw [Around.under_plainId F.plain_set_update_loop _]
    show wpAny _ A.in1 (pyNext (.ref I) >>= _) _ _ s
    refine wpAny_bind (W.done s _ _ st fun s' hm => ?_)
    exact wpAny_pure (fin s' (hm.mono sub) (T.keep fun o e => hm.heap b o hbw e))
  | succ k ih =>
    intro i s l hk hi hl hb st T fin
    have hlt : i < n := by omega
    refine codeAny_builtin F.entry_set_update_loop ?_
    rw [Around.under_plainId F.plain_set_update_loop _]
    show wpAny _ A.in1 (pyNext (.ref I) >>= _) _ _ s
    refine wpAny_bind (W.item i s _ _ hlt st fun v s' hP st' hm => ?_)
    obtain ⟨z, t, hz, rfl⟩ := hv i v hP
    have T' : TS P w s'.heap b l := T.keep fun o e => hm.heap b o hbw e
    have hd : xs.drop i = z :: xs.drop (i + 1) := by
      have hi' := (List.getElem?_eq_some_iff.mp hz)
      rw [List.drop_eq_getElem_cons hi'.1, hi'.2]
    rw [hd] at fin
    obtain ⟨D, ho, Fx, nd, r, ld⟩ := T'
    show wpAny _ A.in1 (holding [Value.str z t] (setAdd b (.str z t)) >>= _) _ _ s'
    refine wpAny_bind (wpAny_holding ?_)
    unfold setAdd
    refine wpAny_holding (wpAny_bind ((strKind P w).pyHash (is_str z t) ?_))
    by_cases hm2 : z ∈ l
    · refine old_x (s := { s' with toks := s'.toks + 1 }) (u := t) ho Fx hm2 (by omega) (wpAny_pure ⟨plainId_quiet F.plain_set_update_loop _, ?_⟩)
      refine ih (i + 1) _ l (by omega) hlt (by omega) hb (W.frame _ s' _ _ st' (Nat.le_succ _) fun c _ o e => e) ⟨D, ho, Fx, nd, r, ld⟩ fun s'' hm3 T3 => ?_
      refine fin s'' (Moved.trans W.gtrans ((hm.mono sub).then_heap (Nat.le_succ _) fun c o _ e => e) hm3) ?_
      show TS P w s''.heap b (metS (if z ∈ l then l else z :: l) (xs.drop (i + 1)))
      rw [if_pos hm2]
      exact T3
    · have w1 := add_walk (hk := hashStr w z) (v := .str z t) r
      refine add_x (s := { s' with toks := s'.toks + 1 }) (u := t) ho Fx hm2 (by omega) (wpAny_pure ⟨plainId_quiet F.plain_set_update_loop _, ?_⟩)
      have ho2 := get_upd (Froz.sObj "set" (addTx (hashStr w z) (.str z t) D)) ho rfl
      refine ih (i + 1) _ (z :: l) (by omega) hlt (by simp; omega) hb (W.frame _ s' _ _ st' (Nat.le_succ _) fun c hc o e => ?_) ⟨_, ho2, add_ok t Fx, List.nodup_cons.mpr ⟨hm2, nd⟩, w1.1, ld.imp id fun q => w1.2.trans q⟩ fun s'' hm3 T3 => ?_
      · have hcb : b ≠ c := fun h => hbf (h ▸ hc)
        exact (Heap.get?_update_other _ _ hcb).trans e
      · refine fin s'' (Moved.trans W.gtrans ((hm.mono sub).then_heap (Nat.le_succ _) fun c o hc e => ?_) hm3) ?_
        · have hcb : b ≠ c := fun h => hc (by rw [h]; exact List.mem_cons_self)
          exact (Heap.get?_update_other _ _ hcb).trans e
        · show TS P w s''.heap b (metS (if z ∈ l then l else z :: l) (xs.drop (i + 1)))
          rw [if_neg hm2]
          exact T3
theorem TS.new (hp : Heap) (w : World) : TS P w (hp.push { cls := .type "set", dict := none, data := .set #[] 0 (.fresh 0 0 (!w.params.followText "set-order")) }) hp.objs.size [] :=
  ⟨(#[], 0, .fresh 0 0 (!w.params.followText "set-order")), Heap.get?_push_size _ rfl, TxOk.nil rfl, List.nodup_nil, List.Pairwise.nil, by
    show _ ∨ (!w.params.followText "set-order") = true
    cases w.params.followText "set-order"
    · exact .inr rfl
    · exact .inl rfl⟩
/-- what is gone through: its first cell, its walk -/
structure Src (P : Program) (w : World) (A : Around) (h : Heap) (l : Addr) (ob : Obj) (n : Nat) (Pv : Nat → Value → Prop) : Prop where
  lt : l < h.objs.size
  iter : ∀ (A' : Around) (E : Value → Shared → Prop) (s : Shared) (Q : Value → Shared → Prop), (∀ o, h.get? l = some o → s.heap.get? l = some o) → Q (.ref s.heap.objs.size) { s with heap := s.heap.push ob } → wpAny (model P w) A' (pyIter (.ref l)) Q E s
  walk : ∀ (A' : Around) (I : Addr), A'.handled = none → l ≠ I → ∃ St : Nat → Heap → Prop, Walks P w A' I [I, l] [I] n Pv St ∧ ∀ h' : Heap, (∀ o, h.get? l = some o → h'.get? l = some o) → h'.get? I = some ob → St 0 h'
theorem src_list {l : Addr} {h : Heap} {items : Array Value} (hl : h.IsList l items) : Src P w A h l { cls := .type "list_iterator", data := .fields #[.ref l, .int 0 0] } items.size (fun i v => items[i]? = some v) where
  lt := by obtain ⟨o, ho, _⟩ := hl; exact Heap.lt_size ho
  iter := fun A' E s Q k q => wpAny_pyIter_list (hl.at k) q
  walk := fun A' I hh hne => ⟨_, Walks.list hh I l hne items, fun h' k e => ⟨⟨_, e, rfl, rfl⟩, hl.at k⟩⟩
theorem src_tuple {l : Addr} {h : Heap} {items : Array Value} (hl : h.IsTuple l items) : Src P w A h l { cls := .type "tuple_iterator", data := .fields #[.ref l, .int 0 0] } items.size (fun i v => items[i]? = some v) where
  lt := by obtain ⟨o, ho, _⟩ := hl; exact Heap.lt_size ho
  iter := fun A' E s Q k q => wpAny_pyIter_tuple (hl.at k) q
  walk := fun A' I hh hne => ⟨_, Walks.tuple hh I l hne items, fun h' k e => ⟨⟨_, e, rfl, rfl⟩, hl.at k⟩⟩
set_option maxHeartbeats 3200000 in
theorem set_of_src {p : Addr} {T : String} {dd : Option Addr} {dt : Data} {sl : Array (Option Value)} {ob : Obj} {n : Nat} {Pv : Nat → Value → Prop} {xs : List Str} {Q : Value → Shared → Prop}
    (hh : A.handled = none) (C : Src P w A s.heap p ob n Pv) (hob : ob.isFreed = false) (hp : s.heap.get? p = some { cls := .type T, dict := dd, data := dt, slots := sl })
    (t1 : isSubtype (.type T) (.type "set") = pure false) (t2 : isSubtype (.type T) (.type "frozenset") = pure false) (t3 : (Value.type T == Value.type "dict") = false)
    (hn : n = xs.length) (hb : n + 1 < scanBound) (hv : ∀ i v, Pv i v → ∃ k t, xs[i]? = some k ∧ v = .str k t)
    (h : ∀ (h' : Heap) (tk : Nat), TS P w h' s.heap.objs.size (metS [] xs) → (∀ b o, s.heap.get? b = some o → h'.get? b = some o) → Q (.ref s.heap.objs.size) { s with heap := h', toks := tk }) :
    wpAny (model P w) A (call (.type "set") [.ref p]) Q E s := by
  obtain ⟨c, tl, hmro⟩ := PySem.F.called_set.mro
  have hmade := PySem.F.called_set.made
  have hsub := PySem.F.called_set.sub
  have h1 := PySem.F.called_set.notType
  have h2 := PySem.F.called_set.canCreate
  have hct := PySem.F.typeCall_set_1 (.ref p)
  refine wpAny_call (codeAny_of_tree ?_)
  show wpAny _ _ (callAny (.type "set") _) _ _ _
  refine wpAny_pure ⟨Code.quiet_builtin _ (by decide +kernel), codeAny_builtin PySem.F.entry_type_call ?_⟩
  rw [Around.under_plain (weight_type_call_type "set" [.ref p] []) rfl]
  repeat (any_goals (first | assumption | wp_step))
  obtain ⟨g0, hg0⟩ : ∃ g0, g0 = s.heap.push { cls := .type "set", dict := none, data := .set #[] 0 (.fresh 0 0 (!w.params.followText "set-order")) } := ⟨_, rfl⟩
  refine codeAny_mono (code_set_led1 (.ref p) (E := E) (Q₁ := fun obj s₁ => obj = .ref s.heap.objs.size ∧ s₁ = { s with heap := g0 }) ⟨rfl, by rw [hg0]⟩) fun r s₁ hr => ?_
  cases r with
  | error e => exact hr
  | ok fl =>
    cases fl with
    | ret obj =>
      obtain ⟨rfl, rfl⟩ := hr
      have z0 : g0.objs.size = s.heap.objs.size + 1 := by rw [hg0]; exact Heap.size_push ..
      have k0 : ∀ b o, s.heap.get? b = some o → g0.get? b = some o := fun b o e => by rw [hg0]; exact Heap.get?_push_of_some _ e
      have T0 : TS P w g0 s.heap.objs.size [] := by rw [hg0]; exact TS.new ..
      have hS : g0.get? s.heap.objs.size = some { cls := .type "set", dict := none, data := .set #[] 0 (.fresh 0 0 (!w.params.followText "set-order")) } := by rw [hg0]; exact Heap.get?_push_size _ rfl
      have hT : Shared.TypeIs { s with heap := g0 } (.ref s.heap.objs.size) "set" := ⟨_, hS, rfl⟩
      have hli := PySem.F.called_set.init.lookup
      have hbi := PySem.F.called_set.init.bind (.ref s.heap.objs.size)
      clear hg0
      repeat (any_goals (first | assumption | wp_step))
      refine codeAny_mono (codeAny_call_builtin (R := wants (fun r s₂ => r = .none ∧ ∃ h' tk, s₂ = { s with heap := h', toks := tk } ∧ TS P w h' s.heap.objs.size (metS [] xs) ∧ (∀ b o, s.heap.get? b = some o → h'.get? b = some o)) E)
        PySem.F.called_set.init.plain PySem.F.entry_set_init (check_set_init_1 hT ?_)) fun r₂ s₂ hr₂ => ?_
      · have hp0 := k0 _ _ hp
        unfold Builtin.«set.__init__» noKeywords Builtin.Frozenset.updateFrom
        generalize hPI : pyIter = PI
        wp_walk
        subst hPI
        refine C.iter _ _ _ _ (fun o e => k0 _ o e) ?_
        refine wpAny_bind (wpAny_runValue ?_)
        have hh3 : A.in1.in1.in1.handled = none := by simp [hh]
        have hne : p ≠ g0.objs.size := by rw [z0]; exact Nat.ne_of_lt (Nat.lt_succ_of_lt C.lt)
        have hbf : s.heap.objs.size ∉ [g0.objs.size, p] := by
          rw [z0]; simp only [List.mem_cons, List.mem_singleton, List.not_mem_nil, or_false, not_or]
          exact ⟨Nat.ne_of_lt (Nat.lt_succ_self _), Nat.ne_of_gt C.lt⟩
        obtain ⟨St, W, st0⟩ := C.walk A.in1.in1.in1 g0.objs.size hh3 hne
        refine upd_texts W.toS s.heap.objs.size hbf xs hn hv (n - 0) 0 _ [] rfl (Nat.zero_le _) (Nat.zero_le _) hb
          (st0 _ (fun o e => Heap.get?_push_of_some _ (k0 _ _ e)) (Heap.get?_push_size _ hob)) (T0.keep fun o e => Heap.get?_push_of_some _ e) fun s' hm T1 => ?_
        obtain ⟨h', g2, d', tk', os'⟩ := s'
        have eg : g2 = s.gens := hm.gens
        have ed : d' = s.drawn := hm.drawn
        have eo : os' = s.os := hm.os
        subst eg; subst ed; subst eo
        show wpAny _ _ _ _ _ _
        refine wpAny_pure ?_
        show wpAny _ _ (PySem.ret Value.none) _ _ _
        refine wpAny_pure ⟨rfl, h', tk', rfl, T1, fun b o e => ?_⟩
        have hb0 : b < s.heap.objs.size := Heap.lt_size e
        refine hm.heap b o ?_ (Heap.get?_push_of_some _ (k0 b o e))
        rw [z0]
        simp only [List.mem_cons, List.mem_singleton, List.not_mem_nil, or_false, not_or]
        exact ⟨Nat.ne_of_lt hb0, Nat.ne_of_lt (Nat.lt_succ_of_lt hb0)⟩
      · cases r₂ with
        | error e => exact hr₂
        | ok fl₂ =>
          cases fl₂ with
          | ret r =>
            obtain ⟨rfl, h', tk, rfl, T1, hk'⟩ := hr₂
            repeat (any_goals (first | assumption | wp_step))
            exact h _ _ T1 hk'
          | _ => exact hr₂.elim
    | _ => exact hr.elim
end
end Kr

namespace Kr
open PySem PySem.Spec L2
open PyProof.Rows hiding St

/-! ### sorted: of a dict's keys, of a set of texts, at any length -/
section
variable {P : Program} {w : World} {A : Around} {E : Value → Shared → Prop} {s : Shared}
theorem sorted_by {v : Value} {ks : List Str} {Q : Value → Shared → Prop} (hz : ks.length ≤ sizeLine)
    (col : ∀ (E' : Value → Shared → Prop) (Q' : List Value → Shared → Prop), (∀ s1 vs js, StrsAre vs js → js.Perm ks → (∀ b o, s.heap.get? b = some o → s1.heap.get? b = some o) → s1.gens = s.gens → s1.os = s.os → Q' vs s1) →
      wpAny (model P w) A.in1 (collect v) Q' E' s)
    (hQ : ∀ (s1 : Shared) (h' : Heap) p (out : Array Value) c, (∀ b o, s.heap.get? b = some o → s1.heap.get? b = some o) → s1.gens = s.gens → s1.os = s.os → (∀ b o, s1.heap.get? b = some o → h'.get? b = some o) → s1.heap.objs.size ≤ p → h'.get? p = some (seqObj "list" out c) → StrsAre out.toList (sortS ks) → Q (.ref p) { s1 with heap := h' }) :
    wpAny (model P w) A (call (.builtin "sorted") [v]) Q E s := by
  refine Calls.call_function_entry kind_sorted plain_sorted entry_sorted (args_sorted1 _) ?_
  unfold Builtin.«sorted»
  refine wpAny_bind (m := checkCount "sorted" 1 1 _) (wpAny_pure ?_)
  refine wpAny_bind (col _ _ fun s1 vs js hS hp k1 g1 o1 => ?_)
  have hl : vs.length ≤ sizeLine := by rw [hS.length, hp.length_eq]; exact hz
  refine wpAny_bind (wpAny_newList ?_ hl)
  have hoL : (s1.heap.push (seqObj "list" vs.toArray 0)).get? s1.heap.objs.size = some (seqObj "list" vs.toArray 0) := Heap.get?_push_size _ rfl
  refine wpAny_bind (wpAny_holding (wpAny_call_entry slot_list_sort ⟨_, hoL, rfl⟩ entry_list_sort
    (list_sort_treeKAny strKind_oneLt hoL hS.keysOf (fun v₁ v₂ rest e => keyKind_strs (by rw [← e]; exact hS)) hl fun st' a1 a2 => ⟨_, rfl, ?_⟩) (args_list_sort _)))
  obtain ⟨ys, b1, b2, b3⟩ := sorted_out_str hS a1 a2
  obtain ⟨c, hc⟩ := sortedHeap_at (vs := vs) (out := (arrOf st').map (·.2)) hoL
  rw [sortS_eq (b2.trans hp) (sorted_pw ys b3)] at b1
  refine wpAny_pure ⟨_, rfl, hQ s1 _ s1.heap.objs.size _ c k1 g1 o1 (fun b u q => ?_) (Nat.le_refl _) hc b1⟩
  have hlt := Heap.lt_size q
  show (sortedHeap (s1.heap.push (seqObj "list" vs.toArray 0)) s1.heap.objs.size vs _).get? b = some u
  rw [sortedHeap_old (Nat.ne_of_lt hlt) (by rw [size_push']; exact Nat.lt_succ_of_lt hlt)]
  exact Heap.get?_push_of_some _ q
def vStr (v : Value) : Str := match v with
  | .str x _ => x
  | _ => Str.empty
theorem strs_all : ∀ (l : List Value), (∀ v ∈ l, ∃ k t, v = Value.str k t) → StrsAre l (l.map vStr)
  | [], _ => .nil
  | v :: l, h => by
    obtain ⟨k, t, rfl⟩ := h v List.mem_cons_self
    exact .cons k t (strs_all l fun u hu => h u (List.mem_cons_of_mem _ hu))
theorem perm_of_sub : ∀ (l m : List Str), l.Nodup → (∀ x ∈ l, x ∈ m) → m.length ≤ l.length → m.Perm l
  | [], m, _, _, h => by
    cases m with
    | nil => exact List.Perm.refl _
    | cons a b => exact absurd h (by simp)
  | x :: l, m, nd, sub, h => by
    obtain ⟨nx, nd⟩ := List.nodup_cons.mp nd
    have hx := sub x List.mem_cons_self
    have p := List.perm_cons_erase hx
    refine p.trans ((perm_of_sub l (m.erase x) nd (fun y hy => ?_) ?_).cons x)
    · have ne : y ≠ x := fun e => nx (e ▸ hy)
      exact (List.mem_erase_of_ne ne).mpr (sub y (List.mem_cons_of_mem _ hy))
    · have := p.length_eq
      simp only [List.length_cons] at this h
      omega
theorem TS.col {a : Addr} {l : List Str} (T : TS P w s.heap a l) (hb : l.length < scanBound) (hh : A.handled = none) (E' : Value → Shared → Prop) (Q' : List Value → Shared → Prop)
    (q : ∀ s1 vs js, StrsAre vs js → js.Perm l → (∀ b o, s.heap.get? b = some o → s1.heap.get? b = some o) → s1.gens = s.gens → s1.os = s.os → Q' vs s1) :
    wpAny (model P w) A.in1 (collect (.ref a)) Q' E' s := by
  obtain ⟨D, ho, Fx, nd, r, ld⟩ := T
  obtain ⟨es, ep, t⟩ := D
  have hel : ElemsOf (strKind P w) es.toList := Fx.el
  have hsz : es.size = l.length := Fx.sz
  refine collect_set (A := A.in1) (es := es) (ep := ep) (t := t) hh ⟨_, ho, rfl, rfl⟩ Fx.fit (by rw [hsz]; exact hb) r ld fun s1 vs k1 hz g1 o1 pm => ?_
  have hv : ∀ v ∈ vs, ∃ k t, v = Value.str k t := fun v hv => by
    obtain ⟨e, he, rfl⟩ := List.mem_map.mp (pm.mem_iff.mp hv)
    obtain ⟨⟨k, h1, _⟩, _⟩ := hel e he
    obtain ⟨t, h2⟩ := Value.isStrOf_shape (x := k) (v := e.2) h1
    exact ⟨k, t, h2⟩
  have hlen : (vs.map vStr).length = l.length := by rw [List.length_map, pm.length_eq, List.length_map, Array.length_toList]; exact hsz
  refine q s1 vs (vs.map vStr) (strs_all vs hv) ?_ k1 g1 o1
  refine perm_of_sub l _ nd (fun x hx => ?_) (Nat.le_of_eq hlen)
  obtain ⟨e, he, h1⟩ := (Fx.mem x).mp hx
  obtain ⟨t, h2⟩ := Value.isStrOf_shape (x := x) (v := e.2) h1
  exact List.mem_map.mpr ⟨e.2, pm.mem_iff.mpr (List.mem_map.mpr ⟨e, he, rfl⟩), by rw [h2]; rfl⟩
theorem strs_get : ∀ {us : List Value} {xs : List Str}, StrsAre us xs → ∀ (i : Nat) (v : Value), us[i]? = some v → ∃ k t, xs[i]? = some k ∧ v = .str k t
  | _, _, .nil, i, v, h => by cases h
  | _, _, .cons y t r, 0, v, h => by cases h; exact ⟨y, t, rfl, rfl⟩
  | _, _, .cons y t r, i + 1, v, h => strs_get r i v h
theorem metS_mem : ∀ (xs l : List Str) (x : Str), x ∈ metS l xs ↔ x ∈ l ∨ x ∈ xs
  | [], l, x => by simp [metS]
  | y :: r, l, x => by
    unfold metS
    rw [metS_mem r]
    by_cases h : y ∈ l
    · rw [if_pos h]
      simp only [List.mem_cons]
      constructor
      · rintro (z | z)
        · exact .inl z
        · exact .inr (.inr z)
      · rintro (z | rfl | z)
        · exact .inl z
        · exact .inl h
        · exact .inr z
    · rw [if_neg h]
      simp only [List.mem_cons]
      constructor
      · rintro ((z | z) | z)
        · exact .inr (.inl z)
        · exact .inl z
        · exact .inr (.inr z)
      · rintro (z | z | z)
        · exact .inl (.inr z)
        · exact .inl (.inl z)
        · exact .inr z
theorem metS_len : ∀ (xs l : List Str), (metS l xs).length ≤ l.length + xs.length
  | [], l => Nat.le_refl _
  | y :: r, l => by
    unfold metS
    refine Nat.le_trans (metS_len r _) ?_
    split <;> simp <;> omega
theorem metS_nodup : ∀ (xs l : List Str), l.Nodup → (metS l xs).Nodup
  | [], l, h => h
  | y :: r, l, h => by
    unfold metS
    refine metS_nodup r _ ?_
    split
    · exact h
    · rename_i n
      exact List.nodup_cons.mpr ⟨n, h⟩
end
section
variable {X : Cx} {own : List Nat} {K : PySem.W.Frag} {e : Expr} {t : TE} {d : DE} {p p2 q pos : Pos}
theorem _root_.L2.Inv.laidS {pins : List (Addr × Obj)} {σ : St} {H : Hp} {s s1 : Shared} {h' : Heap} {p : Addr} {v : HO} (I : L2.Inv X pins σ H s) (k1 : ∀ b o, s.heap.get? b = some o → s1.heap.get? b = some o) (g : s1.gens = s.gens) (o : s1.os = s.os)
    (k2 : ∀ b o, s1.heap.get? b = some o → h'.get? b = some o) (hp : s1.heap.objs.size ≤ p) (ok : ObjOk X.prog X.w (upd H p v) h' p v) : L2.Inv X pins (σ := σ) (upd H p v) { s1 with heap := h' } ∧ H p = none := by
  have J : L2.Inv X pins σ H s1 := by
    have e : s1 = { s with heap := s1.heap, gens := s1.gens, drawn := s1.drawn, toks := s1.toks } := by
      cases s1
      cases s
      cases o
      rfl
    rw [e]
    exact I.call (ch := []) (Un.kept k1) (I.hok.kept k1) (by rw [g]; exact I.bare) (fun _ z => nomatch z)
  exact ⟨J.laid (t' := s1.toks) k2 hp ok, J.hok.fresh hp⟩
/-- what stands for a row of texts in the heap -/
def tSorted (K : PySem.W.Frag) (ta : TE) : TE := fun σ H Q => ta σ H fun x H1 => ∃ (l : Addr) (xs : List Str), x = .ref l ∧ (SqL K H1 l (xs.map V.str) ∨ SqT K H1 l (xs.map V.str)) ∧ xs.length + 1 < scanBound ∧ ∀ p, H1 p = none → Q (.ref p) (upd H1 p (.lst ((sortS (metS [] xs)).map V.str)))
theorem pe_sortset (hc : X.calm = true) (hm : X.mg "sorted" = none) (hm2 : X.mg "set" = none) (ha : PE X e t) (hg : Gl X "sorted" := by rfl) (hg2 : Gl X "set" := by rfl)
    (na : starEach [e] X.env = (false, eval e X.env) :: starEach [] X.env := by rfl) : PE X (.Call (.Name "sorted" p) [.Call (.Name "set" p2) [e] [] q] [] pos) (tSorted X.K t) := by
  refine ⟨fun pins s σ H Q I h => ?_⟩
  refine Call_ (ld_blt I hg hm (by decide +kernel : bootBuiltins "sorted" = some (.builtin "sorted")) ?_)
  refine PyProof.Rows.callWith_builtin1 (PyProof.Rows.args_cons ?_ rfl) rfl rfl
  refine Call_ (ld_blt I hg2 hm2 boot_set ?_)
  refine PyProof.Rows.callWith_type1 (PyProof.Rows.args_cons (thn (ha.run pins s σ H _ I h) fun v s1 ⟨x, H1, I1, r1, q1⟩ => PyProof.Rows.args_nil ?_) na) na rfl
  obtain ⟨l, xs, rfl, hq, h1, q1⟩ := q1
  cases r1
  have hml : (metS [] xs).length ≤ xs.length := by have := metS_len xs []; simpa using this
  have hz0 : scanBound ≤ sizeLine := by rw [sizeLine_eq]; decide
  have fin : ∀ (h' : Heap) (tk : Nat), TS X.prog X.w h' s1.heap.objs.size (metS [] xs) → (∀ b o, s1.heap.get? b = some o → h'.get? b = some o) →
      wpAny (model X.prog X.w) X.A (spliced (backTo pos (starEach [] X.env))) (fun vs s₂ => wpAny (model X.prog X.w) X.A (call (.builtin "sorted") (Value.ref s1.heap.objs.size :: vs)) (EP X pins σ Q) X.xe s₂) X.xe { s1 with heap := h', toks := tk } := fun h' tk T hk => by
    refine PyProof.Rows.args_nil ?_
    refine sorted_by (ks := metS [] xs) (s := { s1 with heap := h', toks := tk }) (by omega) (fun E' Q' q => T.col (s := { s1 with heap := h', toks := tk }) (by omega) (I1.ok.hd hc) E' Q' q) fun s2 h2 p' out c k2 g2 o2 k3 hp hL hS => ?_
    have J := I1.laidS (s1 := s2) (h' := h2) (fun b o e => k2 b o (hk b o e)) g2 o2 k3 hp (v := .lst ((sortS (metS [] xs)).map V.str)) ⟨by rw [List.length_map, (sortS_perm _).length_eq]; omega, out.toList, c, vals_of_strs hS, hL⟩
    exact ⟨.ref p', _, J.1, rfl, q1 p' J.2⟩
  rcases hq with hq | hq
  · obtain ⟨its, r, pl, hz⟩ := I1.list hq
    obtain ⟨⟨cls, dd, dt, sl⟩, n, ho, hc', hdn, hd'⟩ := id pl
    simp only at hc' hd'
    subst hc' hd'
    have hS : StrsAre its xs := r.strs
    exact set_of_src (I1.ok.hd hc) (src_list pl.isList) rfl ho PySem.F.sub_list_set PySem.F.sub_list_frozenset (by decide) (by rw [List.size_toArray, hS.length]) (by rw [List.size_toArray, hS.length]; exact h1)
      (fun i v hv => strs_get hS i v (by simpa using hv)) fun h' tk T hk => fin h' tk T hk
  · obtain ⟨its, r, pl, hz⟩ := I1.tuple hq
    obtain ⟨⟨cls, dd, dt, sl⟩, ho, hc', n, hd'⟩ := id pl
    simp only at hc' hd'
    subst hc' hd'
    have pl : s1.heap.IsTuple l its.toArray := pl
    have hS : StrsAre its xs := r.strs
    exact set_of_src (I1.ok.hd hc) (src_tuple pl) rfl ho PySem.F.sub_tuple_set PySem.F.sub_tuple_frozenset (by decide) (by rw [List.size_toArray, hS.length]) (by rw [List.size_toArray, hS.length]; exact h1)
      (fun i v hv => strs_get hS i v (by simpa using hv)) fun h' tk T hk => fin h' tk T hk
def gSorts : D → Option D
  | .lst xs => match asStrs xs with
    | some ns => bd (ns.length + 1 < scanBound) (.lst ((sortS (metS [] ns)).map .str))
    | none => none
  | .tup xs => match asStrs xs with
    | some ns => bd (ns.length + 1 < scanBound) (.lst ((sortS (metS [] ns)).map .str))
    | none => none
  | _ => none
def dSorts (d : DE) : DE := bnd d fun x => opt (gSorts x)
theorem xsortset (hc : X.calm = true) (hm : X.mg "sorted" = none) (hm2 : X.mg "set" = none) (ha : PX X own e t d) (hg : Gl X "sorted" := by rfl) (hg2 : Gl X "set" := by rfl)
    (na : starEach [e] X.env = (false, eval e X.env) :: starEach [] X.env := by rfl) : PXF X own (.Call (.Name "sorted" p) [.Call (.Name "set" p2) [e] [] q] [] pos) (tSorted X.K t) (dSorts d) := ⟨pe_sortset hc hm hm2 ha.pe hg hg2 na, fun F M σV H s z s' R q Q post => by
  obtain ⟨x, s1, q1, q⟩ := bnd_ok q
  obtain ⟨qa, rfl⟩ := opt_ok q
  refine ha.ad F M σV H s x _ R q1 _ fun F1 M1 H1 v R1 E1 r1 => ?_
  have fin : ∀ (l : Addr) (ns : List Str), (SqL X.K H1 l (ns.map V.str) ∨ SqT X.K H1 l (ns.map V.str)) → bd (ns.length + 1 < scanBound) (D.lst ((sortS (metS [] ns)).map .str)) = some z →
      ∃ (l' : Addr) (xs : List Str), V.ref l = .ref l' ∧ (SqL X.K H1 l' (xs.map V.str) ∨ SqT X.K H1 l' (xs.map V.str)) ∧ xs.length + 1 < scanBound ∧ ∀ p, H1 p = none → Q (.ref p) (upd H1 p (.lst ((sortS (metS [] xs)).map V.str))) := fun l ns hs hb => by
    obtain ⟨hn, rfl⟩ := bd_ok hb
    have hml : (metS [] ns).length ≤ ns.length := by have := metS_len ns []; simpa using this
    have hz0 : scanBound ≤ sizeLine := by rw [sizeLine_eq]; decide
    exact ⟨l, ns, rfl, hs, hn, fun p hp => ad_lay (F' := F1) (M' := M1) post R1 E1 hp ⟨_, rfl, RepL.ofStrs _, by rw [List.length_map, (sortS_perm _).length_eq]; omega⟩⟩
  unfold gSorts at qa
  split at qa
  · split at qa
    · rename_i ns hns
      have e := asStrs_eq hns
      subst e
      cases r1 with
      | @lst a vs _ hs nf hz r =>
        rw [r.strs] at hs
        exact fin a ns (.inl (.inl hs)) qa
    · cases qa
  · split at qa
    · rename_i ns hns
      have e := asStrs_eq hns
      subst e
      cases r1 with
      | @tup a vs _ hs hz r =>
        rw [r.strs] at hs
        exact fin a ns (.inr hs) qa
    · cases qa
  · cases qa⟩
end
end Kr

namespace Kr
open PySem PySem.Spec L2
open PyProof.Rows hiding St

/-! ### sorted(list of texts or ints, dict with texts for keys), at any length -/
section
variable {K : PySem.W.Frag} {X : Cx}
def rSortL2 (K : PySem.W.Frag) : List V → Hp → VK → Prop := fun vs H Q => ∃ (a : Addr) (xs : List Str), vs = [V.ref a] ∧ SqL K H a (xs.map V.str) ∧ ∀ p, H p = none → Q (.ref p) (upd H p (.lst ((sortS xs).map V.str)))
theorem cr_sortL2 : CallR X (.builtin "sorted") (rSortL2 X.K) := by
  intro pins s σ H vs us Q I r h
  obtain ⟨a, xs, rfl, hs, q⟩ := h
  obtain ⟨its, rv, hl, hz⟩ := I.list hs
  rw [Vals.ref1 r]
  have hlen0 := rv.length
  rw [List.length_map] at hlen0 hz
  refine PyProof.Rows.sorted_strsAny hl.isList rv.strs (by rw [← hlen0]; exact hz) fun out ys h1 h2 h3 => ?_
  obtain ⟨ep, he'⟩ := PyProof.Rows.sortedAll_at s.heap its out
  rw [sortS_eq h2 (sorted_pw ys h3)] at h1
  have hlen : ((sortS xs).map V.str).length ≤ sizeLine := by rw [List.length_map, (sortS_perm _).length_eq]; exact hz
  exact ⟨.ref _, upd H (s.heap.objs.size + 1) (.lst ((sortS xs).map V.str)), I.laid (t' := s.toks) (fun _ _ => PyProof.Rows.sortedAll_old) (Nat.le_succ _) ⟨hlen, out.toList, ep, vals_of_strs h1, he'⟩, rfl, q _ (I.hok.fresh (Nat.le_succ _))⟩
def rSortD2 : List V → Hp → VK → Prop := fun xs H Q => ∃ (a : Addr) (kvs : List (Key × V)) (ks : List Str), xs = [.ref a] ∧ Rd H a (.dK kvs) ∧ kvs.map (·.1) = ks.map Sum.inr ∧ ∀ p, H p = none → Q (.ref p) (upd H p (.lst ((sortS ks).map V.str)))
theorem cr_sortD2 (hc : X.calm = true) : CallR X (.builtin "sorted") rSortD2 := by
  intro pins s σ H xs us Q I r q
  obtain ⟨a, kvs, ks, rfl, hd, hks, q⟩ := q
  rw [Vals.ref1 r]
  obtain ⟨z, lo, vs, rel, dd⟩ := dk_rd I.hok hd
  obtain ⟨ep, hat⟩ := dd.dictAt
  have hkeys : vs.map (·.1) = ks.map Sum.inr := rel.keys.symm.trans hks
  have hl : vs.length = ks.length := by
    have e := congrArg List.length hkeys
    rw [List.length_map, List.length_map] at e
    exact e
  have h16 : vs.length ≤ sizeLine := by
    have e := congrArg List.length rel.keys
    rw [List.length_map, List.length_map] at e
    rw [← e]; exact z
  refine sorted_by (ks := ks) (by rw [← hl]; exact h16) (fun E' Q' fin => PySem.W.kdu_collect (A := X.A.in1) (PySem.W.kdl_dict (knd := mixKind X.prog X.w) (kvs := vs) (ep := ep) lo) (I.ok.hd hc) hat h16 fun h' tk acc hk hacc => ?_) fun s1 h2 p out c k1 g1 o1 k2 hp hL hS => ?_
  · have hal : acc.toList.length = ks.length := by rw [Array.length_toList, hacc.1, hl]
    refine fin _ acc.toList ks (L2.strs_at hal fun j v e => ?_) (List.Perm.refl _) hk rfl rfl
    · obtain ⟨k, x, e1, e2⟩ := hacc.2 j v (by rw [← Array.getElem?_toList]; exact e)
      have e3 : (vs.map (·.1))[j]? = some k := by rw [List.getElem?_map, e1]; all_goals rfl
      rw [hkeys, List.getElem?_map] at e3
      cases e4 : ks[j]? with
      | none => rw [e4] at e3; cases e3
      | some y =>
        rw [e4] at e3
        have e5 : Sum.inr y = k := Option.some.inj e3
        subst e5
        obtain ⟨t, ev⟩ := Value.isStrOf_shape (x := y) (v := v) e2
        exact ⟨y, t, rfl, ev⟩
  · have J := I.laidS (s1 := s1) (h' := h2) k1 g1 o1 k2 hp (v := .lst ((sortS ks).map V.str)) ⟨by rw [List.length_map, (sortS_perm _).length_eq, ← hl]; exact h16, out.toList, c, vals_of_strs hS, hL⟩
    exact ⟨.ref p, _, J.1, rfl, q p J.2⟩
def gSorted2 : List D → Option D
  | [.lst xs] => match asStrs xs with
    | some ns => some (.lst ((sortS ns).map .str))
    | none => (asInts xs).map fun ns => .lst ((sortI ns).map .int)
  | [.dic kvs] => match keysS kvs with
    | some ns => some (.lst ((sortS ns).map .str))
    | none => none
  | _ => none
def rSort2 (K : PySem.W.Frag) : List V → Hp → VK → Prop := fun xs H Q => (rSortL2 K xs H Q ∨ rSortedI K xs H Q) ∨ rSortD2 xs H Q
theorem cr_sort2 (hc : X.calm = true) : CallR X (.builtin "sorted") (rSort2 X.K) := CallR.or (CallR.or cr_sortL2 cr_sortedI) (cr_sortD2 hc)
theorem keysS_len : ∀ {ds : List (Key × D)} {ns : List Str}, keysS ds = some ns → ns.length = ds.length
  | [], ns, h => by cases h; rfl
  | (.inr x, _) :: r, ns, h => by
    unfold keysS at h
    cases e : keysS r with
    | none => rw [e] at h; cases h
    | some l => rw [e] at h; cases h; exact congrArg (· + 1) (keysS_len e)
  | (.inl x, _) :: _, ns, h => nomatch h
theorem g_sort2 : OpNF K (rSort2 K) gSorted2 := by
  intro F M H vs ds z Q r hg q
  unfold gSorted2 at hg
  split at hg
  · rename_i xs
    obtain ⟨v, rfl, a, vs, rfl, hs, r, hz⟩ := r.one
    split at hg
    · rename_i ns hns
      cases hg
      have e := asStrs_eq hns
      subst e
      rw [r.strs] at hs
      refine .inl (.inl ⟨a, ns, rfl, .inl hs, fun p np => q p _ np ⟨_, rfl, RepL.ofStrs _, ?_⟩⟩)
      rw [List.length_map, (sortS_perm ns).length_eq]
      rw [List.length_map] at hz
      exact hz
    · cases hi : asInts xs with
      | none => rw [hi] at hg; cases hg
      | some ns =>
        rw [hi] at hg
        cases hg
        have e := asInts_eq hi
        subst e
        rw [r.ints] at hs
        refine .inl (.inr ⟨a, ns, rfl, .inl hs, fun ys p hp hsd np => ?_⟩)
        rw [sortI_eq hp hsd]
        refine q p _ np ⟨_, rfl, RepL.ofInts _, ?_⟩
        rw [List.length_map, (sortI_perm ns).length_eq]
        rw [List.length_map] at hz
        exact hz
  · rename_i kvs
    obtain ⟨v, rfl, a, vs, rfl, hs, r, hz⟩ := r.one
    split at hg
    · rename_i ns hns
      cases hg
      refine .inr ⟨a, vs, ns, rfl, hs, keysS_eq r hns, fun p np => q p _ np ⟨_, rfl, RepL.ofStrs _, ?_⟩⟩
      rw [List.length_map, (sortS_perm ns).length_eq, keysS_len hns]
      exact hz
    · cases hg
  · cases hg
end
end Kr

namespace Kr
open PySem PySem.Spec L2
open PyProof.Rows hiding St

/-! ### a def keeps what the plain evaluator says -/
section
variable {P : Program} {w : World} {K : PySem.W.Frag} {mg : Str → Option Value} {base : Heap} {T : Nat → Option Fn} {f k : Nat} {fn : Fn} {x : Str} {st : Stmt} {a : Addr} {fd : FuncData} {N ps : List Str} {own : List Nat}
theorem get_start {α : Type} {l : List α} {n i : Nat} {y : α} (h : (l.map some ++ List.replicate n none)[i]? = some (some y)) : i < l.length ∧ l[i]? = some y := by
  rw [List.getElem?_append] at h
  split at h
  · rename_i hl
    rw [List.length_map] at hl
    rw [List.getElem?_map] at h
    refine ⟨hl, ?_⟩
    cases e : l[i]? with
    | none => rw [e] at h; cases h
    | some z => rw [e] at h; cases h; rfl
  · rw [List.getElem?_replicate] at h
    split at h <;> cases h
theorem SR.start {F : Addr → Prop} {M : List Addr} {H : Hp} {vs : List V} {ds h : List D} {n : Nat} (R : SR K [] F M [] H ⟨[], h⟩) (r : RepL K F M H vs ds) (ho : ∀ i ∈ own, ds.length ≤ i) :
    SR K own F M (vs.map some ++ List.replicate n none) H ⟨ds.map some ++ List.replicate n none, h⟩ ∧ ∀ q, ¬ Ow own (vs.map some ++ List.replicate n none) (ds.map some ++ List.replicate n none) q := by
  have no : ∀ i ∈ own, ∀ d, (ds.map some ++ List.replicate n none)[i]? ≠ some (some d) := fun i hi d h => by
    have := (get_start h).1
    have := ho i hi
    omega
  refine ⟨⟨?_, fun i d ni h => ?_, fun i d ni h => absurd h (no i ni d), fun i j q d e hi hj h1 h2 h3 h4 => absurd h1 (no i hi d), R.ml, R.nd, R.obj, R.ft⟩, fun q z => ?_⟩
  · show (ds.map some ++ List.replicate n none).length = _
    simp [r.len]
  · obtain ⟨hl, h1⟩ := get_start h
    obtain ⟨v, e1, e2⟩ := r.get h1
    refine ⟨v, ?_, e2⟩
    have hv : i < vs.length := (List.getElem?_eq_some_iff.mp e1).1
    rw [List.getElem?_append_left (by rw [List.length_map]; exact hv), List.getElem?_map, e1]
    rfl
  · obtain ⟨i, hi, _, d, h⟩ := z
    exact no i hi d h
theorem def_ok (own : List Nat) (hT : T f = some fn) (F : Fun K x x st a fd) (sc : FnScope N ps (defScope st)) (hn : N.length = fn.n) (hp : ps.length = fn.np) (ho : ∀ i ∈ own, fn.np ≤ i)
    (body : ∀ (cdv : Value) (A : Around) (outer : List Env) (s : Shared) (H : Hp) (E : XK), Room k (cxOf CX0 P w K mg base N x (defScope st) a cdv A outer s H E).nox.A →
      ∃ t, PXSs (cxOf CX0 P w K mg base N x (defScope st) a cdv A outer s H E).nox own fn.fr (defBody st) t (fn.body (runF T k))) :
    FnOk P w K mg base CX0 (k + 1) a fd ps (spRun K T (k + 1) f) := by
  refine F.ok sc (fun vs H Q E h => ?_) (fun cdv A outer s H vs Q E hr h => ?_)
  · obtain ⟨fn', e, hl, _⟩ := h
    rw [hT] at e
    cases e
    rw [hl, hp]
  obtain ⟨fn', e, hl, F0, M0, ds, h0, r, h', R0, rr, q, post⟩ := h
  rw [hT] at e
  cases e
  obtain ⟨t, B⟩ := body cdv A outer s H E hr
  refine ⟨t, B.ps, ?_⟩
  have q : (match T f with
    | none => Except.error Xn.stuck
    | some fn => if ds.length = fn.np then finish fn.fr (fn.body (runF T k) ⟨ds.map some ++ List.replicate (fn.n - fn.np) none, h0⟩) else .error .stuck) = .ok (r, h') := q
  rw [hT] at q
  dsimp only at q
  split at q
  · rename_i hd
    have e1 : N.length - vs.length = fn.n - fn.np := by rw [hn, hl]
    obtain ⟨R1, no⟩ := SR.start (own := own) (n := fn.n - fn.np) R0 rr (by rw [hd]; exact ho)
    have eO : Ow own (L2.start N vs) (ds.map some ++ List.replicate (fn.n - fn.np) none) = fun _ => False := by
      unfold L2.start
      rw [e1]
      exact funext fun q => propext ⟨fun z => no q z, fun z => z.elim⟩
    cases eb : fn.body (runF T k) ⟨ds.map some ++ List.replicate (fn.n - fn.np) none, h0⟩ with
    | error e => rw [eb] at q; cases q
    | ok z =>
      obtain ⟨o, s'⟩ := z
      rw [eb] at q
      refine B.ad F0 M0 (L2.start N vs) H ⟨ds.map some ++ List.replicate (fn.n - fn.np) none, h0⟩ o s' (by unfold L2.start; rw [e1]; exact R1) eb _ ?_
      rw [eO]
      cases o with
      | nx =>
        intro F' M' σV' H' R' E'
        unfold finish at q
        dsimp only at q
        split at q
        · cases q
        · rename_i hf
          cases q
          refine post F' M' H' .non R'.bare E'.less ?_
          have : fn.fr = false := by simpa using hf
          rw [this]
          exact .non
      | rt d =>
        cases q
        exact fun F' M' H' v R' E' r' => post F' M' H' v R' E' r'
      | bk => cases q
      | ct => cases q
  · cases q
theorem def_no {fd : FuncData} (hT : T f = some fn) (hp : ps.length = fn.np) : FnOk P w K mg base CX0 0 a fd ps (spRun K T 0 f) := by
  have no : ∀ vs H Q E, ¬ spRun K T 0 f vs H Q E := fun vs H Q E h => by
    obtain ⟨fn', _, _, F0, M0, ds, h0, r, h', _, _, q, _⟩ := h
    cases q
  exact ⟨fun vs H Q E h => absurd h (no vs H Q E), fun A outer s H args us vs Q E _ _ _ _ h => absurd h (no vs H Q E)⟩
end
/-- a name's operand, the slot an own one -/
def oSlot (i : Nat) : DO := fun s => match (s.σ[i]?).join with
  | some _ => .ok (.own i, s.h)
  | none => .error .stuck
section
variable {K : PySem.W.Frag} {X : Cx} {own own' : List Nat} {F : Addr → Prop} {M : List Addr} {H : Hp} {σV : St} {s : S}
/-- an own slot is let go: from now on a plain value -/
theorem SR.freeze (i : Nat) (R : SR K own F M σV H s) (hi : i ∈ own) (hn : i ∉ own') (h1 : ∀ j ∈ own', j ∈ own) (h2 : ∀ j ∈ own, j = i ∨ j ∈ own') : ∃ F', SR K own' F' M σV H s ∧ ∀ {F2 : Addr → Prop} {M2 : List Addr} {H2 : Hp}, EE F' M (Ow own' σV s.σ) H F2 M2 (fun _ => False) H2 → EE F M (Ow own σV s.σ) H F2 M2 (fun _ => False) H2 := by
  have sub : ∀ a, Ow own' σV s.σ a → Ow own σV s.σ a := fun a ⟨j, hj, z⟩ => ⟨j, h1 j hj, z⟩
  by_cases hs : ∃ d, s.σ[i]? = some (some d)
  · obtain ⟨d, hs⟩ := hs
    obtain ⟨p, e1, e2, e3, e4⟩ := R.ownd i d hi hs
    have k : Kp F M H (minus F p) M H := Kp.less fun a z => z.1
    refine ⟨minus F p, ⟨R.len, fun j e nj h => ?_, fun j e hj h => ?_, fun j m q d e hj hm => R.dis j m q d e (h1 j hj) (h1 m hm), R.ml, R.nd, fun j q e g1 g2 => ?_, fun a z => R.ft a z.1⟩, fun E => ⟨fun a o ha hm ho => ?_, E.gr, E.m⟩⟩
    · by_cases hj : j = i
      · subst hj
        rw [hs] at h
        cases h
        exact ⟨.ref p, e1, e2.val⟩
      · have nj' : j ∉ own := fun z => by rcases h2 j z with z | z; exact hj z; exact nj z
        obtain ⟨v, g1, g2⟩ := R.val j e nj' h
        exact ⟨v, g1, g2.keep k⟩
    · obtain ⟨q, g1, g2, g3, g4⟩ := R.ownd j e (h1 j hj) h
      refine ⟨q, g1, g2.keep k fun o z => z, ⟨g3, fun z => ?_⟩, g4⟩
      subst z
      have : j = i := R.dis j i q e d (h1 j hj) hi h hs g1 e1
      exact hn (this ▸ hj)
    · obtain ⟨g3, g4⟩ := R.obj j q e g1 g2
      exact ⟨g3.keep k fun o z => z, g4, fun z => e4 (by rw [← z]; exact List.mem_of_getElem? g1)⟩
    · have np : a ≠ p := fun z => ho ⟨i, hi, by rw [z]; exact e1, d, hs⟩
      obtain ⟨g1, g2, g3, g4⟩ := E.keep a o ha hm fun z => ho (sub a z)
      exact ⟨g1, g2, g3, ⟨fun z => (g4.mp z).1, fun z => g4.mpr ⟨z, np⟩⟩⟩
  · refine ⟨F, ⟨R.len, fun j e nj h => ?_, fun j e hj h => R.ownd j e (h1 j hj) h, fun j m q d e hj hm => R.dis j m q d e (h1 j hj) (h1 m hm), R.ml, R.nd, R.obj, R.ft⟩, fun E => ⟨fun a o ha hm ho => E.keep a o ha hm fun z => ho (sub a z), E.gr, E.m⟩⟩
    refine R.val j e (fun z => ?_) h
    rcases h2 j z with z | z
    · subst z; exact hs ⟨e, h⟩
    · exact nj z
theorem s_retFz (i : Nat) (own' : List Nat) {e : Expr} {te : TE} {de : DE} {pos : Pos} (h : PX X own' e te de) (hi : i ∈ own := by decide) (hn : i ∉ own' := by decide) (h1 : ∀ j ∈ own', j ∈ own := by decide) (h2 : ∀ j ∈ own, j = i ∨ j ∈ own' := by decide) : PXS X own false (.Return (some e) pos) (tRet te) (sRet de) := ⟨ps_ret h.pe, by
  intro F M σV H s o s' R q D post
  unfold sRet at q
  split at q
  · rename_i r hp1 q1
    cases q
    obtain ⟨F', R', up⟩ := R.freeze i hi hn h1 h2
    exact h.ad F' M σV H s r hp1 R' q1 _ fun F1 M1 H1 v R1 E1 r1 => post F1 M1 H1 v R1.bare (up E1.less) r1
  · cases q⟩
end
/-- what a def of the program is at the law's call -/
def DefG (K : PySem.W.Frag) (mg : Str → Option Value) (x : Str) (st : Stmt) (ps : List Str) : Prop := ∃ a fd, Fun K x x st a fd ∧ mg x = some (.ref a) ∧ Binds K fd ps []
def CalG (P : Program) (w : World) (K : PySem.W.Frag) (mg : Str → Option Value) (base : Heap) (T : Nat → Option Fn) (k : Nat) (x : Str) (f : Nat) : Prop := ∃ (a : Addr) (fd : FuncData) (ps : List Str), FnOk P w K mg base CX0 k a fd ps (spRun K T k f) ∧ mg x = some (.ref a) ∧ PySem.W.keepIn K (.ref a) = true ∧ Binds K fd ps []
section
variable {P : Program} {w : World} {K : PySem.W.Frag} {mg : Str → Option Value} {base : Heap} {T : Nat → Option Fn} {f k : Nat} {fn : Fn} {x : Str} {st : Stmt} {ps : List Str}
theorem cal_no (d : DefG K mg x st ps) (hT : T f = some fn) (hp : ps.length = fn.np) : CalG P w K mg base T 0 x f := by
  obtain ⟨a, fd, F, m, b⟩ := d
  exact ⟨a, fd, ps, def_no hT hp, m, F.kp, b⟩
theorem cal_ok (d : DefG K mg x st ps) (h : ∀ a fd, Fun K x x st a fd → FnOk P w K mg base CX0 (k + 1) a fd ps (spRun K T (k + 1) f)) : CalG P w K mg base T (k + 1) x f := by
  obtain ⟨a, fd, F, m, b⟩ := d
  exact ⟨a, fd, ps, h a fd F, m, F.kp, b⟩
theorem law_start {H : Hp} {a : Addr} {ns : List Int} {E : XK} (hl : ns.length ≤ 63) (hS : SqL K H a (ns.map V.int)) (hT : T f = some fn) (h1 : fn.np = 1) (h2 : fn.fr = false) (hr : ∃ h', runF T k f [.scr ns] [] = .ok (.bl true, h')) :
    spRun K T k f [.ref a] H (fun v _ => v = .bl true) E := by
  obtain ⟨h', hr⟩ := hr
  refine ⟨fn, hT, by rw [h1]; rfl, fun _ => False, [], [.scr ns], [], .bl true, h', ⟨rfl, fun i d _ h => by simp at h, fun i d n => absurd n (by simp), fun i j p d e n => absurd n (by simp), rfl, List.nodup_nil, fun i p d h => by simp at h, fun a h => h.elim⟩, .cons (.scr ?_ (by rw [sizeLine_eq]; omega)) .nil, hr, fun F' M' H' v R' E' r => ?_⟩
  · rcases hS with hS | hS
    · exact .inl ⟨hS, fun z => z⟩
    · exact .inr (.inr hS)
  · rw [h2] at r
    cases r
    rfl
end
end Kr

namespace Kr
open PySem PySem.Spec L2
open PyProof.Rows hiding St

/-! ### the reading that the denotation gives by itself -/
def tCan {α β : Type} (K : PySem.W.Frag) (own : List Nat) (ρ : Rl α β) (d : ME β) : St → Hp → (α → Hp → Prop) → Prop := fun σV H Q =>
  ∃ (F : Addr → Prop) (M : List Addr) (s : S) (r : β) (h' : List D), SR K own F M σV H s ∧ d s = .ok (r, h') ∧
    ∀ (F' : Addr → Prop) (M' : List Addr) (H' : Hp) (v : α), SR K own F' M' σV H' ⟨s.σ, h'⟩ → EE F M (Ow own σV s.σ) H F' M' (Ow own σV s.σ) H' → ρ F' M' H' σV v r → Q v H'
theorem ad_can {α β : Type} {K : PySem.W.Frag} {own : List Nat} {ρ : Rl α β} {d : ME β} : AdR K own ρ (tCan K own ρ d) d :=
  fun F M σV H s r h' R q Q post => ⟨F, M, s, r, h', R, q, post⟩
theorem can_of {α β : Type} {K : PySem.W.Frag} {own : List Nat} {ρ : Rl α β} {t : St → Hp → (α → Hp → Prop) → Prop} {d : ME β} (h : AdR K own ρ t d) {σV : St} {H : Hp} {Q : α → Hp → Prop} (c : tCan K own ρ d σV H Q) : t σV H Q :=
  let ⟨F, M, s, r, h', R, q, post⟩ := c
  h F M σV H s r h' R q Q post
def gCan (K : PySem.W.Frag) (own ts : List Nat) (b : D → S → R S) : TG := fun v σV H Q =>
  ∃ (F : Addr → Prop) (M : List Addr) (s : S) (d : D) (s' : S), SR K own F M σV H s ∧ Rep K F M H v d ∧ b d s = .ok s' ∧
    ∀ σV' : St, SR K own F M σV' H s' → s'.h = s.h → (∀ j, j ∉ ts → σV'[j]? = σV[j]? ∧ s'.σ[j]? = s.σ[j]?) → σV'.length = σV.length → Q σV' H
section
variable {X : Cx} {own ts : List Nat} {e tg : Expr} {t : TE} {d : DE} {tt : TT} {q : DB} {g : TG} {b : D → S → R S} {es : List Expr}
theorem PX.can (h : PX X own e t d) : PX X own e (tCan X.K own (ρV X.K) d) d := ⟨⟨fun pins s σ H Q I c => h.pe.run pins s σ H Q I (can_of h.ad c)⟩, ad_can⟩
theorem PXG.can (h : PXG X own ts tg g b) : PXG X own ts tg (gCan X.K own ts b) b := ⟨⟨fun pins s σ H v u Q I r c => h.pg.run pins s σ H v u Q I r (by
  obtain ⟨F, M, s', d, s'', R, rr, q, post⟩ := c
  exact h.ad F M _ _ s' _ d s'' R rr q _ post)⟩, fun F M σV H s v d s' R r q Q post => ⟨F, M, s, d, s', R, r, q, post⟩⟩
theorem pts_can {es : List Expr} (h : PTs X es tt ∧ AdR X.K own ρB tt q) : PTs X es (tCan X.K own ρB q) ∧ AdR X.K own ρB (tCan X.K own ρB q) q := ⟨⟨fun pins s σ H Q I c => h.1.run pins s σ H Q I (can_of h.2 c)⟩, ad_can⟩
variable {it : DA} {wi : TI} {ifs : List Expr} {elt iter : Expr} {pos : Pos} {de : DE} {qt : DB}
/-- [e for x in xs if t] -/
theorem xlcE {scope : Scope} {vs : List Nat} (ow2 : List (Str × Nat)) (hc : X.calm = true) (hN : X.N.Nodup) (hi : PXI X own tg iter wi it) (ok : BlkOk X.N X.env.scope scope ow2)
    (hg : ∀ (s : Shared) (H : Hp) (C : Addr) (cl : List (Str × Addr)) (fp : List Addr), ∃ g, PXG (X.blk s H scope (compEnvC scope cl C X.env) fp) own ts tg g b) (ht : ∀ (s : Shared) (H : Hp) (C : Addr) (cl : List (Str × Addr)) (fp : List Addr), ∃ tt, PTs (X.blk s H scope (compEnvC scope cl C X.env) fp) ifs tt ∧ AdR X.K own ρB tt qt)
    (he : ∀ (s : Shared) (H : Hp) (C : Addr) (cl : List (Str × Addr)) (fp : List Addr), ∃ te, PX (X.blk s H scope (compEnvC scope cl C X.env) fp) own elt te de) (hvs : vs = ow2.map (·.2) := by rfl) (hv : ∀ i ∈ vs, i ∉ own := by decide) (hts : ∀ j ∈ ts, j ∈ vs := by decide) (hs : ∀ x, foldedSetIterable iter X.env x = pure x := by intro _; rfl) :
    PXF X own (.ListComp elt [⟨tg, iter, ifs, 0⟩] scope pos) (tLc wi (gCan X.K own ts b) (tCan X.K own ρB qt) (tCan X.K own (ρV X.K) de) vs) (dComp vs it b qt de) := by
  subst hvs
  exact xlc hc hN hi ok (fun s H C cl fp => let ⟨_, h⟩ := hg s H C cl fp; h.can) (fun s H C cl fp => let ⟨_, h⟩ := ht s H C cl fp; pts_can h) (fun s H C cl fp => let ⟨_, h⟩ := he s H C cl fp; h.can) hv hts hs
end
section
variable {P : Program} {w : World} {K : PySem.W.Frag} {mg : Str → Option Value} {base : Heap} {T : Nat → Option Fn} {f k : Nat} {x : Str} {st : Stmt} {a : Addr} {fd : FuncData} {N ps : List Str}
theorem def_okB (own : List Nat) {n np : Nat} {fr : Bool} {B : CallF → DS} (hT : T f = some ⟨n, np, fr, B⟩) (F : Fun K x x st a fd) (sc : FnScope N ps (defScope st)) (hn : N.length = n) (hp : ps.length = np) (ho : ∀ i ∈ own, np ≤ i)
    (body : ∀ (cdv : Value) (A : Around) (outer : List Env) (s : Shared) (H : Hp) (E : XK), Room k (cxOf CX0 P w K mg base N x (defScope st) a cdv A outer s H E).nox.A →
      ∃ t, PXSs (cxOf CX0 P w K mg base N x (defScope st) a cdv A outer s H E).nox own fr (defBody st) t (B (runF T k))) :
    FnOk P w K mg base CX0 (k + 1) a fd ps (spRun K T (k + 1) f) := def_ok own hT F sc hn hp ho body
end
end Kr

namespace Kr
open PySem PySem.Spec L2
open PyProof.Rows hiding St

/-! ### plain lemmas for computing with the denotations -/
theorem ix0 (x : D) (xs : List D) : gIx (.tup (x :: xs)) (.int 0) = some x := by
  show L2.atI (x :: xs) ((0 : Nat) : Int) = _
  exact L2.atI_nat rfl
theorem ix1 (x y : D) (xs : List D) : gIx (.tup (x :: y :: xs)) (.int 1) = some y := by
  show L2.atI (x :: y :: xs) ((1 : Nat) : Int) = _
  exact L2.atI_nat rfl
theorem ixT (n : Nat) (xs : List D) {x : D} (h : xs[n]? = some x) : gIx (.tup xs) (.int (n : Int)) = some x := L2.atI_nat h
theorem ixL (n : Nat) (xs : List D) {x : D} (h : xs[n]? = some x) : gIx (.lst xs) (.int (n : Int)) = some x := L2.atI_nat h
theorem cutLo (n : Nat) (xs : List D) : cutD xs (some (n : Int)) none = xs.drop n := by
  unfold cutD
  rw [HT.sIx_nat, HT.sIx_none]
  by_cases h : n ≤ xs.length
  · rw [Nat.min_eq_left h]
    exact List.take_of_length_le (by simp)
  · rw [Nat.min_eq_right (by omega)]
    simp
    omega
theorem cutHi (n : Nat) (xs : List D) : cutD xs none (some (n : Int)) = xs.take n := by
  unfold cutD
  rw [HT.sIx_nat, HT.sIx_none]
  by_cases h : n ≤ xs.length
  · rw [Nat.min_eq_left h]; simp
  · rw [Nat.min_eq_right (by omega)]
    simp
    exact (List.take_of_length_le (by omega)).symm
theorem cut1 (x : D) (xs : List D) : gCut (some 1) none (.tup (x :: xs)) = some (.tup xs) := by
  show some (D.tup (cutD (x :: xs) (some ((1 : Nat) : Int)) none)) = _
  rw [cutLo]; rfl
theorem cut2 (x y : D) (xs : List D) : gCut (some 2) none (.tup (x :: y :: xs)) = some (.tup xs) := by
  show some (D.tup (cutD (x :: y :: xs) (some ((2 : Nat) : Int)) none)) = _
  rw [cutLo]; rfl
theorem cutT1 (x : D) (xs : List D) : gCut none (some 1) (.tup (x :: xs)) = some (.tup [x]) := by
  show some (D.tup (cutD (x :: xs) none (some ((1 : Nat) : Int)))) = _
  rw [cutHi]; rfl
theorem cutT2 (x y : D) (xs : List D) : gCut none (some 2) (.tup (x :: y :: xs)) = some (.tup [x, y]) := by
  show some (D.tup (cutD (x :: y :: xs) none (some ((2 : Nat) : Int)))) = _
  rw [cutHi]; rfl
theorem sl (n : Nat) (h : n ≤ 100000) : n ≤ sizeLine := Nat.le_trans h (by decide)
theorem sl0 : 0 ≤ sizeLine := by decide
theorem sl1 : 1 ≤ sizeLine := by decide
theorem sl2 : 2 ≤ sizeLine := by decide
theorem sl3 : 3 ≤ sizeLine := by decide
theorem sl4 : 4 ≤ sizeLine := by decide
theorem sl5 : 5 ≤ sizeLine := by decide
theorem sl6 : 6 ≤ sizeLine := by decide
theorem sl7 : 7 ≤ sizeLine := by decide
theorem sl8 : 8 ≤ sizeLine := by decide
theorem sl11 : 11 ≤ sizeLine := by decide
/-- a comprehension that leaves the heap as it was -/
theorem cLoop_fm {α : Type} {f : D → List D → R (Option D × List D)} {H : List D} (i : α → D) (g : α → Option D) : ∀ xs : List α, (∀ x ∈ xs, f (i x) H = .ok (g x, H)) → cLoop f (xs.map i) H = .ok (xs.filterMap g, H)
  | [], _ => rfl
  | x :: xs, h => by
    rw [List.map_cons, cLoop, h x List.mem_cons_self]
    dsimp only
    rw [cLoop_fm i g xs fun y hy => h y (List.mem_cons_of_mem _ hy), List.filterMap_cons]
    cases g x <;> rfl
theorem dComp_fm {α : Type} {vs : List Nat} {it : DA} {b : D → S → R S} {tt : DB} {te : DE} {s : S} {H : List D} (i : α → D) (g : α → Option D) (xs : List α) (hi : it s = .ok (xs.map i, H)) (hf : ∀ x ∈ xs, cEl vs b tt te s.σ (i x) H = .ok (g x, H)) :
    dComp vs it b tt te s = .ok (.lst (xs.filterMap g), H) := by
  unfold dComp
  rw [hi]
  dsimp only
  rw [cLoop_fm i g xs hf]
theorem dComp_map {α : Type} {vs : List Nat} {it : DA} {b : D → S → R S} {tt : DB} {te : DE} {s : S} {H : List D} (i g : α → D) (xs : List α) (hi : it s = .ok (xs.map i, H)) (hf : ∀ x ∈ xs, cEl vs b tt te s.σ (i x) H = .ok (some (g x), H)) :
    dComp vs it b tt te s = .ok (.lst (xs.map g), H) := by
  rw [dComp_fm i (fun x => some (g x)) xs hi hf]
  simp
/-- a loop that goes on to its end: an invariant over the items left -/
theorem fLoop_inv {α : Type} {b : D → S → R S} {body : DS} (i : α → D) (J : List α → S → Prop) (st : ∀ x xs s, J (x :: xs) s → ∃ s1 s2, b (i x) s = .ok s1 ∧ body s1 = .ok (.nx, s2) ∧ J xs s2) :
    ∀ (xs : List α) (s : S), J xs s → ∃ s', fLoop b body (xs.map i) s = .ok (.nx, s') ∧ J [] s'
  | [], s, h => ⟨s, rfl, h⟩
  | x :: xs, s, h => by
    obtain ⟨s1, s2, e1, e2, h2⟩ := st x xs s h
    obtain ⟨s', e3, h3⟩ := fLoop_inv i J st xs s2 h2
    refine ⟨s', ?_, h3⟩
    rw [List.map_cons, fLoop, e1]
    dsimp only
    rw [e2]
    exact e3
theorem sFor_inv {α : Type} {it : DA} {b : D → S → R S} {body : DS} {s : S} {H : List D} (i : α → D) (J : List α → S → Prop) (xs : List α) (hi : it s = .ok (xs.map i, H)) (h0 : J xs ⟨s.σ, H⟩)
    (st : ∀ x ys s, J (x :: ys) s → ∃ s1 s2, b (i x) s = .ok s1 ∧ body s1 = .ok (.nx, s2) ∧ J ys s2) : ∃ s', sFor it b body s = .ok (.nx, s') ∧ J [] s' := by
  unfold sFor
  rw [hi]
  exact fLoop_inv i J st xs _ h0
/-- a loop as a fold over states -/
theorem fLoop_fold {α : Type} {b : D → S → R S} {body : DS} (i : α → D) (f : S → α → S) (st : ∀ x s, ∃ s1, b (i x) s = .ok s1 ∧ body s1 = .ok (.nx, f s x)) :
    ∀ (xs : List α) (s : S), fLoop b body (xs.map i) s = .ok (.nx, xs.foldl f s)
  | [], s => rfl
  | x :: xs, s => by
    obtain ⟨s1, e1, e2⟩ := st x s
    rw [List.map_cons, fLoop, e1]
    dsimp only
    rw [e2]
    exact fLoop_fold i f st xs _
theorem rng_map (n : Nat) : rngD 0 n = (List.range n).map fun (i : Nat) => D.int (i : Int) := by
  unfold rngD
  exact List.map_congr_left fun i _ => by rw [Int.zero_add]
theorem enumL_map (f : Nat → D → D) : ∀ (ds : List D) (n : Nat), enumL n ds = (ds.zipIdx n).map fun p => D.tup [.int (p.2 : Int), p.1]
  | [], n => rfl
  | d :: ds, n => by rw [enumL, List.zipIdx_cons, List.map_cons, enumL_map f ds (n + 1)]
end Kr

namespace Gk03
open PySem PySem.Spec L2 Kr
open PyProof.Rows hiding St
def top (i : Nat) : Stmt := PySem.Challenge.pw_kilnrow_k03_whole_parts_and_paths.main.body.getD i (.Pass ⟨0, 0, 0, 0⟩)
abbrev s0 : Stmt := top 1
abbrev s1 : Stmt := top 2
abbrev s2 : Stmt := top 3
abbrev s3 : Stmt := top 4
abbrev s4 : Stmt := top 5
abbrev s5 : Stmt := top 6
abbrev s6 : Stmt := top 7
abbrev s7 : Stmt := top 8
abbrev s8 : Stmt := top 9
abbrev s9 : Stmt := top 10
abbrev s10 : Stmt := top 12
abbrev s11 : Stmt := top 13
abbrev s12 : Stmt := top 14
abbrev s13 : Stmt := top 15
abbrev s14 : Stmt := top 16
abbrev s15 : Stmt := top 17
abbrev s16 : Stmt := top 18
abbrev s17 : Stmt := top 19
abbrev s18 : Stmt := top 20
abbrev s19 : Stmt := top 21
abbrev s20 : Stmt := top 22
abbrev s21 : Stmt := top 23
abbrev s22 : Stmt := top 24
abbrev s23 : Stmt := top 25
abbrev s24 : Stmt := top 26
abbrev s25 : Stmt := top 27
abbrev s26 : Stmt := top 28
/-! ### what each def computes -/
/-- parts_of -/
def B0 (cf : CallF) : DS := (sSeq (sAsg (o2 gIx (oV (dVar 0)) (oV (dC (.int 0)))) (bName 1))
    (sSeq (sIf (qVal (o2 gIn (oV (dVar 1)) (oV (dTup (aCons (dC (.str "text")) (aCons (dC (.str "name")) aNil)))))) (sRet (dTup aNil)) sNil)
    (sRet (dIf (qVal (o2 gIn (oV (dVar 1)) (oV (dTup (aCons (dC (.str "let")) (aCons (dC (.str "each")) aNil)))))) (dSl (oV (dVar 0)) (dPart (dC (.int 2))) (ret none)) (dSl (oV (dVar 0)) (dPart (dC (.int 1))) (ret none))))))
/-- with_parts -/
def B1 (cf : CallF) : DS := (sSeq (sAsg (o2 gIx (oV (dVar 0)) (oV (dC (.int 0)))) (bName 2))
    (sSeq (sIf (qVal (o2 gIn (oV (dVar 2)) (oV (dTup (aCons (dC (.str "text")) (aCons (dC (.str "name")) aNil)))))) (sRet (dVar 0)) sNil)
    (sRet (dIf (qVal (o2 gIn (oV (dVar 2)) (oV (dTup (aCons (dC (.str "let")) (aCons (dC (.str "each")) aNil)))))) (o2 gAdd (oV (dSl (oV (dVar 0)) (ret none) (dPart (dC (.int 2))))) (oV (dB gTuple (oCons (oV (dVar 1)) oNil)))) (o2 gAdd (oV (dSl (oV (dVar 0)) (ret none) (dPart (dC (.int 1))))) (oV (dB gTuple (oCons (oV (dVar 1)) oNil))))))))
/-- binds_in -/
def B2 (cf : CallF) : DS := (sRet (dAnd (o2 gIn (oV (o2 gIx (oV (dVar 0)) (oV (dC (.int 0))))) (oV (dTup (aCons (dC (.str "let")) (aCons (dC (.str "each")) aNil))))) (o2 gEq (oV (dVar 1)) (oV (dC (.int 1))))))
/-- free_names -/
def B3 (cf : CallF) : DS := (sRet (dB gTuple (oCons (oV (dB gSorted2 (oCons (oV (dCall cf 4 (aCons (dVar 0) aNil))) oNil))) oNil)))
/-- free_in -/
def Y4_0 (cf : CallF) : DS := (sSeq (sOwn 4 (dCall cf 4 (aCons (dVar 3) aNil)))
    (sSeq (sIf (qVal (dCall cf 2 (aCons (dVar 0) (aCons (dVar 2) aNil)))) (sPop2 4 (o2 gIx (oV (dVar 0)) (oV (dC (.int 1)))) (dC .non)) sNil)
    (sMO 1 mUpdate (oOwn 4))))
def L4_1 (cf : CallF) : DS := sFor (iEnumD (dCall cf 0 (aCons (dVar 0) aNil))) (bTup 2 (bsCons (bName 2) (bsCons (bName 3) bsNil))) (Y4_0 cf)
def B4 (cf : CallF) : DS := (sSeq (sIf (qVal (o2 gEq (oV (o2 gIx (oV (dVar 0)) (oV (dC (.int 0))))) (oV (dC (.str "name"))))) (sRet (dDisp (psCons (o2 gIx (oV (dVar 0)) (oV (dC (.int 1)))) (dC (.bl true)) psNil))) sNil)
    (sSeq (sOwn 1 (ret (.dic [])))
    (sSeq (L4_1 cf)
    (sRetOwn 1))))
/-- size_of -/
def C5_0 (cf : CallF) : DE := dComp [1]
  (iAnyD (dCall cf 0 (aCons (dVar 0) aNil)))
  (bName 1)
  (ret true)
  (dCall cf 5 (aCons (dVar 1) aNil))
def B5 (cf : CallF) : DS := (sRet (o2 gAdd (oV (dC (.int 1))) (oV (dB gSum (oCons (oV (C5_0 cf)) oNil)))))
/-- depth_of -/
def C6_0 (cf : CallF) : DE := dComp [1]
  (iAnyD (dCall cf 0 (aCons (dVar 0) aNil)))
  (bName 1)
  (ret true)
  (dCall cf 6 (aCons (dVar 1) aNil))
def B6 (cf : CallF) : DS := (sRet (o2 gAdd (oV (dC (.int 1))) (oV (dB gMax (oCons (oV (o2 gAdd (oV (C6_0 cf)) (oV (dLst (aCons (dC (.int 0)) aNil))))) oNil)))))
/-- paths_of -/
def C7_0 (cf : CallF) : DE := dComp [4]
  (iAnyD (dCall cf 7 (aCons (dVar 3) aNil)))
  (bName 4)
  (ret true)
  (o2 gAdd (oV (dTup (aCons (dVar 2) aNil))) (oV (dVar 4)))
def Y7_1 (cf : CallF) : DS := (sMV 1 mExtend (C7_0 cf))
def L7_2 (cf : CallF) : DS := sFor (iEnumD (dCall cf 0 (aCons (dVar 0) aNil))) (bTup 2 (bsCons (bName 2) (bsCons (bName 3) bsNil))) (Y7_1 cf)
def B7 (cf : CallF) : DS := (sSeq (sOwn 1 (dLst (aCons (dTup aNil) aNil)))
    (sSeq (L7_2 cf)
    (sRet (dB gTuple (oCons (oSlot 1) oNil)))))
/-- part_at -/
def Y8_0 (cf : CallF) : DS := (sAsg (o2 gIx (oV (dCall cf 0 (aCons (dVar 0) aNil))) (oV (dVar 2))) (bName 0))
def L8_1 (cf : CallF) : DS := sFor (iAnyD (dVar 1)) (bName 2) (Y8_0 cf)
def B8 (cf : CallF) : DS := (sSeq (L8_1 cf)
    (sRet (dVar 0)))
/-- with_part_at -/
def B9 (cf : CallF) : DS := (sSeq (sIf (qVal (o2 gEq (oV (dVar 1)) (oV (dTup aNil)))) (sRet (dVar 2)) sNil)
    (sSeq (sOwn 3 (dB gList (oCons (oV (dCall cf 0 (aCons (dVar 0) aNil))) oNil)))
    (sSeq (sSet 3 (dCall cf 9 (aCons (o2 gIx (oSlot 3) (oV (o2 gIx (oV (dVar 1)) (oV (dC (.int 0)))))) (aCons (dSl (oV (dVar 1)) (dPart (dC (.int 1))) (ret none)) (aCons (dVar 2) aNil)))) (o2 gIx (oV (dVar 1)) (oV (dC (.int 0)))))
    (sRet (dCall cf 1 (aCons (dVar 0) (aCons (dVar 3) aNil)))))))
/-- _law_cell -/
def B10 (cf : CallF) : DS := (sSeq (sIf (qVal (o2 gLt (oV (dVar 1)) (oV (dB gLen (oCons (oV (dVar 0)) oNil))))) (sRet (o2 gIx (oV (dVar 0)) (oV (dVar 1)))) sNil)
    (sRet (o2 gAdd (oV (o2 gMul (oV (dC (.int 5))) (oV (dVar 1)))) (oV (dC (.int 3))))))
/-- _law_draws -/
def Y11_0 (cf : CallF) : DS := (sIf (qAnd (qTru (oV (dVar 3))) (qVal (o2 gGt (oV (dVar 2)) (oV (dC (.int 0)))))) (sSeq (sMV 5 mAppend (o2 gMod (oV (dB gInt (oCons (oV (dVar 2)) oNil))) (oV (dC (.int 5040)))))
    (sAsg (o2 gDiv (oV (dVar 2)) (oV (dC (.int 5040)))) (bName 2))) (sSeq (sAsg (o2 gMod (oV (dB gInt (oCons (oV (o2 gAdd (oV (o2 gAdd (oV (o2 gMul (oV (dVar 4)) (oV (dC (.int 48271))))) (oV (o2 gMul (oV (o2 gAdd (oV (dVar 6)) (oV (dC (.int 1))))) (oV (dC (.int 69621))))))) (oV (dC (.int 11))))) oNil))) (oV (dC (.int 2147483647)))) (bName 7))
    (sSeq (sAsg (o2 gMod (oV (dB gInt (oCons (oV (o2 gAdd (oV (o2 gMul (oV (dVar 7)) (oV (dVar 7)))) (oV (o2 gMul (oV (dC (.int 40692))) (oV (o2 gAdd (oV (dVar 6)) (oV (dC (.int 3))))))))) oNil))) (oV (dC (.int 2147483399)))) (bName 7))
    (sMV 5 mAppend (o2 gMod (oV (dB gInt (oCons (oV (o2 gDiv (oV (dVar 7)) (oV (dC (.int 64))))) oNil))) (oV (dC (.int 5040))))))))
def L11_1 (cf : CallF) : DS := sFor (iRng1D (dVar 1)) (bName 6) (Y11_0 cf)
def B11 (cf : CallF) : DS := (sSeq (sAsg (dB gAbs (oCons (oV (dB gInt (oCons (oV (dVar 0)) oNil))) oNil)) (bName 2))
    (sSeq (sAsg (o2 gGe (oV (dVar 2)) (oV (o2 gPow (oV (dC (.int 10))) (oV (dC (.int 18)))))) (bName 3))
    (sSeq (sAsg (dVar 2) (bName 4))
    (sSeq (sOwn 5 (dLst aNil))
    (sSeq (L11_1 cf)
    (sRetOwn 5))))))
/-- _law_is_integer -/
def B12 (cf : CallF) : DS := (sRet (dAnd (dIsi "int" (oV (dVar 0))) (dNot (dIsi "bool" (oV (dVar 0))))))
/-- _law_is -/
def C13_0 (cf : CallF) : DE := dComp [2]
  (iRng1D (dB gLen (oCons (oV (dVar 1)) oNil)))
  (bName 2)
  (ret true)
  (dCall cf 13 (aCons (o2 gIx (oV (dVar 0)) (oV (dVar 2))) (aCons (o2 gIx (oV (dVar 1)) (oV (dVar 2))) aNil)))
def B13 (cf : CallF) : DS := (sSeq (sIf (qVal (o2 gIsN (oV (dVar 1)) (oV (dC .non)))) (sRet (o2 gIsN (oV (dVar 0)) (oV (dC .non)))) sNil)
    (sSeq (sIf (qVal (dIsi "bool" (oV (dVar 1)))) (sRet (dAnd (dIsi "bool" (oV (dVar 0))) (o2 gEq (oV (dVar 0)) (oV (dVar 1))))) sNil)
    (sSeq (sIf (qVal (dIsi "int" (oV (dVar 1)))) (sRet (dAnd (dCall cf 12 (aCons (dVar 0) aNil)) (o2 gEq (oV (dVar 0)) (oV (dVar 1))))) sNil)
    (sSeq (sIf (qVal (dIsi "str" (oV (dVar 1)))) (sRet (dAnd (dIsi "str" (oV (dVar 0))) (o2 gEq (oV (dVar 0)) (oV (dVar 1))))) sNil)
    (sSeq (sIf (qOr (qNot (qVal (dIsi "tuple" (oV (dVar 0))))) (qVal (o2 gNe (oV (dB gLen (oCons (oV (dVar 0)) oNil))) (oV (dB gLen (oCons (oV (dVar 1)) oNil)))))) (sRet (dC (.bl false))) sNil)
    (sRet (dB gAll (oCons (oV (C13_0 cf)) oNil))))))))
/-- _law_take -/
def B14 (cf : CallF) : DS := (sSeq (sAsg (o2 gIx (oOb (dVar 0)) (oV (dC (.str "at")))) (bName 2))
    (sSeq (sPutO (o2 gAdd (oV (dVar 2)) (oV (dC (.int 1)))) (dVar 0) (dC (.str "at")))
    (sSeq (sAsg (o2 gIx (oOb (dVar 0)) (oV (dC (.str "draws")))) (bName 3))
    (sRet (o2 gMod (oV (o2 gAdd (oV (o2 gDiv (oV (dB gInt (oCons (oV (o2 gIx (oV (dVar 3)) (oV (o2 gMod (oV (dVar 2)) (oV (dB gLen (oCons (oV (dVar 3)) oNil))))))) oNil))) (oV (o2 gIx (oV (dTup (aCons (dC (.int 1)) (aCons (dC (.int 7)) (aCons (dC (.int 59)) (aCons (dC (.int 211)) aNil)))))) (oV (o2 gMod (oV (o2 gDiv (oV (dVar 2)) (oV (dB gLen (oCons (oV (dVar 3)) oNil))))) (oV (dC (.int 4))))))))) (oV (o2 gDiv (oV (dVar 2)) (oV (o2 gMul (oV (dC (.int 4))) (oV (dB gLen (oCons (oV (dVar 3)) oNil))))))))) (oV (dVar 1)))))))
/-- _law_word -/
def B15 (cf : CallF) : DS := (sRet (o2 gIx (oV (dTup (aCons (dC (.str "a")) (aCons (dC (.str "b")) (aCons (dC (.str "c")) (aCons (dC (.str "d")) (aCons (dC (.str "e")) (aCons (dC (.str "f")) (aCons (dC (.str "x1")) (aCons (dC (.str "0")) (aCons (dC (.str "1")) (aCons (dC (.str "12")) (aCons (dC (.str "ab")) aNil))))))))))))) (oV (dCall cf 14 (aCons (dVar 0) (aCons (dC (.int 11)) aNil))))))
/-- _law_words -/
def C16_0 (cf : CallF) : DE := dComp [2]
  (iRng1D (dCall cf 14 (aCons (dVar 0) (aCons (o2 gAdd (oV (dVar 1)) (oV (dC (.int 1)))) aNil))))
  (bName 2)
  (ret true)
  (dCall cf 15 (aCons (dVar 0) aNil))
def B16 (cf : CallF) : DS := (sRet (dB gTuple (oCons (oV (C16_0 cf)) oNil)))
/-- _law_atom -/
def B17 (cf : CallF) : DS := (sSeq (sAsg (dCall cf 14 (aCons (dVar 0) (aCons (dC (.int 6)) aNil))) (bName 2))
    (sSeq (sIf (qAnd (qVal (o2 gLt (oV (dVar 2)) (oV (dC (.int 2))))) (qVal (o2 gGt (oV (dB gLen (oCons (oV (dVar 1)) oNil))) (oV (dC (.int 0)))))) (sRet (dTup (aCons (dC (.str "name")) (aCons (o2 gIx (oV (dVar 1)) (oV (dCall cf 14 (aCons (dVar 0) (aCons (dB gLen (oCons (oV (dVar 1)) oNil)) aNil))))) aNil)))) sNil)
    (sSeq (sIf (qVal (o2 gLt (oV (dVar 2)) (oV (dC (.int 5))))) (sRet (dTup (aCons (dC (.str "read")) (aCons (dTup (aCons (dC (.str "text")) (aCons (dTup (aCons (o2 gIx (oV (dTup (aCons (dC (.str "a")) (aCons (dC (.str "b")) (aCons (dC (.str "c")) (aCons (dC (.str "d")) (aCons (dC (.str "e")) (aCons (dC (.str "f")) (aCons (dC (.str "x1")) aNil))))))))) (oV (dCall cf 14 (aCons (dVar 0) (aCons (dC (.int 7)) aNil))))) aNil)) aNil))) aNil)))) sNil)
    (sRet (dTup (aCons (dC (.str "text")) (aCons (dCall cf 16 (aCons (dVar 0) (aCons (dC (.int 3)) aNil))) aNil)))))))
/-- _law_tree -/
def B18 (cf : CallF) : DS := (sSeq (sAsg (dIf (qVal (o2 gGt (oV (dVar 2)) (oV (dC (.int 0))))) (dCall cf 14 (aCons (dVar 0) (aCons (dC (.int 14)) aNil))) (dC (.int 14))) (bName 4))
    (sSeq (sIf (qVal (o2 gGt (oV (dVar 4)) (oV (dC (.int 11))))) (sRet (dCall cf 17 (aCons (dVar 0) (aCons (dVar 1) aNil)))) sNil)
    (sSeq (sIf (qVal (o2 gLt (oV (dVar 4)) (oV (dC (.int 4))))) (sSeq (sPar 5 6 (aCons (dCall cf 18 (aCons (dVar 0) (aCons (dVar 1) (aCons (o2 Kr.gSub (oV (dVar 2)) (oV (dC (.int 1)))) (aCons (dVar 3) aNil))))) (aCons (dCall cf 17 (aCons (dVar 0) (aCons (dVar 1) aNil))) aNil)))
    (sSeq (sAsg (dIf (qVal (o2 gEq (oV (dCall cf 14 (aCons (dVar 0) (aCons (dC (.int 2)) aNil)))) (oV (dC (.int 0))))) (dTup (aCons (dVar 5) (aCons (dVar 6) aNil))) (dTup (aCons (dVar 6) (aCons (dVar 5) aNil)))) (bName 7))
    (sRet (o2 gAdd (oV (dTup (aCons (dIf (qVal (o2 gLt (oV (dVar 4)) (oV (dC (.int 3))))) (dC (.str "join")) (dC (.str "glue"))) aNil))) (oV (dVar 7)))))) sNil)
    (sSeq (sIf (qVal (o2 gLt (oV (dVar 4)) (oV (dC (.int 6))))) (sSeq (sAsg (dCall cf 18 (aCons (dVar 0) (aCons (dVar 1) (aCons (o2 Kr.gSub (oV (dVar 2)) (oV (dC (.int 1)))) (aCons (dVar 3) aNil))))) (bName 8))
    (sRet (dTup (aCons (dC (.str "if")) (aCons (dVar 8) (aCons (dCall cf 17 (aCons (dVar 0) (aCons (dVar 1) aNil))) (aCons (dCall cf 18 (aCons (dVar 0) (aCons (dVar 1) (aCons (o2 Kr.gSub (oV (dVar 2)) (oV (dC (.int 1)))) (aCons (dVar 3) aNil))))) (aCons (dCall cf 17 (aCons (dVar 0) (aCons (dVar 1) aNil))) aNil)))))))) sNil)
    (sSeq (sIf (qVal (o2 gEq (oV (dVar 4)) (oV (dC (.int 6))))) (sRet (dTup (aCons (dC (.str "read")) (aCons (dTup (aCons (dC (.str "first")) (aCons (dCall cf 18 (aCons (dVar 0) (aCons (dVar 1) (aCons (o2 Kr.gSub (oV (dVar 2)) (oV (dC (.int 1)))) (aCons (dVar 3) aNil))))) aNil))) aNil)))) sNil)
    (sSeq (sIf (qVal (o2 gLt (oV (dVar 4)) (oV (dC (.int 9))))) (sRet (dTup (aCons (o2 gIx (oV (dTup (aCons (dC (.str "first")) (aCons (dC (.str "rest")) (aCons (dC (.str "count")) (aCons (dC (.str "order")) aNil)))))) (oV (dCall cf 14 (aCons (dVar 0) (aCons (dC (.int 4)) aNil))))) (aCons (dCall cf 18 (aCons (dVar 0) (aCons (dVar 1) (aCons (o2 Kr.gSub (oV (dVar 2)) (oV (dC (.int 1)))) (aCons (dVar 3) aNil))))) aNil)))) sNil)
    (sSeq (sAsg (o2 gAdd (oV (dC (.str "v"))) (oV (dB gStr (oCons (oV (dB gLen (oCons (oV (dVar 1)) oNil))) oNil)))) (bName 9))
    (sSeq (sIf (qOr (qVal (o2 gEq (oV (dVar 4)) (oV (dC (.int 9))))) (qVal (o2 gEq (oV (dVar 3)) (oV (dC (.int 0)))))) (sRet (dTup (aCons (dC (.str "let")) (aCons (dVar 9) (aCons (dCall cf 18 (aCons (dVar 0) (aCons (dVar 1) (aCons (o2 Kr.gSub (oV (dVar 2)) (oV (dC (.int 1)))) (aCons (dVar 3) aNil))))) (aCons (dCall cf 18 (aCons (dVar 0) (aCons (o2 gAdd (oV (dVar 1)) (oV (dLst (aCons (dVar 9) aNil)))) (aCons (o2 Kr.gSub (oV (dVar 2)) (oV (dC (.int 1)))) (aCons (dVar 3) aNil))))) aNil)))))) sNil)
    (sSeq (sIf (qVal (o2 gEq (oV (dVar 4)) (oV (dC (.int 10))))) (sRet (dTup (aCons (dC (.str "each")) (aCons (dVar 9) (aCons (dCall cf 17 (aCons (dVar 0) (aCons (dVar 1) aNil))) (aCons (dCall cf 18 (aCons (dVar 0) (aCons (o2 gAdd (oV (dVar 1)) (oV (dLst (aCons (dVar 9) aNil)))) (aCons (o2 Kr.gSub (oV (dVar 2)) (oV (dC (.int 1)))) (aCons (o2 Kr.gSub (oV (dVar 3)) (oV (dC (.int 1)))) aNil))))) aNil)))))) sNil)
    (sRet (dTup (aCons (dC (.str "each")) (aCons (dVar 9) (aCons (dCall cf 18 (aCons (dVar 0) (aCons (dVar 1) (aCons (o2 Kr.gSub (oV (dVar 2)) (oV (dC (.int 1)))) (aCons (dVar 3) aNil))))) (aCons (dTup (aCons (dC (.str "read")) (aCons (dTup (aCons (dC (.str "name")) (aCons (dVar 9) aNil))) aNil))) aNil)))))))))))))))
/-- _law_parts -/
def B19 (cf : CallF) : DS := (sSeq (sIf (qVal (o2 gIn (oV (o2 gIx (oV (dVar 0)) (oV (dC (.int 0))))) (oV (dTup (aCons (dC (.str "text")) (aCons (dC (.str "name")) aNil)))))) (sRet (dLst aNil)) sNil)
    (sRet (dIf (qVal (o2 gIn (oV (o2 gIx (oV (dVar 0)) (oV (dC (.int 0))))) (oV (dTup (aCons (dC (.str "let")) (aCons (dC (.str "each")) aNil)))))) (dB gList (oCons (oV (dSl (oV (dVar 0)) (dPart (dC (.int 2))) (ret none))) oNil)) (dB gList (oCons (oV (dSl (oV (dVar 0)) (dPart (dC (.int 1))) (ret none))) oNil)))))
/-- _law_rows -/
def Y20_0 (cf : CallF) : DS := (sSeq (sAsg (dIf (qAnd (qVal (o2 gIn (oV (o2 gIx (oV (dVar 0)) (oV (dC (.int 0))))) (oV (dTup (aCons (dC (.str "let")) (aCons (dC (.str "each")) aNil)))))) (qVal (o2 gEq (oV (dVar 5)) (oV (dC (.int 1)))))) (o2 gAdd (oV (dVar 2)) (oV (dLst (aCons (o2 gIx (oV (dVar 0)) (oV (dC (.int 1)))) aNil)))) (dVar 2)) (bName 6))
    (sAsg (o2 gAdd (oV (dVar 3)) (oV (dCall cf 20 (aCons (o2 gIx (oV (dVar 4)) (oV (dVar 5))) (aCons (o2 gAdd (oV (dVar 1)) (oV (dTup (aCons (dVar 5) aNil)))) (aCons (dVar 6) aNil)))))) (bName 3)))
def L20_1 (cf : CallF) : DS := sFor (iRng1D (dB gLen (oCons (oV (dVar 4)) oNil))) (bName 5) (Y20_0 cf)
def B20 (cf : CallF) : DS := (sSeq (sPar 3 4 (aCons (dLst (aCons (dTup (aCons (dVar 1) (aCons (dVar 0) (aCons (dVar 2) aNil)))) aNil)) (aCons (dCall cf 19 (aCons (dVar 0) aNil)) aNil)))
    (sSeq (L20_1 cf)
    (sRet (dVar 3))))
/-- _law_free -/
def C21_0 (cf : CallF) : DE := dComp [1, 2, 3]
  (iAnyD (dCall cf 20 (aCons (dVar 0) (aCons (dTup aNil) (aCons (dLst aNil) aNil)))))
  (bTup 3 (bsCons (bName 1) (bsCons (bName 2) (bsCons (bName 3) bsNil))))
  (qAnd (qVal (o2 gEq (oV (o2 gIx (oV (dVar 2)) (oV (dC (.int 0))))) (oV (dC (.str "name"))))) (qVal (o2 gNotIn (oV (o2 gIx (oV (dVar 2)) (oV (dC (.int 1))))) (oV (dVar 3)))))
  (o2 gIx (oV (dVar 2)) (oV (dC (.int 1))))
def B21 (cf : CallF) : DS := (sRet (dB gTuple (oCons (oV (dSorts (C21_0 cf))) oNil)))
/-- _law_rebuilt -/
def B22 (cf : CallF) : DS := (sSeq (sIf (qVal (o2 gEq (oV (dB gLen (oCons (oV (dVar 1)) oNil))) (oV (dC (.int 0))))) (sRet (dVar 2)) sNil)
    (sSeq (sOwn 3 (dCall cf 19 (aCons (dVar 0) aNil)))
    (sSeq (sSet 3 (dCall cf 22 (aCons (o2 gIx (oSlot 3) (oV (o2 gIx (oV (dVar 1)) (oV (dC (.int 0)))))) (aCons (dSl (oV (dVar 1)) (dPart (dC (.int 1))) (ret none)) (aCons (dVar 2) aNil)))) (o2 gIx (oV (dVar 1)) (oV (dC (.int 0)))))
    (sRet (o2 gAdd (oV (dIf (qVal (o2 gIn (oV (o2 gIx (oV (dVar 0)) (oV (dC (.int 0))))) (oV (dTup (aCons (dC (.str "let")) (aCons (dC (.str "each")) aNil)))))) (dSl (oV (dVar 0)) (ret none) (dPart (dC (.int 2)))) (dSl (oV (dVar 0)) (ret none) (dPart (dC (.int 1)))))) (oV (dB gTuple (oCons (oSlot 3) oNil))))))))
/-- _law_tree_fine -/
def C23_0 (cf : CallF) : DE := dComp [4, 5, 6]
  (iAnyD (dVar 3))
  (bTup 3 (bsCons (bName 4) (bsCons (bName 5) (bsCons (bName 6) bsNil))))
  (ret true)
  (dVar 4)
def C23_1 (cf : CallF) : DE := dComp [4, 5, 6]
  (iAnyD (dVar 3))
  (bTup 3 (bsCons (bName 4) (bsCons (bName 5) (bsCons (bName 6) bsNil))))
  (ret true)
  (dB gLen (oCons (oV (dVar 4)) oNil))
def Y23_2 (cf : CallF) : DS := (sAsg (dCall cf 22 (aCons (dVar 8) (aCons (dTup (aCons (dVar 9) aNil)) (aCons (o2 gIx (oV (dVar 7)) (oV (dVar 9))) aNil)))) (bName 8))
def L23_3 (cf : CallF) : DS := sFor (iRng1D (dB gLen (oCons (oV (dVar 7)) oNil))) (bName 9) (Y23_2 cf)
def Y23_4 (cf : CallF) : DS := (sSeq (sIf (qOr (qNot (qVal (dCall cf 13 (aCons (dCall cf 8 (aCons (dVar 1) (aCons (dVar 4) aNil))) (aCons (dVar 5) aNil))))) (qNot (qVal (dCall cf 13 (aCons (dCall cf 0 (aCons (dVar 5) aNil)) (aCons (dB gTuple (oCons (oV (dCall cf 19 (aCons (dVar 5) aNil))) oNil)) aNil)))))) (sRet (dC (.bl false))) sNil)
    (sSeq (sIf (qNot (qVal (dCall cf 13 (aCons (dCall cf 3 (aCons (dVar 5) aNil)) (aCons (dCall cf 21 (aCons (dVar 5) aNil)) aNil))))) (sRet (dC (.bl false))) sNil)
    (sSeq (sIf (qNot (qVal (dCall cf 13 (aCons (dCall cf 9 (aCons (dVar 1) (aCons (dVar 4) (aCons (dVar 2) aNil)))) (aCons (dCall cf 22 (aCons (dVar 1) (aCons (dVar 4) (aCons (dVar 2) aNil)))) aNil))))) (sRet (dC (.bl false))) sNil)
    (sSeq (sAsg (dRev (oV (dB gTuple (oCons (oV (dCall cf 19 (aCons (dVar 5) aNil))) oNil)))) (bName 7))
    (sSeq (sAsg (dVar 5) (bName 8))
    (sSeq (L23_3 cf)
    (sIf (qNot (qVal (dCall cf 13 (aCons (dCall cf 1 (aCons (dVar 5) (aCons (dVar 7) aNil))) (aCons (dVar 8) aNil))))) (sRet (dC (.bl false))) sNil)))))))
def L23_5 (cf : CallF) : DS := sFor (iAnyD (dVar 3)) (bTup 3 (bsCons (bName 4) (bsCons (bName 5) (bsCons (bName 6) bsNil)))) (Y23_4 cf)
def B23 (cf : CallF) : DS := (sSeq (sAsg (dCall cf 20 (aCons (dVar 1) (aCons (dTup aNil) (aCons (dLst aNil) aNil)))) (bName 3))
    (sSeq (sIf (qOr (qNot (qVal (dCall cf 13 (aCons (dCall cf 7 (aCons (dVar 1) aNil)) (aCons (dB gTuple (oCons (oV (C23_0 cf)) oNil)) aNil))))) (qNot (qVal (dCall cf 13 (aCons (dCall cf 5 (aCons (dVar 1) aNil)) (aCons (dB gLen (oCons (oV (dVar 3)) oNil)) aNil)))))) (sRet (dC (.bl false))) sNil)
    (sSeq (sIf (qNot (qVal (dCall cf 13 (aCons (dCall cf 6 (aCons (dVar 1) aNil)) (aCons (o2 gAdd (oV (dC (.int 1))) (oV (dB gMax (oCons (oV (C23_1 cf)) oNil)))) aNil))))) (sRet (dC (.bl false))) sNil)
    (sSeq (L23_5 cf)
    (sRet (dC (.bl true)))))))
/-- _law_free_fine -/
def C24_0 (cf : CallF) : DE := dComp [5, 6]
  (iAnyD (dVar 4))
  (bTup 2 (bsCons (bName 5) (bsCons (bName 6) bsNil)))
  (ret true)
  (dCall cf 13 (aCons (dCall cf 3 (aCons (dVar 5) aNil)) (aCons (dVar 6) aNil)))
def B24 (cf : CallF) : DS := (sSeq (sAsg (dTup (aCons (dTup (aCons (dC (.str "text")) (aCons (dTup aNil) aNil))) (aCons (dTup (aCons (dC (.str "name")) (aCons (dC (.str "x")) aNil))) (aCons (dTup (aCons (dC (.str "name")) (aCons (dC (.str "y")) aNil))) aNil)))) (bTup 3 (bsCons (bName 0) (bsCons (bName 1) (bsCons (bName 2) bsNil)))))
    (sSeq (sAsg (dTup (aCons (dC (.str "let")) (aCons (dC (.str "x")) (aCons (dVar 0) (aCons (dVar 1) aNil))))) (bName 3))
    (sSeq (sAsg (dLst (aCons (dTup (aCons (dTup (aCons (dC (.str "let")) (aCons (dC (.str "x")) (aCons (dVar 0) (aCons (dTup (aCons (dC (.str "join")) (aCons (dVar 3) (aCons (dVar 1) aNil)))) aNil))))) (aCons (dTup aNil) aNil))) (aCons (dTup (aCons (dTup (aCons (dC (.str "join")) (aCons (dVar 3) (aCons (dVar 1) aNil)))) (aCons (dTup (aCons (dC (.str "x")) aNil)) aNil))) (aCons (dTup (aCons (dTup (aCons (dC (.str "each")) (aCons (dC (.str "x")) (aCons (dVar 1) (aCons (dTup (aCons (dC (.str "each")) (aCons (dC (.str "x")) (aCons (dVar 1) (aCons (dVar 1) aNil))))) aNil))))) (aCons (dTup (aCons (dC (.str "x")) aNil)) aNil))) aNil)))) (bName 4))
    (sSeq (sAsg (o2 gAdd (oV (dVar 4)) (oV (dLst (aCons (dTup (aCons (dTup (aCons (dC (.str "let")) (aCons (dC (.str "x")) (aCons (dTup (aCons (dC (.str "let")) (aCons (dC (.str "x")) (aCons (dVar 1) (aCons (dVar 1) aNil))))) (aCons (dVar 1) aNil))))) (aCons (dTup (aCons (dC (.str "x")) aNil)) aNil))) (aCons (dTup (aCons (dTup (aCons (dC (.str "let")) (aCons (dC (.str "y")) (aCons (dVar 1) (aCons (dTup (aCons (dC (.str "each")) (aCons (dC (.str "x")) (aCons (dVar 2) (aCons (dTup (aCons (dC (.str "join")) (aCons (dVar 1) (aCons (dVar 2) aNil)))) aNil))))) aNil))))) (aCons (dTup (aCons (dC (.str "x")) aNil)) aNil))) aNil))))) (bName 4))
    (sSeq (sAsg (o2 gAdd (oV (dVar 4)) (oV (dLst (aCons (dTup (aCons (dTup (aCons (dC (.str "join")) (aCons (dTup (aCons (dC (.str "name")) (aCons (dC (.str "x2")) aNil))) (aCons (dTup (aCons (dC (.str "join")) (aCons (dTup (aCons (dC (.str "name")) (aCons (dC (.str "x10")) aNil))) (aCons (dTup (aCons (dC (.str "name")) (aCons (dC (.str "x2")) aNil))) aNil)))) aNil)))) (aCons (dTup (aCons (dC (.str "x10")) (aCons (dC (.str "x2")) aNil))) aNil))) (aCons (dTup (aCons (dTup (aCons (dC (.str "text")) (aCons (dTup (aCons (dC (.str "x")) aNil)) aNil))) (aCons (dTup aNil) aNil))) aNil))))) (bName 4))
    (sSeq (sAsg (o2 gAdd (oV (dVar 4)) (oV (dLst (aCons (dTup (aCons (dTup (aCons (dC (.str "if")) (aCons (dTup (aCons (dC (.str "name")) (aCons (dC (.str "w")) aNil))) (aCons (dVar 2) (aCons (dVar 1) (aCons (dTup (aCons (dC (.str "name")) (aCons (dC (.str "v")) aNil))) aNil)))))) (aCons (dTup (aCons (dC (.str "v")) (aCons (dC (.str "w")) (aCons (dC (.str "x")) (aCons (dC (.str "y")) aNil))))) aNil))) (aCons (dTup (aCons (dTup (aCons (dC (.str "if")) (aCons (dVar 0) (aCons (dVar 0) (aCons (dVar 3) (aCons (dVar 1) aNil)))))) (aCons (dTup (aCons (dC (.str "x")) aNil)) aNil))) (aCons (dTup (aCons (dTup (aCons (dC (.str "each")) (aCons (dC (.str "x")) (aCons (dVar 0) (aCons (dVar 3) aNil))))) (aCons (dTup aNil) aNil))) aNil)))))) (bName 4))
    (sSeq (sAsg (o2 gAdd (oV (dVar 4)) (oV (dLst (aCons (dTup (aCons (dTup (aCons (dC (.str "each")) (aCons (dC (.str "x")) (aCons (dVar 0) (aCons (dTup (aCons (dC (.str "join")) (aCons (dTup (aCons (dC (.str "each")) (aCons (dC (.str "x")) (aCons (dVar 1) (aCons (dVar 1) aNil))))) (aCons (dVar 1) aNil)))) aNil))))) (aCons (dTup aNil) aNil))) (aCons (dTup (aCons (dTup (aCons (dC (.str "let")) (aCons (dC (.str "x")) (aCons (dVar 0) (aCons (dTup (aCons (dC (.str "let")) (aCons (dC (.str "y")) (aCons (dVar 0) (aCons (dTup (aCons (dC (.str "if")) (aCons (dVar 1) (aCons (dVar 2) (aCons (dVar 1) (aCons (dVar 2) aNil)))))) aNil))))) aNil))))) (aCons (dTup aNil) aNil))) aNil))))) (bName 4))
    (sSeq (sAsg (o2 gAdd (oV (dVar 4)) (oV (dLst (aCons (dTup (aCons (dTup (aCons (dC (.str "join")) (aCons (dTup (aCons (dC (.str "each")) (aCons (dC (.str "x")) (aCons (dVar 0) (aCons (dVar 1) aNil))))) (aCons (dTup (aCons (dC (.str "let")) (aCons (dC (.str "y")) (aCons (dVar 1) (aCons (dVar 2) aNil))))) aNil)))) (aCons (dTup (aCons (dC (.str "x")) aNil)) aNil))) (aCons (dTup (aCons (dTup (aCons (dC (.str "read")) (aCons (dTup (aCons (dC (.str "text")) (aCons (dTup (aCons (dC (.str "x")) aNil)) aNil))) aNil))) (aCons (dTup aNil) aNil))) aNil))))) (bName 4))
    (sRet (dB gAll (oCons (oV (C24_0 cf)) oNil)))))))))))
/-- _law_parts_fine -/
def B25 (cf : CallF) : DS := (sSeq (sAsg (dTup (aCons (dTup (aCons (dC (.str "text")) (aCons (dTup (aCons (dC (.str "a")) (aCons (dC (.str "b")) aNil))) aNil))) (aCons (dTup (aCons (dC (.str "name")) (aCons (dC (.str "x")) aNil))) aNil))) (bTup 2 (bsCons (bName 0) (bsCons (bName 1) bsNil))))
    (sSeq (sAsg (dTup (aCons (dC (.str "let")) (aCons (dC (.str "x")) (aCons (dVar 0) (aCons (dTup (aCons (dC (.str "if")) (aCons (dVar 0) (aCons (dVar 1) (aCons (dTup (aCons (dC (.str "count")) (aCons (dVar 1) aNil))) (aCons (dVar 0) aNil)))))) aNil))))) (bName 2))
    (sSeq (sAsg (dTup (aCons (dTup aNil) (aCons (dTup (aCons (dC (.int 0)) aNil)) (aCons (dTup (aCons (dC (.int 1)) aNil)) (aCons (dTup (aCons (dC (.int 1)) (aCons (dC (.int 0)) aNil))) (aCons (dTup (aCons (dC (.int 1)) (aCons (dC (.int 1)) aNil))) (aCons (dTup (aCons (dC (.int 1)) (aCons (dC (.int 2)) aNil))) (aCons (dTup (aCons (dC (.int 1)) (aCons (dC (.int 2)) (aCons (dC (.int 0)) aNil)))) (aCons (dTup (aCons (dC (.int 1)) (aCons (dC (.int 3)) aNil))) aNil))))))))) (bName 3))
    (sSeq (sIf (qNot (qVal (dCall cf 13 (aCons (dTup (aCons (dCall cf 7 (aCons (dVar 2) aNil)) (aCons (dCall cf 5 (aCons (dVar 2) aNil)) (aCons (dCall cf 6 (aCons (dVar 2) aNil)) aNil)))) (aCons (dTup (aCons (dVar 3) (aCons (dC (.int 8)) (aCons (dC (.int 4)) aNil)))) aNil))))) (sRet (dC (.bl false))) sNil)
    (sSeq (sIf (qNot (qVal (dCall cf 13 (aCons (dTup (aCons (dCall cf 8 (aCons (dVar 2) (aCons (dTup (aCons (dC (.int 1)) (aCons (dC (.int 2)) (aCons (dC (.int 0)) aNil)))) aNil))) (aCons (dCall cf 8 (aCons (dVar 2) (aCons (dTup (aCons (dC (.int 1)) (aCons (dC (.int 3)) aNil))) aNil))) (aCons (dCall cf 8 (aCons (dVar 2) (aCons (dTup aNil) aNil))) aNil)))) (aCons (dTup (aCons (dVar 1) (aCons (dVar 0) (aCons (dVar 2) aNil)))) aNil))))) (sRet (dC (.bl false))) sNil)
    (sSeq (sIf (qNot (qVal (dCall cf 13 (aCons (dTup (aCons (dCall cf 0 (aCons (dVar 2) aNil)) (aCons (dCall cf 0 (aCons (dVar 0) aNil)) (aCons (dCall cf 0 (aCons (dVar 1) aNil)) (aCons (dCall cf 0 (aCons (dTup (aCons (dC (.str "order")) (aCons (dVar 1) aNil))) aNil)) aNil))))) (aCons (dTup (aCons (dTup (aCons (dVar 0) (aCons (o2 gIx (oV (dVar 2)) (oV (dC (.int 3)))) aNil))) (aCons (dTup aNil) (aCons (dTup aNil) (aCons (dTup (aCons (dVar 1) aNil)) aNil))))) aNil))))) (sRet (dC (.bl false))) sNil)
    (sSeq (sIf (qNot (qVal (dCall cf 13 (aCons (dTup (aCons (dCall cf 6 (aCons (dVar 1) aNil)) (aCons (dCall cf 5 (aCons (dVar 0) aNil)) (aCons (dCall cf 7 (aCons (dVar 0) aNil)) (aCons (dCall cf 3 (aCons (o2 gIx (oV (dVar 2)) (oV (dC (.int 3)))) aNil)) aNil))))) (aCons (dTup (aCons (dC (.int 1)) (aCons (dC (.int 1)) (aCons (dTup (aCons (dTup aNil) aNil)) (aCons (dTup (aCons (dC (.str "x")) aNil)) aNil))))) aNil))))) (sRet (dC (.bl false))) sNil)
    (sSeq (sAsg (dTup (aCons (dC (.str "let")) (aCons (dC (.str "x")) (aCons (dVar 0) (aCons (dTup (aCons (dC (.str "if")) (aCons (dVar 0) (aCons (dVar 1) (aCons (dTup (aCons (dC (.str "count")) (aCons (dTup (aCons (dC (.str "name")) (aCons (dC (.str "y")) aNil))) aNil))) (aCons (dVar 0) aNil)))))) aNil))))) (bName 4))
    (sSeq (sIf (qOr (qNot (qVal (dCall cf 13 (aCons (dCall cf 9 (aCons (dVar 2) (aCons (dTup (aCons (dC (.int 1)) (aCons (dC (.int 2)) (aCons (dC (.int 0)) aNil)))) (aCons (dTup (aCons (dC (.str "name")) (aCons (dC (.str "y")) aNil))) aNil)))) (aCons (dVar 4) aNil))))) (qNot (qVal (dCall cf 13 (aCons (dCall cf 9 (aCons (dVar 1) (aCons (dTup aNil) (aCons (dVar 2) aNil)))) (aCons (dVar 2) aNil)))))) (sRet (dC (.bl false))) sNil)
    (sSeq (sIf (qOr (qNot (qVal (dCall cf 13 (aCons (dCall cf 1 (aCons (dTup (aCons (dC (.str "each")) (aCons (dC (.str "x")) (aCons (dVar 0) (aCons (dVar 1) aNil))))) (aCons (dTup (aCons (dVar 1) (aCons (dVar 0) aNil))) aNil))) (aCons (dTup (aCons (dC (.str "each")) (aCons (dC (.str "x")) (aCons (dVar 1) (aCons (dVar 0) aNil))))) aNil))))) (qNot (qVal (dCall cf 13 (aCons (dCall cf 1 (aCons (dVar 1) (aCons (dTup aNil) aNil))) (aCons (dVar 1) aNil)))))) (sRet (dC (.bl false))) sNil)
    (sRet (dAnd (dCall cf 13 (aCons (dCall cf 1 (aCons (dTup (aCons (dC (.str "if")) (aCons (dVar 0) (aCons (dVar 1) (aCons (dVar 0) (aCons (dVar 1) aNil)))))) (aCons (dTup (aCons (dVar 1) (aCons (dVar 0) (aCons (dVar 1) (aCons (dVar 1) aNil))))) aNil))) (aCons (dTup (aCons (dC (.str "if")) (aCons (dVar 1) (aCons (dVar 0) (aCons (dVar 1) (aCons (dVar 1) aNil)))))) aNil))) (dCall cf 13 (aCons (dCall cf 1 (aCons (dTup (aCons (dC (.str "read")) (aCons (dVar 1) aNil))) (aCons (dTup (aCons (dVar 0) aNil)) aNil))) (aCons (dTup (aCons (dC (.str "read")) (aCons (dVar 0) aNil))) aNil)))))))))))))))
/-- law -/
def Y26_0 (cf : CallF) : DS := (sSeq (sPar 4 5 (aCons (dCall cf 18 (aCons (dVar 2) (aCons (dLst aNil) (aCons (dC (.int 3)) (aCons (dC (.int 2)) aNil))))) (aCons (dCall cf 18 (aCons (dVar 2) (aCons (dLst (aCons (dC (.str "v0")) (aCons (dC (.str "w")) aNil))) (aCons (dC (.int 1)) (aCons (dC (.int 1)) aNil))))) aNil)))
    (sIf (qNot (qVal (dCall cf 23 (aCons (dVar 2) (aCons (dVar 4) (aCons (dVar 5) aNil)))))) (sRet (dC (.bl false))) sNil))
def L26_1 (cf : CallF) : DS := sFor (iRng1D (dC (.int 3))) (bName 3) (Y26_0 cf)
def Y26_2 (cf : CallF) : DS := (sSeq (sObj 2 (dDisp (psCons (dC (.str "draws")) (dCall cf 11 (aCons (dCall cf 10 (aCons (dVar 0) (aCons (dVar 1) aNil))) (aCons (dC (.int 200)) aNil))) (psCons (dC (.str "at")) (dC (.int 0)) psNil))))
    (L26_1 cf))
def L26_3 (cf : CallF) : DS := sFor (iRng1D (dC (.int 5))) (bName 1) (Y26_2 cf)
def B26 (cf : CallF) : DS := (sSeq (L26_3 cf)
    (sSeq (sIf (qOr (qNot (qVal (dCall cf 24 aNil))) (qNot (qVal (dCall cf 25 aNil)))) (sRet (dC (.bl false))) sNil)
    (sRet (dCall cf 13 (aCons (dCall cf 3 (aCons (dTup (aCons (dC (.str "let")) (aCons (dC (.str "x")) (aCons (dTup (aCons (dC (.str "name")) (aCons (dC (.str "x")) aNil))) (aCons (dTup (aCons (dC (.str "each")) (aCons (dC (.str "y")) (aCons (dTup (aCons (dC (.str "name")) (aCons (dC (.str "y")) aNil))) (aCons (dTup (aCons (dC (.str "name")) (aCons (dC (.str "x")) aNil))) aNil))))) aNil))))) aNil)) (aCons (dTup (aCons (dC (.str "x")) (aCons (dC (.str "y")) aNil))) aNil))))))
def N0 : List Str := ["expression", "sort"]
def P0 : List Str := ["expression"]
def F0 : Fn := ⟨2, 1, false, B0⟩
def N1 : List Str := ["expression", "parts", "sort"]
def P1 : List Str := ["expression", "parts"]
def F1 : Fn := ⟨3, 2, false, B1⟩
def N2 : List Str := ["expression", "at"]
def P2 : List Str := ["expression", "at"]
def F2 : Fn := ⟨2, 2, false, B2⟩
def N3 : List Str := ["expression"]
def P3 : List Str := ["expression"]
def F3 : Fn := ⟨1, 1, false, B3⟩
def N4 : List Str := ["expression", "found", "at", "part", "names"]
def P4 : List Str := ["expression"]
def F4 : Fn := ⟨5, 1, true, B4⟩
def N5 : List Str := ["expression", "part"]
def P5 : List Str := ["expression"]
def F5 : Fn := ⟨2, 1, false, B5⟩
def N6 : List Str := ["expression", "part"]
def P6 : List Str := ["expression"]
def F6 : Fn := ⟨2, 1, false, B6⟩
def N7 : List Str := ["expression", "found", "at", "part", "path"]
def P7 : List Str := ["expression"]
def F7 : Fn := ⟨5, 1, false, B7⟩
def N8 : List Str := ["expression", "path", "at"]
def P8 : List Str := ["expression", "path"]
def F8 : Fn := ⟨3, 2, false, B8⟩
def N9 : List Str := ["expression", "path", "other", "parts"]
def P9 : List Str := ["expression", "path", "other"]
def F9 : Fn := ⟨4, 3, false, B9⟩
def N10 : List Str := ["script", "k"]
def P10 : List Str := ["script", "k"]
def F10 : Fn := ⟨2, 2, false, B10⟩
def N11 : List Str := ["cell", "count", "rest", "digits", "seed", "draws", "k", "mixed"]
def P11 : List Str := ["cell", "count"]
def F11 : Fn := ⟨8, 2, false, B11⟩
def N12 : List Str := ["value"]
def P12 : List Str := ["value"]
def F12 : Fn := ⟨1, 1, false, B12⟩
def N13 : List Str := ["value", "due", "at"]
def P13 : List Str := ["value", "due"]
def F13 : Fn := ⟨3, 2, false, B13⟩
def N14 : List Str := ["made", "most", "at", "draws"]
def P14 : List Str := ["made", "most"]
def F14 : Fn := ⟨4, 2, false, B14⟩
def N15 : List Str := ["made"]
def P15 : List Str := ["made"]
def F15 : Fn := ⟨1, 1, false, B15⟩
def N16 : List Str := ["made", "most", "at"]
def P16 : List Str := ["made", "most"]
def F16 : Fn := ⟨3, 2, false, B16⟩
def N17 : List Str := ["made", "known", "way"]
def P17 : List Str := ["made", "known"]
def F17 : Fn := ⟨3, 2, false, B17⟩
def N18 : List Str := ["made", "known", "depth", "loops", "way", "one", "other", "pair", "test", "name"]
def P18 : List Str := ["made", "known", "depth", "loops"]
def F18 : Fn := ⟨10, 4, false, B18⟩
def N19 : List Str := ["tree"]
def P19 : List Str := ["tree"]
def F19 : Fn := ⟨1, 1, true, B19⟩
def N20 : List Str := ["tree", "path", "known", "rows", "parts", "at", "inner"]
def P20 : List Str := ["tree", "path", "known"]
def F20 : Fn := ⟨7, 3, false, B20⟩
def N21 : List Str := ["tree", "path", "one", "known"]
def P21 : List Str := ["tree"]
def F21 : Fn := ⟨4, 1, false, B21⟩
def N22 : List Str := ["tree", "path", "other", "parts"]
def P22 : List Str := ["tree", "path", "other"]
def F22 : Fn := ⟨4, 3, false, B22⟩
def N23 : List Str := ["made", "tree", "other", "rows", "path", "one", "known", "turned", "due", "at"]
def P23 : List Str := ["made", "tree", "other"]
def F23 : Fn := ⟨10, 3, false, B23⟩
def N24 : List Str := ["t", "x", "y", "inner", "rows", "tree", "due"]
def P24 : List Str := []
def F24 : Fn := ⟨7, 0, false, B24⟩
def N25 : List Str := ["t", "x", "tree", "paths", "due"]
def P25 : List Str := []
def F25 : Fn := ⟨5, 0, false, B25⟩
def N26 : List Str := ["script", "k", "made", "turn", "tree", "other"]
def P26 : List Str := ["script"]
def F26 : Fn := ⟨6, 1, false, B26⟩
def T : Nat → Option Fn
  | 0 => some F0
  | 1 => some F1
  | 2 => some F2
  | 3 => some F3
  | 4 => some F4
  | 5 => some F5
  | 6 => some F6
  | 7 => some F7
  | 8 => some F8
  | 9 => some F9
  | 10 => some F10
  | 11 => some F11
  | 12 => some F12
  | 13 => some F13
  | 14 => some F14
  | 15 => some F15
  | 16 => some F16
  | 17 => some F17
  | 18 => some F18
  | 19 => some F19
  | 20 => some F20
  | 21 => some F21
  | 22 => some F22
  | 23 => some F23
  | 24 => some F24
  | 25 => some F25
  | 26 => some F26
  | _ => none
theorem T0_eq : T 0 = some F0 := rfl
theorem T1_eq : T 1 = some F1 := rfl
theorem T2_eq : T 2 = some F2 := rfl
theorem T3_eq : T 3 = some F3 := rfl
theorem T4_eq : T 4 = some F4 := rfl
theorem T5_eq : T 5 = some F5 := rfl
theorem T6_eq : T 6 = some F6 := rfl
theorem T7_eq : T 7 = some F7 := rfl
theorem T8_eq : T 8 = some F8 := rfl
theorem T9_eq : T 9 = some F9 := rfl
theorem T10_eq : T 10 = some F10 := rfl
theorem T11_eq : T 11 = some F11 := rfl
theorem T12_eq : T 12 = some F12 := rfl
theorem T13_eq : T 13 = some F13 := rfl
theorem T14_eq : T 14 = some F14 := rfl
theorem T15_eq : T 15 = some F15 := rfl
theorem T16_eq : T 16 = some F16 := rfl
theorem T17_eq : T 17 = some F17 := rfl
theorem T18_eq : T 18 = some F18 := rfl
theorem T19_eq : T 19 = some F19 := rfl
theorem T20_eq : T 20 = some F20 := rfl
theorem T21_eq : T 21 = some F21 := rfl
theorem T22_eq : T 22 = some F22 := rfl
theorem T23_eq : T 23 = some F23 := rfl
theorem T24_eq : T 24 = some F24 := rfl
theorem T25_eq : T 25 = some F25 := rfl
theorem T26_eq : T 26 = some F26 := rfl
/-! ### each def keeps it -/
structure Bl (mg : Str → Option Value) : Prop where
  z_abs : mg "abs" = none
  z_all : mg "all" = none
  z_bool : mg "bool" = none
  z_enumerate : mg "enumerate" = none
  z_int : mg "int" = none
  z_isinstance : mg "isinstance" = none
  z_len : mg "len" = none
  z_list : mg "list" = none
  z_max : mg "max" = none
  z_range : mg "range" = none
  z_set : mg "set" = none
  z_sorted : mg "sorted" = none
  z_str : mg "str" = none
  z_sum : mg "sum" = none
  z_tuple : mg "tuple" = none
structure Cs (P : Program) (w : World) (K : PySem.W.Frag) (mg : Str → Option Value) (base : Heap) (k : Nat) : Prop where
  c0 : CalG P w K mg base T k "parts_of" 0
  c1 : CalG P w K mg base T k "with_parts" 1
  c2 : CalG P w K mg base T k "binds_in" 2
  c3 : CalG P w K mg base T k "free_names" 3
  c4 : CalG P w K mg base T k "free_in" 4
  c5 : CalG P w K mg base T k "size_of" 5
  c6 : CalG P w K mg base T k "depth_of" 6
  c7 : CalG P w K mg base T k "paths_of" 7
  c8 : CalG P w K mg base T k "part_at" 8
  c9 : CalG P w K mg base T k "with_part_at" 9
  c10 : CalG P w K mg base T k "_law_cell" 10
  c11 : CalG P w K mg base T k "_law_draws" 11
  c12 : CalG P w K mg base T k "_law_is_integer" 12
  c13 : CalG P w K mg base T k "_law_is" 13
  c14 : CalG P w K mg base T k "_law_take" 14
  c15 : CalG P w K mg base T k "_law_word" 15
  c16 : CalG P w K mg base T k "_law_words" 16
  c17 : CalG P w K mg base T k "_law_atom" 17
  c18 : CalG P w K mg base T k "_law_tree" 18
  c19 : CalG P w K mg base T k "_law_parts" 19
  c20 : CalG P w K mg base T k "_law_rows" 20
  c21 : CalG P w K mg base T k "_law_free" 21
  c22 : CalG P w K mg base T k "_law_rebuilt" 22
  c23 : CalG P w K mg base T k "_law_tree_fine" 23
  c24 : CalG P w K mg base T k "_law_free_fine" 24
  c25 : CalG P w K mg base T k "_law_parts_fine" 25
  c26 : CalG P w K mg base T k "law" 26
theorem sc0 : FnScope N0 P0 (defScope s0) := ⟨rfl, rfl, rfl, by decide +kernel, rfl, by decide +kernel, by decide +kernel⟩
theorem sc1 : FnScope N1 P1 (defScope s1) := ⟨rfl, rfl, rfl, by decide +kernel, rfl, by decide +kernel, by decide +kernel⟩
theorem sc2 : FnScope N2 P2 (defScope s2) := ⟨rfl, rfl, rfl, by decide +kernel, rfl, by decide +kernel, by decide +kernel⟩
theorem sc3 : FnScope N3 P3 (defScope s3) := ⟨rfl, rfl, rfl, by decide +kernel, rfl, by decide +kernel, by decide +kernel⟩
theorem sc4 : FnScope N4 P4 (defScope s4) := ⟨rfl, rfl, rfl, by decide +kernel, rfl, by decide +kernel, by decide +kernel⟩
theorem sc5 : FnScope N5 P5 (defScope s5) := ⟨rfl, rfl, rfl, by decide +kernel, rfl, by decide +kernel, by decide +kernel⟩
theorem sc6 : FnScope N6 P6 (defScope s6) := ⟨rfl, rfl, rfl, by decide +kernel, rfl, by decide +kernel, by decide +kernel⟩
theorem sc7 : FnScope N7 P7 (defScope s7) := ⟨rfl, rfl, rfl, by decide +kernel, rfl, by decide +kernel, by decide +kernel⟩
theorem sc8 : FnScope N8 P8 (defScope s8) := ⟨rfl, rfl, rfl, by decide +kernel, rfl, by decide +kernel, by decide +kernel⟩
theorem sc9 : FnScope N9 P9 (defScope s9) := ⟨rfl, rfl, rfl, by decide +kernel, rfl, by decide +kernel, by decide +kernel⟩
theorem sc10 : FnScope N10 P10 (defScope s10) := ⟨rfl, rfl, rfl, by decide +kernel, rfl, by decide +kernel, by decide +kernel⟩
theorem sc11 : FnScope N11 P11 (defScope s11) := ⟨rfl, rfl, rfl, by decide +kernel, rfl, by decide +kernel, by decide +kernel⟩
theorem sc12 : FnScope N12 P12 (defScope s12) := ⟨rfl, rfl, rfl, by decide +kernel, rfl, by decide +kernel, by decide +kernel⟩
theorem sc13 : FnScope N13 P13 (defScope s13) := ⟨rfl, rfl, rfl, by decide +kernel, rfl, by decide +kernel, by decide +kernel⟩
theorem sc14 : FnScope N14 P14 (defScope s14) := ⟨rfl, rfl, rfl, by decide +kernel, rfl, by decide +kernel, by decide +kernel⟩
theorem sc15 : FnScope N15 P15 (defScope s15) := ⟨rfl, rfl, rfl, by decide +kernel, rfl, by decide +kernel, by decide +kernel⟩
theorem sc16 : FnScope N16 P16 (defScope s16) := ⟨rfl, rfl, rfl, by decide +kernel, rfl, by decide +kernel, by decide +kernel⟩
theorem sc17 : FnScope N17 P17 (defScope s17) := ⟨rfl, rfl, rfl, by decide +kernel, rfl, by decide +kernel, by decide +kernel⟩
theorem sc18 : FnScope N18 P18 (defScope s18) := ⟨rfl, rfl, rfl, by decide +kernel, rfl, by decide +kernel, by decide +kernel⟩
theorem sc19 : FnScope N19 P19 (defScope s19) := ⟨rfl, rfl, rfl, by decide +kernel, rfl, by decide +kernel, by decide +kernel⟩
theorem sc20 : FnScope N20 P20 (defScope s20) := ⟨rfl, rfl, rfl, by decide +kernel, rfl, by decide +kernel, by decide +kernel⟩
theorem sc21 : FnScope N21 P21 (defScope s21) := ⟨rfl, rfl, rfl, by decide +kernel, rfl, by decide +kernel, by decide +kernel⟩
theorem sc22 : FnScope N22 P22 (defScope s22) := ⟨rfl, rfl, rfl, by decide +kernel, rfl, by decide +kernel, by decide +kernel⟩
theorem sc23 : FnScope N23 P23 (defScope s23) := ⟨rfl, rfl, rfl, by decide +kernel, rfl, by decide +kernel, by decide +kernel⟩
theorem sc24 : FnScope N24 P24 (defScope s24) := ⟨rfl, rfl, rfl, by decide +kernel, rfl, by decide +kernel, by decide +kernel⟩
theorem sc25 : FnScope N25 P25 (defScope s25) := ⟨rfl, rfl, rfl, by decide +kernel, rfl, by decide +kernel, by decide +kernel⟩
theorem sc26 : FnScope N26 P26 (defScope s26) := ⟨rfl, rfl, rfl, by decide +kernel, rfl, by decide +kernel, by decide +kernel⟩
section
variable {P : Program} {w : World} {K : PySem.W.Frag} {mg : Str → Option Value} {base : Heap} {k : Nat} {a : Addr} {fd : FuncData}
/-- parts_of -/
theorem ok0 (F : Fun K "parts_of" "parts_of" s0 a fd) (z : Bl mg) (c : Cs P w K mg base k) : FnOk P w K mg base CX0 (k + 1) a fd P0 (spRun K T (k + 1) 0) :=
  def_okB (B := B0) (fr := false) [] T0_eq F sc0 rfl rfl (by decide) fun cdv A outer s H E hr => ⟨_, (ss_cons (s_set 1 sc0.nd (xix (ix_all (by exact hu_of hr)) g_ix (xo (xv 0)) (xo xint)))
    (ss_cons (s_if (xqcmp (op_inA (by exact hu_of hr)) g_in (xo (xv 1)) (xo (xtup (xa_cons xstr (xa_cons xstr xa_nil))))) (ss_one (s_ret (xtup xa_nil))) ss_nil)
    (ss_one (s_ret (xif (xqcmp (op_inA (by exact hu_of hr)) g_in (xo (xv 1)) (xo (xtup (xa_cons xstr (xa_cons xstr xa_nil))))) (xsl (xo (xv 0)) (xp_some xint) xp_none) (xsl (xo (xv 0)) (xp_some xint) xp_none))))))⟩
/-- with_parts -/
theorem ok1 (F : Fun K "with_parts" "with_parts" s1 a fd) (z : Bl mg) (c : Cs P w K mg base k) : FnOk P w K mg base CX0 (k + 1) a fd P1 (spRun K T (k + 1) 1) :=
  def_okB (B := B1) (fr := false) [] T1_eq F sc1 rfl rfl (by decide) fun cdv A outer s H E hr => ⟨_, (ss_cons (s_set 2 sc1.nd (xix (ix_all (by exact hu_of hr)) g_ix (xo (xv 0)) (xo xint)))
    (ss_cons (s_if (xqcmp (op_inA (by exact hu_of hr)) g_in (xo (xv 2)) (xo (xtup (xa_cons xstr (xa_cons xstr xa_nil))))) (ss_one (s_ret (xv 0))) ss_nil)
    (ss_one (s_ret (xif (xqcmp (op_inA (by exact hu_of hr)) g_in (xo (xv 2)) (xo (xtup (xa_cons xstr (xa_cons xstr xa_nil))))) (xbin op_addA g_addA (xo (xsl (xo (xv 0)) xp_none (xp_some xint))) (xo (xT call_tuple_of g_tuple z.z_tuple (xos_cons (xo (xv 1)) xos_nil)))) (xbin op_addA g_addA (xo (xsl (xo (xv 0)) xp_none (xp_some xint))) (xo (xT call_tuple_of g_tuple z.z_tuple (xos_cons (xo (xv 1)) xos_nil)))))))))⟩
/-- binds_in -/
theorem ok2 (F : Fun K "binds_in" "binds_in" s2 a fd) (z : Bl mg) (c : Cs P w K mg base k) : FnOk P w K mg base CX0 (k + 1) a fd P2 (spRun K T (k + 1) 2) :=
  def_okB (B := B2) (fr := false) [] T2_eq F sc2 rfl rfl (by decide) fun cdv A outer s H E hr => ⟨_, (ss_one (s_ret (xand (xcmp (op_inA (by exact hu_of hr)) g_in (xo (xix (ix_all (by exact hu_of hr)) g_ix (xo (xv 0)) (xo xint))) (xo (xtup (xa_cons xstr (xa_cons xstr xa_nil))))) (xone (xcmp (op_eqA (by exact hr.units)) g_eqA (xo (xv 1)) (xo xint))))))⟩
/-- free_names -/
theorem ok3 (F : Fun K "free_names" "free_names" s3 a fd) (z : Bl mg) (c : Cs P w K mg base k) : FnOk P w K mg base CX0 (k + 1) a fd P3 (spRun K T (k + 1) 3) :=
  def_okB (B := B3) (fr := false) [] T3_eq F sc3 rfl rfl (by decide) fun cdv A outer s H E hr => ⟨_, (ss_one (s_ret (xT call_tuple_of g_tuple z.z_tuple (xos_cons (xo (PXF.px (xBF (cr_sort2 (by exact rfl)) g_sort2 z.z_sorted (xos_cons (xo (PXF.px (xcallF (by exact c.c4) (by exact hr) T4_eq (xa_cons (xv 0) xa_nil)))) xos_nil)))) xos_nil))))⟩
/-- free_in -/
theorem ok4 (F : Fun K "free_in" "free_in" s4 a fd) (z : Bl mg) (c : Cs P w K mg base k) : FnOk P w K mg base CX0 (k + 1) a fd P4 (spRun K T (k + 1) 4) :=
  def_okB (B := B4) (fr := true) [1, 4] T4_eq F sc4 rfl rfl (by decide) fun cdv A outer s H E hr => ⟨_, (ss_cons (s_if (xqcmp (op_eqA (by exact hr.units)) g_eqA (xo (xix (ix_all (by exact hu_of hr)) g_ix (xo (xv 0)) (xo xint))) (xo xstr)) (ss_one (s_retF (xdispF (xp_cons (xix (ix_all (by exact hu_of hr)) g_ix (xo (xv 0)) (xo xint)) xbl xp_nil)))) ss_nil)
    (ss_cons (s_own 1 sc4.nd xdic0F)
    (ss_cons (s_for (by exact rfl) (xi_enum z.z_enumerate (xcall (by exact c.c0) (by exact hr) T0_eq (xa_cons (xv 0) xa_nil))) (xgt (by exact rfl) (xgs_cons (xg 2 sc4.nd) (xgs_cons (xg 3 sc4.nd) xgs_nil))) (ss_cons (s_own 4 sc4.nd (xcallF (by exact c.c4) (by exact hr) T4_eq (xa_cons (xv 3) xa_nil)))
    (ss_cons (s_if (xq (xcall (by exact c.c2) (by exact hr) T2_eq (xa_cons (xv 0) (xa_cons (xv 2) xa_nil)))) (ss_one (s_pop2 4 (xix (ix_all (by exact hu_of hr)) g_ix (xo (xv 0)) (xo xint)) xnon)) ss_nil)
    (ss_one (s_update 1 4)))) PassesOwn.never)
    (ss_one (s_retOwnF 1)))))⟩
/-- size_of -/
theorem ok5 (F : Fun K "size_of" "size_of" s5 a fd) (z : Bl mg) (c : Cs P w K mg base k) : FnOk P w K mg base CX0 (k + 1) a fd P5 (spRun K T (k + 1) 5) :=
  def_okB (B := B5) (fr := false) [] T5_eq F sc5 rfl rfl (by decide) fun cdv A outer s H E hr => ⟨_, (ss_one (s_ret (xbin op_addA g_addA (xo xint) (xo (xB (cr_sum (by exact rfl)) g_sum z.z_sum (xos_cons (xo (PXF.px (xlcE [("part", 1)] (by exact rfl) sc5.nd (xi (xcall (by exact c.c0) (by exact hr) T0_eq (xa_cons (xv 0) xa_nil))) (by exact blkOk_by (N := N5) (sc := defScope s5) (by decide +kernel)) (fun s H C cl fp => ⟨_, (xg 1 sc5.nd)⟩) (fun s H C cl fp => ⟨_, qts_nil⟩) (fun s H C cl fp => ⟨_, (xcall (by exact c.c5) (by exact hr) T5_eq (xa_cons (xv 1) xa_nil))⟩)))) xos_nil))))))⟩
/-- depth_of -/
theorem ok6 (F : Fun K "depth_of" "depth_of" s6 a fd) (z : Bl mg) (c : Cs P w K mg base k) : FnOk P w K mg base CX0 (k + 1) a fd P6 (spRun K T (k + 1) 6) :=
  def_okB (B := B6) (fr := false) [] T6_eq F sc6 rfl rfl (by decide) fun cdv A outer s H E hr => ⟨_, (ss_one (s_ret (xbin op_addA g_addA (xo xint) (xo (xB (cr_maxA (by exact rfl)) g_max z.z_max (xos_cons (xo (xbin op_addA g_addA (xo (PXF.px (xlcE [("part", 1)] (by exact rfl) sc6.nd (xi (xcall (by exact c.c0) (by exact hr) T0_eq (xa_cons (xv 0) xa_nil))) (by exact blkOk_by (N := N6) (sc := defScope s6) (by decide +kernel)) (fun s H C cl fp => ⟨_, (xg 1 sc6.nd)⟩) (fun s H C cl fp => ⟨_, qts_nil⟩) (fun s H C cl fp => ⟨_, (xcall (by exact c.c6) (by exact hr) T6_eq (xa_cons (xv 1) xa_nil))⟩)))) (xo (PXF.px (xlstF (xa_cons xint xa_nil)))))) xos_nil))))))⟩
/-- paths_of -/
theorem ok7 (F : Fun K "paths_of" "paths_of" s7 a fd) (z : Bl mg) (c : Cs P w K mg base k) : FnOk P w K mg base CX0 (k + 1) a fd P7 (spRun K T (k + 1) 7) :=
  def_okB (B := B7) (fr := false) [1] T7_eq F sc7 rfl rfl (by decide) fun cdv A outer s H E hr => ⟨_, (ss_cons (s_own 1 sc7.nd (xlstF (xa_cons (xtup xa_nil) xa_nil)))
    (ss_cons (s_for (by exact rfl) (xi_enum z.z_enumerate (xcall (by exact c.c0) (by exact hr) T0_eq (xa_cons (xv 0) xa_nil))) (xgt (by exact rfl) (xgs_cons (xg 2 sc7.nd) (xgs_cons (xg 3 sc7.nd) xgs_nil))) (ss_one (s_extend 1 (PXF.px (xlcE [("path", 4)] (by exact rfl) sc7.nd (xi (xcall (by exact c.c7) (by exact hr) T7_eq (xa_cons (xv 3) xa_nil))) (by exact blkOk_by (N := N7) (sc := defScope s7) (by decide +kernel)) (fun s H C cl fp => ⟨_, (xg 4 sc7.nd)⟩) (fun s H C cl fp => ⟨_, qts_nil⟩) (fun s H C cl fp => ⟨_, (xbin op_addA g_addA (xo (xtup (xa_cons (xv 2) xa_nil))) (xo (xv 4)))⟩))))) PassesOwn.never)
    (ss_one (s_ret (xT call_tuple_of g_tuple z.z_tuple (xos_cons (xown 1) xos_nil))))))⟩
/-- part_at -/
theorem ok8 (F : Fun K "part_at" "part_at" s8 a fd) (z : Bl mg) (c : Cs P w K mg base k) : FnOk P w K mg base CX0 (k + 1) a fd P8 (spRun K T (k + 1) 8) :=
  def_okB (B := B8) (fr := false) [] T8_eq F sc8 rfl rfl (by decide) fun cdv A outer s H E hr => ⟨_, (ss_cons (s_for (by exact rfl) (xi (xv 1)) (xg 2 sc8.nd) (ss_one (s_set 0 sc8.nd (xix (ix_all (by exact hu_of hr)) g_ix (xo (xcall (by exact c.c0) (by exact hr) T0_eq (xa_cons (xv 0) xa_nil))) (xo (xv 2))))) PassesOwn.never)
    (ss_one (s_ret (xv 0))))⟩
/-- with_part_at -/
theorem ok9 (F : Fun K "with_part_at" "with_part_at" s9 a fd) (z : Bl mg) (c : Cs P w K mg base k) : FnOk P w K mg base CX0 (k + 1) a fd P9 (spRun K T (k + 1) 9) :=
  def_okB (B := B9) (fr := false) [3] T9_eq F sc9 rfl rfl (by decide) fun cdv A outer s H E hr => ⟨_, (ss_cons (s_if (xqcmp (op_eqA (by exact hr.units)) g_eqA (xo (xv 1)) (xo (xtup xa_nil))) (ss_one (s_ret (xv 2))) ss_nil)
    (ss_cons (s_own 3 sc9.nd (xTF call_list_of g_listF z.z_list (xos_cons (xo (xcall (by exact c.c0) (by exact hr) T0_eq (xa_cons (xv 0) xa_nil))) xos_nil)))
    (ss_cons (s_setL 3 (xcall (by exact c.c9) (by exact hr) T9_eq (xa_cons (xix (ix_all (by exact hu_of hr)) g_ix (xown 3) (xo (xix (ix_all (by exact hu_of hr)) g_ix (xo (xv 1)) (xo xint)))) (xa_cons (xsl (xo (xv 1)) (xp_some xint) xp_none) (xa_cons (xv 2) xa_nil)))) (xix (ix_all (by exact hu_of hr)) g_ix (xo (xv 1)) (xo xint)))
    (ss_one (s_retFz 3 [] (xcall (by exact c.c1) (by exact hr) T1_eq (xa_cons (xv 0) (xa_cons (xv 3) xa_nil))))))))⟩
/-- _law_cell -/
theorem ok10 (F : Fun K "_law_cell" "_law_cell" s10 a fd) (z : Bl mg) (c : Cs P w K mg base k) : FnOk P w K mg base CX0 (k + 1) a fd P10 (spRun K T (k + 1) 10) :=
  def_okB (B := B10) (fr := false) [] T10_eq F sc10 rfl rfl (by decide) fun cdv A outer s H E hr => ⟨_, (ss_cons (s_if (xqcmp op_lt g_lt (xo (xv 1)) (xo (xB cr_lenA g_len z.z_len (xos_cons (xo (xv 0)) xos_nil)))) (ss_one (s_ret (xix (ix_all (by exact hu_of hr)) g_ix (xo (xv 0)) (xo (xv 1))))) ss_nil)
    (ss_one (s_ret (xbin op_addA g_addA (xo (xbin op_mul g_mul (xo xint) (xo (xv 1)))) (xo xint)))))⟩
/-- _law_draws -/
theorem ok11 (F : Fun K "_law_draws" "_law_draws" s11 a fd) (z : Bl mg) (c : Cs P w K mg base k) : FnOk P w K mg base CX0 (k + 1) a fd P11 (spRun K T (k + 1) 11) :=
  def_okB (B := B11) (fr := false) [5] T11_eq F sc11 rfl rfl (by decide) fun cdv A outer s H E hr => ⟨_, (ss_cons (s_set 2 sc11.nd (xB call_abs g_abs z.z_abs (xos_cons (xo (xT call_int1 g_int z.z_int (xos_cons (xo (xv 0)) xos_nil))) xos_nil)))
    (ss_cons (s_set 3 sc11.nd (xcmp op_ge g_ge (xo (xv 2)) (xo (xbin op_pow g_pow (xo xint) (xo xint)))))
    (ss_cons (s_set 4 sc11.nd (xv 2))
    (ss_cons (s_own 5 sc11.nd (xlstF xa_nil))
    (ss_cons (s_for (by exact rfl) (xi_rng1 z.z_range (xv 1)) (xg 6 sc11.nd) (ss_one (s_if (PXW.x (xqand (xqtru (xo (xv 3))) (xqand1 (xqcmp op_gt g_gt (xo (xv 2)) (xo xint))))) (ss_cons (s_append 5 (xbin op_mod g_mod (xo (xT call_int1 g_int z.z_int (xos_cons (xo (xv 2)) xos_nil))) (xo xint)))
    (ss_one (s_set 2 sc11.nd (xbin op_fdiv g_div (xo (xv 2)) (xo xint))))) (ss_cons (s_set 7 sc11.nd (xbin op_mod g_mod (xo (xT call_int1 g_int z.z_int (xos_cons (xo (xbin op_addA g_addA (xo (xbin op_addA g_addA (xo (xbin op_mul g_mul (xo (xv 4)) (xo xint))) (xo (xbin op_mul g_mul (xo (xbin op_addA g_addA (xo (xv 6)) (xo xint))) (xo xint))))) (xo xint))) xos_nil))) (xo xint)))
    (ss_cons (s_set 7 sc11.nd (xbin op_mod g_mod (xo (xT call_int1 g_int z.z_int (xos_cons (xo (xbin op_addA g_addA (xo (xbin op_mul g_mul (xo (xv 7)) (xo (xv 7)))) (xo (xbin op_mul g_mul (xo xint) (xo (xbin op_addA g_addA (xo (xv 6)) (xo xint))))))) xos_nil))) (xo xint)))
    (ss_one (s_append 5 (xbin op_mod g_mod (xo (xT call_int1 g_int z.z_int (xos_cons (xo (xbin op_fdiv g_div (xo (xv 7)) (xo xint))) xos_nil))) (xo xint)))))))) PassesOwn.never)
    (ss_one (s_retOwn 5)))))))⟩
/-- _law_is_integer -/
theorem ok12 (F : Fun K "_law_is_integer" "_law_is_integer" s12 a fd) (z : Bl mg) (c : Cs P w K mg base k) : FnOk P w K mg base CX0 (k + 1) a fd P12 (spRun K T (k + 1) 12) :=
  def_okB (B := B12) (fr := false) [] T12_eq F sc12 rfl rfl (by decide) fun cdv A outer s H E hr => ⟨_, (ss_one (s_ret (xand (xisi z.z_isinstance z.z_int (xo (xv 0))) (xone (xnot (xisi z.z_isinstance z.z_bool (xo (xv 0))))))))⟩
/-- _law_is -/
theorem ok13 (F : Fun K "_law_is" "_law_is" s13 a fd) (z : Bl mg) (c : Cs P w K mg base k) : FnOk P w K mg base CX0 (k + 1) a fd P13 (spRun K T (k + 1) 13) :=
  def_okB (B := B13) (fr := false) [] T13_eq F sc13 rfl rfl (by decide) fun cdv A outer s H E hr => ⟨_, (ss_cons (s_if (xqcmp op_isN g_isN (xo (xv 1)) (xo xnon)) (ss_one (s_ret (xcmp op_isN g_isN (xo (xv 0)) (xo xnon)))) ss_nil)
    (ss_cons (s_if (xq (xisi z.z_isinstance z.z_bool (xo (xv 1)))) (ss_one (s_ret (xand (xisi z.z_isinstance z.z_bool (xo (xv 0))) (xone (xcmp (op_eqA (by exact hr.units)) g_eqA (xo (xv 0)) (xo (xv 1))))))) ss_nil)
    (ss_cons (s_if (xq (xisi z.z_isinstance z.z_int (xo (xv 1)))) (ss_one (s_ret (xand (xcall (by exact c.c12) (by exact hr) T12_eq (xa_cons (xv 0) xa_nil)) (xone (xcmp (op_eqA (by exact hr.units)) g_eqA (xo (xv 0)) (xo (xv 1))))))) ss_nil)
    (ss_cons (s_if (xq (xisi z.z_isinstance z.z_str (xo (xv 1)))) (ss_one (s_ret (xand (xisi z.z_isinstance z.z_str (xo (xv 0))) (xone (xcmp (op_eqA (by exact hr.units)) g_eqA (xo (xv 0)) (xo (xv 1))))))) ss_nil)
    (ss_cons (s_if (PXW.x (xqor (xqnot (xq (xisi z.z_isinstance z.z_tuple (xo (xv 0))))) (xqor1 (xqcmp (op_neA (by exact hr.units)) g_neA (xo (xB cr_lenA g_len z.z_len (xos_cons (xo (xv 0)) xos_nil))) (xo (xB cr_lenA g_len z.z_len (xos_cons (xo (xv 1)) xos_nil))))))) (ss_one (s_ret xbl)) ss_nil)
    (ss_one (s_ret (xB (cr_all (by exact rfl)) g_all z.z_all (xos_cons (xo (PXF.px (xlcE [("at", 2)] (by exact rfl) sc13.nd (xi_rng1 z.z_range (xB cr_lenA g_len z.z_len (xos_cons (xo (xv 1)) xos_nil))) (by exact blkOk_by (N := N13) (sc := defScope s13) (by decide +kernel)) (fun s H C cl fp => ⟨_, (xg 2 sc13.nd)⟩) (fun s H C cl fp => ⟨_, qts_nil⟩) (fun s H C cl fp => ⟨_, (xcall (by exact c.c13) (by exact hr) T13_eq (xa_cons (xix (ix_all (by exact hu_of hr)) g_ix (xo (xv 0)) (xo (xv 2))) (xa_cons (xix (ix_all (by exact hu_of hr)) g_ix (xo (xv 1)) (xo (xv 2))) xa_nil)))⟩)))) xos_nil)))))))))⟩
/-- _law_take -/
theorem ok14 (F : Fun K "_law_take" "_law_take" s14 a fd) (z : Bl mg) (c : Cs P w K mg base k) : FnOk P w K mg base CX0 (k + 1) a fd P14 (spRun K T (k + 1) 14) :=
  def_okB (B := B14) (fr := false) [] T14_eq F sc14 rfl rfl (by decide) fun cdv A outer s H E hr => ⟨_, (ss_cons (s_set 2 sc14.nd (xix (ix_all (by exact hu_of hr)) g_ix (xob (xv 0)) (xo xstr)))
    (ss_cons (s_putO (by exact hu_of hr) (xv 0) xstr (xbin op_addA g_addA (xo (xv 2)) (xo xint)))
    (ss_cons (s_set 3 sc14.nd (xix (ix_all (by exact hu_of hr)) g_ix (xob (xv 0)) (xo xstr)))
    (ss_one (s_ret (xbin op_mod g_mod (xo (xbin op_addA g_addA (xo (xbin op_fdiv g_div (xo (xT call_int1 g_int z.z_int (xos_cons (xo (xix (ix_all (by exact hu_of hr)) g_ix (xo (xv 3)) (xo (xbin op_mod g_mod (xo (xv 2)) (xo (xB cr_lenA g_len z.z_len (xos_cons (xo (xv 3)) xos_nil))))))) xos_nil))) (xo (xix (ix_all (by exact hu_of hr)) g_ix (xo (xtup (xa_cons xint (xa_cons xint (xa_cons xint (xa_cons xint xa_nil)))))) (xo (xbin op_mod g_mod (xo (xbin op_fdiv g_div (xo (xv 2)) (xo (xB cr_lenA g_len z.z_len (xos_cons (xo (xv 3)) xos_nil))))) (xo xint))))))) (xo (xbin op_fdiv g_div (xo (xv 2)) (xo (xbin op_mul g_mul (xo xint) (xo (xB cr_lenA g_len z.z_len (xos_cons (xo (xv 3)) xos_nil))))))))) (xo (xv 1))))))))⟩
/-- _law_word -/
theorem ok15 (F : Fun K "_law_word" "_law_word" s15 a fd) (z : Bl mg) (c : Cs P w K mg base k) : FnOk P w K mg base CX0 (k + 1) a fd P15 (spRun K T (k + 1) 15) :=
  def_okB (B := B15) (fr := false) [] T15_eq F sc15 rfl rfl (by decide) fun cdv A outer s H E hr => ⟨_, (ss_one (s_ret (xix (ix_all (by exact hu_of hr)) g_ix (xo (xtup (xa_cons xstr (xa_cons xstr (xa_cons xstr (xa_cons xstr (xa_cons xstr (xa_cons xstr (xa_cons xstr (xa_cons xstr (xa_cons xstr (xa_cons xstr (xa_cons xstr xa_nil))))))))))))) (xo (xcall (by exact c.c14) (by exact hr) T14_eq (xa_cons (xv 0) (xa_cons xint xa_nil)))))))⟩
/-- _law_words -/
theorem ok16 (F : Fun K "_law_words" "_law_words" s16 a fd) (z : Bl mg) (c : Cs P w K mg base k) : FnOk P w K mg base CX0 (k + 1) a fd P16 (spRun K T (k + 1) 16) :=
  def_okB (B := B16) (fr := false) [] T16_eq F sc16 rfl rfl (by decide) fun cdv A outer s H E hr => ⟨_, (ss_one (s_ret (xT call_tuple_of g_tuple z.z_tuple (xos_cons (xo (PXF.px (xlcE [("at", 2)] (by exact rfl) sc16.nd (xi_rng1 z.z_range (xcall (by exact c.c14) (by exact hr) T14_eq (xa_cons (xv 0) (xa_cons (xbin op_addA g_addA (xo (xv 1)) (xo xint)) xa_nil)))) (by exact blkOk_by (N := N16) (sc := defScope s16) (by decide +kernel)) (fun s H C cl fp => ⟨_, (xg 2 sc16.nd)⟩) (fun s H C cl fp => ⟨_, qts_nil⟩) (fun s H C cl fp => ⟨_, (xcall (by exact c.c15) (by exact hr) T15_eq (xa_cons (xv 0) xa_nil))⟩)))) xos_nil))))⟩
/-- _law_atom -/
theorem ok17 (F : Fun K "_law_atom" "_law_atom" s17 a fd) (z : Bl mg) (c : Cs P w K mg base k) : FnOk P w K mg base CX0 (k + 1) a fd P17 (spRun K T (k + 1) 17) :=
  def_okB (B := B17) (fr := false) [] T17_eq F sc17 rfl rfl (by decide) fun cdv A outer s H E hr => ⟨_, (ss_cons (s_set 2 sc17.nd (xcall (by exact c.c14) (by exact hr) T14_eq (xa_cons (xv 0) (xa_cons xint xa_nil))))
    (ss_cons (s_if (PXW.x (xqand (xqcmp op_lt g_lt (xo (xv 2)) (xo xint)) (xqand1 (xqcmp op_gt g_gt (xo (xB cr_lenA g_len z.z_len (xos_cons (xo (xv 1)) xos_nil))) (xo xint))))) (ss_one (s_ret (xtup (xa_cons xstr (xa_cons (xix (ix_all (by exact hu_of hr)) g_ix (xo (xv 1)) (xo (xcall (by exact c.c14) (by exact hr) T14_eq (xa_cons (xv 0) (xa_cons (xB cr_lenA g_len z.z_len (xos_cons (xo (xv 1)) xos_nil)) xa_nil))))) xa_nil))))) ss_nil)
    (ss_cons (s_if (xqcmp op_lt g_lt (xo (xv 2)) (xo xint)) (ss_one (s_ret (xtup (xa_cons xstr (xa_cons (xtup (xa_cons xstr (xa_cons (xtup (xa_cons (xix (ix_all (by exact hu_of hr)) g_ix (xo (xtup (xa_cons xstr (xa_cons xstr (xa_cons xstr (xa_cons xstr (xa_cons xstr (xa_cons xstr (xa_cons xstr xa_nil))))))))) (xo (xcall (by exact c.c14) (by exact hr) T14_eq (xa_cons (xv 0) (xa_cons xint xa_nil))))) xa_nil)) xa_nil))) xa_nil))))) ss_nil)
    (ss_one (s_ret (xtup (xa_cons xstr (xa_cons (xcall (by exact c.c16) (by exact hr) T16_eq (xa_cons (xv 0) (xa_cons xint xa_nil))) xa_nil))))))))⟩
/-- _law_tree -/
theorem ok18 (F : Fun K "_law_tree" "_law_tree" s18 a fd) (z : Bl mg) (c : Cs P w K mg base k) : FnOk P w K mg base CX0 (k + 1) a fd P18 (spRun K T (k + 1) 18) :=
  def_okB (B := B18) (fr := false) [] T18_eq F sc18 rfl rfl (by decide) fun cdv A outer s H E hr => ⟨_, (ss_cons (s_set 4 sc18.nd (xif (xqcmp op_gt g_gt (xo (xv 2)) (xo xint)) (xcall (by exact c.c14) (by exact hr) T14_eq (xa_cons (xv 0) (xa_cons xint xa_nil))) xint))
    (ss_cons (s_if (xqcmp op_gt g_gt (xo (xv 4)) (xo xint)) (ss_one (s_ret (xcall (by exact c.c17) (by exact hr) T17_eq (xa_cons (xv 0) (xa_cons (xv 1) xa_nil))))) ss_nil)
    (ss_cons (s_if (xqcmp op_lt g_lt (xo (xv 4)) (xo xint)) (ss_cons (s_par 5 6 (by exact rfl) sc18.nd (xa_cons (xcall (by exact c.c18) (by exact hr) T18_eq (xa_cons (xv 0) (xa_cons (xv 1) (xa_cons (xbin op_sub g_sub (xo (xv 2)) (xo xint)) (xa_cons (xv 3) xa_nil))))) (xa_cons (xcall (by exact c.c17) (by exact hr) T17_eq (xa_cons (xv 0) (xa_cons (xv 1) xa_nil))) xa_nil)))
    (ss_cons (s_set 7 sc18.nd (xif (xqcmp (op_eqA (by exact hr.units)) g_eqA (xo (xcall (by exact c.c14) (by exact hr) T14_eq (xa_cons (xv 0) (xa_cons xint xa_nil)))) (xo xint)) (xtup (xa_cons (xv 5) (xa_cons (xv 6) xa_nil))) (xtup (xa_cons (xv 6) (xa_cons (xv 5) xa_nil)))))
    (ss_one (s_ret (xbin op_addA g_addA (xo (xtup (xa_cons (xif (xqcmp op_lt g_lt (xo (xv 4)) (xo xint)) xstr xstr) xa_nil))) (xo (xv 7))))))) ss_nil)
    (ss_cons (s_if (xqcmp op_lt g_lt (xo (xv 4)) (xo xint)) (ss_cons (s_set 8 sc18.nd (xcall (by exact c.c18) (by exact hr) T18_eq (xa_cons (xv 0) (xa_cons (xv 1) (xa_cons (xbin op_sub g_sub (xo (xv 2)) (xo xint)) (xa_cons (xv 3) xa_nil))))))
    (ss_one (s_ret (xtup (xa_cons xstr (xa_cons (xv 8) (xa_cons (xcall (by exact c.c17) (by exact hr) T17_eq (xa_cons (xv 0) (xa_cons (xv 1) xa_nil))) (xa_cons (xcall (by exact c.c18) (by exact hr) T18_eq (xa_cons (xv 0) (xa_cons (xv 1) (xa_cons (xbin op_sub g_sub (xo (xv 2)) (xo xint)) (xa_cons (xv 3) xa_nil))))) (xa_cons (xcall (by exact c.c17) (by exact hr) T17_eq (xa_cons (xv 0) (xa_cons (xv 1) xa_nil))) xa_nil))))))))) ss_nil)
    (ss_cons (s_if (xqcmp (op_eqA (by exact hr.units)) g_eqA (xo (xv 4)) (xo xint)) (ss_one (s_ret (xtup (xa_cons xstr (xa_cons (xtup (xa_cons xstr (xa_cons (xcall (by exact c.c18) (by exact hr) T18_eq (xa_cons (xv 0) (xa_cons (xv 1) (xa_cons (xbin op_sub g_sub (xo (xv 2)) (xo xint)) (xa_cons (xv 3) xa_nil))))) xa_nil))) xa_nil))))) ss_nil)
    (ss_cons (s_if (xqcmp op_lt g_lt (xo (xv 4)) (xo xint)) (ss_one (s_ret (xtup (xa_cons (xix (ix_all (by exact hu_of hr)) g_ix (xo (xtup (xa_cons xstr (xa_cons xstr (xa_cons xstr (xa_cons xstr xa_nil)))))) (xo (xcall (by exact c.c14) (by exact hr) T14_eq (xa_cons (xv 0) (xa_cons xint xa_nil))))) (xa_cons (xcall (by exact c.c18) (by exact hr) T18_eq (xa_cons (xv 0) (xa_cons (xv 1) (xa_cons (xbin op_sub g_sub (xo (xv 2)) (xo xint)) (xa_cons (xv 3) xa_nil))))) xa_nil))))) ss_nil)
    (ss_cons (s_set 9 sc18.nd (xbin op_addA g_addA (xo xstr) (xo (xT call_str_int g_str z.z_str (xos_cons (xo (xB cr_lenA g_len z.z_len (xos_cons (xo (xv 1)) xos_nil))) xos_nil)))))
    (ss_cons (s_if (PXW.x (xqor (xqcmp (op_eqA (by exact hr.units)) g_eqA (xo (xv 4)) (xo xint)) (xqor1 (xqcmp (op_eqA (by exact hr.units)) g_eqA (xo (xv 3)) (xo xint))))) (ss_one (s_ret (xtup (xa_cons xstr (xa_cons (xv 9) (xa_cons (xcall (by exact c.c18) (by exact hr) T18_eq (xa_cons (xv 0) (xa_cons (xv 1) (xa_cons (xbin op_sub g_sub (xo (xv 2)) (xo xint)) (xa_cons (xv 3) xa_nil))))) (xa_cons (xcall (by exact c.c18) (by exact hr) T18_eq (xa_cons (xv 0) (xa_cons (xbin op_addA g_addA (xo (xv 1)) (xo (PXF.px (xlstF (xa_cons (xv 9) xa_nil))))) (xa_cons (xbin op_sub g_sub (xo (xv 2)) (xo xint)) (xa_cons (xv 3) xa_nil))))) xa_nil))))))) ss_nil)
    (ss_cons (s_if (xqcmp (op_eqA (by exact hr.units)) g_eqA (xo (xv 4)) (xo xint)) (ss_one (s_ret (xtup (xa_cons xstr (xa_cons (xv 9) (xa_cons (xcall (by exact c.c17) (by exact hr) T17_eq (xa_cons (xv 0) (xa_cons (xv 1) xa_nil))) (xa_cons (xcall (by exact c.c18) (by exact hr) T18_eq (xa_cons (xv 0) (xa_cons (xbin op_addA g_addA (xo (xv 1)) (xo (PXF.px (xlstF (xa_cons (xv 9) xa_nil))))) (xa_cons (xbin op_sub g_sub (xo (xv 2)) (xo xint)) (xa_cons (xbin op_sub g_sub (xo (xv 3)) (xo xint)) xa_nil))))) xa_nil))))))) ss_nil)
    (ss_one (s_ret (xtup (xa_cons xstr (xa_cons (xv 9) (xa_cons (xcall (by exact c.c18) (by exact hr) T18_eq (xa_cons (xv 0) (xa_cons (xv 1) (xa_cons (xbin op_sub g_sub (xo (xv 2)) (xo xint)) (xa_cons (xv 3) xa_nil))))) (xa_cons (xtup (xa_cons xstr (xa_cons (xtup (xa_cons xstr (xa_cons (xv 9) xa_nil))) xa_nil))) xa_nil))))))))))))))))⟩
/-- _law_parts -/
theorem ok19 (F : Fun K "_law_parts" "_law_parts" s19 a fd) (z : Bl mg) (c : Cs P w K mg base k) : FnOk P w K mg base CX0 (k + 1) a fd P19 (spRun K T (k + 1) 19) :=
  def_okB (B := B19) (fr := true) [] T19_eq F sc19 rfl rfl (by decide) fun cdv A outer s H E hr => ⟨_, (ss_cons (s_if (xqcmp (op_inA (by exact hu_of hr)) g_in (xo (xix (ix_all (by exact hu_of hr)) g_ix (xo (xv 0)) (xo xint))) (xo (xtup (xa_cons xstr (xa_cons xstr xa_nil))))) (ss_one (s_retF (xlstF xa_nil))) ss_nil)
    (ss_one (s_retF (xifF (xqcmp (op_inA (by exact hu_of hr)) g_in (xo (xix (ix_all (by exact hu_of hr)) g_ix (xo (xv 0)) (xo xint))) (xo (xtup (xa_cons xstr (xa_cons xstr xa_nil))))) (xTF call_list_of g_listF z.z_list (xos_cons (xo (xsl (xo (xv 0)) (xp_some xint) xp_none)) xos_nil)) (xTF call_list_of g_listF z.z_list (xos_cons (xo (xsl (xo (xv 0)) (xp_some xint) xp_none)) xos_nil))))))⟩
/-- _law_rows -/
theorem ok20 (F : Fun K "_law_rows" "_law_rows" s20 a fd) (z : Bl mg) (c : Cs P w K mg base k) : FnOk P w K mg base CX0 (k + 1) a fd P20 (spRun K T (k + 1) 20) :=
  def_okB (B := B20) (fr := false) [] T20_eq F sc20 rfl rfl (by decide) fun cdv A outer s H E hr => ⟨_, (ss_cons (s_par 3 4 (by exact rfl) sc20.nd (xa_cons (PXF.px (xlstF (xa_cons (xtup (xa_cons (xv 1) (xa_cons (xv 0) (xa_cons (xv 2) xa_nil)))) xa_nil))) (xa_cons (PXF.px (xcallF (by exact c.c19) (by exact hr) T19_eq (xa_cons (xv 0) xa_nil))) xa_nil)))
    (ss_cons (s_for (by exact rfl) (xi_rng1 z.z_range (xB cr_lenA g_len z.z_len (xos_cons (xo (xv 4)) xos_nil))) (xg 5 sc20.nd) (ss_cons (s_set 6 sc20.nd (xif (PXW.x (xqand (xqcmp (op_inA (by exact hu_of hr)) g_in (xo (xix (ix_all (by exact hu_of hr)) g_ix (xo (xv 0)) (xo xint))) (xo (xtup (xa_cons xstr (xa_cons xstr xa_nil))))) (xqand1 (xqcmp (op_eqA (by exact hr.units)) g_eqA (xo (xv 5)) (xo xint))))) (xbin op_addA g_addA (xo (xv 2)) (xo (PXF.px (xlstF (xa_cons (xix (ix_all (by exact hu_of hr)) g_ix (xo (xv 0)) (xo xint)) xa_nil))))) (xv 2)))
    (ss_one (s_set 3 sc20.nd (xbin op_addA g_addA (xo (xv 3)) (xo (xcall (by exact c.c20) (by exact hr) T20_eq (xa_cons (xix (ix_all (by exact hu_of hr)) g_ix (xo (xv 4)) (xo (xv 5))) (xa_cons (xbin op_addA g_addA (xo (xv 1)) (xo (xtup (xa_cons (xv 5) xa_nil)))) (xa_cons (xv 6) xa_nil))))))))) PassesOwn.never)
    (ss_one (s_ret (xv 3)))))⟩
/-- _law_free -/
theorem ok21 (F : Fun K "_law_free" "_law_free" s21 a fd) (z : Bl mg) (c : Cs P w K mg base k) : FnOk P w K mg base CX0 (k + 1) a fd P21 (spRun K T (k + 1) 21) :=
  def_okB (B := B21) (fr := false) [] T21_eq F sc21 rfl rfl (by decide) fun cdv A outer s H E hr => ⟨_, (ss_one (s_ret (xT call_tuple_of g_tuple z.z_tuple (xos_cons (xo (PXF.px (xsortset (by exact rfl) z.z_sorted z.z_set (PXF.px (xlcE [("path", 1), ("one", 2), ("known", 3)] (by exact rfl) sc21.nd (xi (xcall (by exact c.c20) (by exact hr) T20_eq (xa_cons (xv 0) (xa_cons (xtup xa_nil) (xa_cons (PXF.px (xlstF xa_nil)) xa_nil))))) (by exact blkOk_by (N := N21) (sc := defScope s21) (by decide +kernel)) (fun s H C cl fp => ⟨_, (xgt (by exact rfl) (xgs_cons (xg 1 sc21.nd) (xgs_cons (xg 2 sc21.nd) (xgs_cons (xg 3 sc21.nd) xgs_nil))))⟩) (fun s H C cl fp => ⟨_, (qts_one (PXW.x (xqand (xqcmp (op_eqA (by exact hr.units)) g_eqA (xo (xix (ix_all (by exact hu_of hr)) g_ix (xo (xv 2)) (xo xint))) (xo xstr)) (xqand1 (xqcmp (op_notInA (by exact hu_of hr)) g_notIn (xo (xix (ix_all (by exact hu_of hr)) g_ix (xo (xv 2)) (xo xint))) (xo (xv 3)))))))⟩) (fun s H C cl fp => ⟨_, (xix (ix_all (by exact hu_of hr)) g_ix (xo (xv 2)) (xo xint))⟩)))))) xos_nil))))⟩
/-- _law_rebuilt -/
theorem ok22 (F : Fun K "_law_rebuilt" "_law_rebuilt" s22 a fd) (z : Bl mg) (c : Cs P w K mg base k) : FnOk P w K mg base CX0 (k + 1) a fd P22 (spRun K T (k + 1) 22) :=
  def_okB (B := B22) (fr := false) [3] T22_eq F sc22 rfl rfl (by decide) fun cdv A outer s H E hr => ⟨_, (ss_cons (s_if (xqcmp (op_eqA (by exact hr.units)) g_eqA (xo (xB cr_lenA g_len z.z_len (xos_cons (xo (xv 1)) xos_nil))) (xo xint)) (ss_one (s_ret (xv 2))) ss_nil)
    (ss_cons (s_own 3 sc22.nd (xcallF (by exact c.c19) (by exact hr) T19_eq (xa_cons (xv 0) xa_nil)))
    (ss_cons (s_setL 3 (xcall (by exact c.c22) (by exact hr) T22_eq (xa_cons (xix (ix_all (by exact hu_of hr)) g_ix (xown 3) (xo (xix (ix_all (by exact hu_of hr)) g_ix (xo (xv 1)) (xo xint)))) (xa_cons (xsl (xo (xv 1)) (xp_some xint) xp_none) (xa_cons (xv 2) xa_nil)))) (xix (ix_all (by exact hu_of hr)) g_ix (xo (xv 1)) (xo xint)))
    (ss_one (s_ret (xbin op_addA g_addA (xo (xif (xqcmp (op_inA (by exact hu_of hr)) g_in (xo (xix (ix_all (by exact hu_of hr)) g_ix (xo (xv 0)) (xo xint))) (xo (xtup (xa_cons xstr (xa_cons xstr xa_nil))))) (xsl (xo (xv 0)) xp_none (xp_some xint)) (xsl (xo (xv 0)) xp_none (xp_some xint)))) (xo (xT call_tuple_of g_tuple z.z_tuple (xos_cons (xown 3) xos_nil)))))))))⟩
/-- _law_tree_fine -/
theorem ok23 (F : Fun K "_law_tree_fine" "_law_tree_fine" s23 a fd) (z : Bl mg) (c : Cs P w K mg base k) : FnOk P w K mg base CX0 (k + 1) a fd P23 (spRun K T (k + 1) 23) :=
  def_okB (B := B23) (fr := false) [] T23_eq F sc23 rfl rfl (by decide) fun cdv A outer s H E hr => ⟨_, (ss_cons (s_set 3 sc23.nd (xcall (by exact c.c20) (by exact hr) T20_eq (xa_cons (xv 1) (xa_cons (xtup xa_nil) (xa_cons (PXF.px (xlstF xa_nil)) xa_nil)))))
    (ss_cons (s_if (PXW.x (xqor (xqnot (xq (xcall (by exact c.c13) (by exact hr) T13_eq (xa_cons (xcall (by exact c.c7) (by exact hr) T7_eq (xa_cons (xv 1) xa_nil)) (xa_cons (xT call_tuple_of g_tuple z.z_tuple (xos_cons (xo (PXF.px (xlcE [("path", 4), ("one", 5), ("known", 6)] (by exact rfl) sc23.nd (xi (xv 3)) (by exact blkOk_by (N := N23) (sc := defScope s23) (by decide +kernel)) (fun s H C cl fp => ⟨_, (xgt (by exact rfl) (xgs_cons (xg 4 sc23.nd) (xgs_cons (xg 5 sc23.nd) (xgs_cons (xg 6 sc23.nd) xgs_nil))))⟩) (fun s H C cl fp => ⟨_, qts_nil⟩) (fun s H C cl fp => ⟨_, (xv 4)⟩)))) xos_nil)) xa_nil))))) (xqor1 (xqnot (xq (xcall (by exact c.c13) (by exact hr) T13_eq (xa_cons (xcall (by exact c.c5) (by exact hr) T5_eq (xa_cons (xv 1) xa_nil)) (xa_cons (xB cr_lenA g_len z.z_len (xos_cons (xo (xv 3)) xos_nil)) xa_nil)))))))) (ss_one (s_ret xbl)) ss_nil)
    (ss_cons (s_if (xqnot (xq (xcall (by exact c.c13) (by exact hr) T13_eq (xa_cons (xcall (by exact c.c6) (by exact hr) T6_eq (xa_cons (xv 1) xa_nil)) (xa_cons (xbin op_addA g_addA (xo xint) (xo (xB (cr_maxA (by exact rfl)) g_max z.z_max (xos_cons (xo (PXF.px (xlcE [("path", 4), ("one", 5), ("known", 6)] (by exact rfl) sc23.nd (xi (xv 3)) (by exact blkOk_by (N := N23) (sc := defScope s23) (by decide +kernel)) (fun s H C cl fp => ⟨_, (xgt (by exact rfl) (xgs_cons (xg 4 sc23.nd) (xgs_cons (xg 5 sc23.nd) (xgs_cons (xg 6 sc23.nd) xgs_nil))))⟩) (fun s H C cl fp => ⟨_, qts_nil⟩) (fun s H C cl fp => ⟨_, (xB cr_lenA g_len z.z_len (xos_cons (xo (xv 4)) xos_nil))⟩)))) xos_nil)))) xa_nil))))) (ss_one (s_ret xbl)) ss_nil)
    (ss_cons (s_for (by exact rfl) (xi (xv 3)) (xgt (by exact rfl) (xgs_cons (xg 4 sc23.nd) (xgs_cons (xg 5 sc23.nd) (xgs_cons (xg 6 sc23.nd) xgs_nil)))) (ss_cons (s_if (PXW.x (xqor (xqnot (xq (xcall (by exact c.c13) (by exact hr) T13_eq (xa_cons (xcall (by exact c.c8) (by exact hr) T8_eq (xa_cons (xv 1) (xa_cons (xv 4) xa_nil))) (xa_cons (xv 5) xa_nil))))) (xqor1 (xqnot (xq (xcall (by exact c.c13) (by exact hr) T13_eq (xa_cons (xcall (by exact c.c0) (by exact hr) T0_eq (xa_cons (xv 5) xa_nil)) (xa_cons (xT call_tuple_of g_tuple z.z_tuple (xos_cons (xo (PXF.px (xcallF (by exact c.c19) (by exact hr) T19_eq (xa_cons (xv 5) xa_nil)))) xos_nil)) xa_nil)))))))) (ss_one (s_ret xbl)) ss_nil)
    (ss_cons (s_if (xqnot (xq (xcall (by exact c.c13) (by exact hr) T13_eq (xa_cons (xcall (by exact c.c3) (by exact hr) T3_eq (xa_cons (xv 5) xa_nil)) (xa_cons (xcall (by exact c.c21) (by exact hr) T21_eq (xa_cons (xv 5) xa_nil)) xa_nil))))) (ss_one (s_ret xbl)) ss_nil)
    (ss_cons (s_if (xqnot (xq (xcall (by exact c.c13) (by exact hr) T13_eq (xa_cons (xcall (by exact c.c9) (by exact hr) T9_eq (xa_cons (xv 1) (xa_cons (xv 4) (xa_cons (xv 2) xa_nil)))) (xa_cons (xcall (by exact c.c22) (by exact hr) T22_eq (xa_cons (xv 1) (xa_cons (xv 4) (xa_cons (xv 2) xa_nil)))) xa_nil))))) (ss_one (s_ret xbl)) ss_nil)
    (ss_cons (s_set 7 sc23.nd (xrev (xo (xT call_tuple_of g_tuple z.z_tuple (xos_cons (xo (PXF.px (xcallF (by exact c.c19) (by exact hr) T19_eq (xa_cons (xv 5) xa_nil)))) xos_nil))) (pe_op op_sub pe_int pe_int) (fun σ H Q q => ⟨0, 1, rfl, rfl, q⟩)))
    (ss_cons (s_set 8 sc23.nd (xv 5))
    (ss_cons (s_for (by exact rfl) (xi_rng1 z.z_range (xB cr_lenA g_len z.z_len (xos_cons (xo (xv 7)) xos_nil))) (xg 9 sc23.nd) (ss_one (s_set 8 sc23.nd (xcall (by exact c.c22) (by exact hr) T22_eq (xa_cons (xv 8) (xa_cons (xtup (xa_cons (xv 9) xa_nil)) (xa_cons (xix (ix_all (by exact hu_of hr)) g_ix (xo (xv 7)) (xo (xv 9))) xa_nil)))))) PassesOwn.never)
    (ss_one (s_if (xqnot (xq (xcall (by exact c.c13) (by exact hr) T13_eq (xa_cons (xcall (by exact c.c1) (by exact hr) T1_eq (xa_cons (xv 5) (xa_cons (xv 7) xa_nil))) (xa_cons (xv 8) xa_nil))))) (ss_one (s_ret xbl)) ss_nil)))))))) PassesOwn.never)
    (ss_one (s_ret xbl))))))⟩
/-- _law_free_fine -/
theorem ok24 (F : Fun K "_law_free_fine" "_law_free_fine" s24 a fd) (z : Bl mg) (c : Cs P w K mg base k) : FnOk P w K mg base CX0 (k + 1) a fd P24 (spRun K T (k + 1) 24) :=
  def_okB (B := B24) (fr := false) [] T24_eq F sc24 rfl rfl (by decide) fun cdv A outer s H E hr => ⟨_, (ss_cons (s_asg (xtup (xa_cons (xtup (xa_cons xstr (xa_cons (xtup xa_nil) xa_nil))) (xa_cons (xtup (xa_cons xstr (xa_cons xstr xa_nil))) (xa_cons (xtup (xa_cons xstr (xa_cons xstr xa_nil))) xa_nil)))) (xgt (by exact rfl) (xgs_cons (xg 0 sc24.nd) (xgs_cons (xg 1 sc24.nd) (xgs_cons (xg 2 sc24.nd) xgs_nil)))))
    (ss_cons (s_set 3 sc24.nd (xtup (xa_cons xstr (xa_cons xstr (xa_cons (xv 0) (xa_cons (xv 1) xa_nil))))))
    (ss_cons (s_set 4 sc24.nd (PXF.px (xlstF (xa_cons (xtup (xa_cons (xtup (xa_cons xstr (xa_cons xstr (xa_cons (xv 0) (xa_cons (xtup (xa_cons xstr (xa_cons (xv 3) (xa_cons (xv 1) xa_nil)))) xa_nil))))) (xa_cons (xtup xa_nil) xa_nil))) (xa_cons (xtup (xa_cons (xtup (xa_cons xstr (xa_cons (xv 3) (xa_cons (xv 1) xa_nil)))) (xa_cons (xtup (xa_cons xstr xa_nil)) xa_nil))) (xa_cons (xtup (xa_cons (xtup (xa_cons xstr (xa_cons xstr (xa_cons (xv 1) (xa_cons (xtup (xa_cons xstr (xa_cons xstr (xa_cons (xv 1) (xa_cons (xv 1) xa_nil))))) xa_nil))))) (xa_cons (xtup (xa_cons xstr xa_nil)) xa_nil))) xa_nil))))))
    (ss_cons (s_set 4 sc24.nd (xbin op_addA g_addA (xo (xv 4)) (xo (PXF.px (xlstF (xa_cons (xtup (xa_cons (xtup (xa_cons xstr (xa_cons xstr (xa_cons (xtup (xa_cons xstr (xa_cons xstr (xa_cons (xv 1) (xa_cons (xv 1) xa_nil))))) (xa_cons (xv 1) xa_nil))))) (xa_cons (xtup (xa_cons xstr xa_nil)) xa_nil))) (xa_cons (xtup (xa_cons (xtup (xa_cons xstr (xa_cons xstr (xa_cons (xv 1) (xa_cons (xtup (xa_cons xstr (xa_cons xstr (xa_cons (xv 2) (xa_cons (xtup (xa_cons xstr (xa_cons (xv 1) (xa_cons (xv 2) xa_nil)))) xa_nil))))) xa_nil))))) (xa_cons (xtup (xa_cons xstr xa_nil)) xa_nil))) xa_nil)))))))
    (ss_cons (s_set 4 sc24.nd (xbin op_addA g_addA (xo (xv 4)) (xo (PXF.px (xlstF (xa_cons (xtup (xa_cons (xtup (xa_cons xstr (xa_cons (xtup (xa_cons xstr (xa_cons xstr xa_nil))) (xa_cons (xtup (xa_cons xstr (xa_cons (xtup (xa_cons xstr (xa_cons xstr xa_nil))) (xa_cons (xtup (xa_cons xstr (xa_cons xstr xa_nil))) xa_nil)))) xa_nil)))) (xa_cons (xtup (xa_cons xstr (xa_cons xstr xa_nil))) xa_nil))) (xa_cons (xtup (xa_cons (xtup (xa_cons xstr (xa_cons (xtup (xa_cons xstr xa_nil)) xa_nil))) (xa_cons (xtup xa_nil) xa_nil))) xa_nil)))))))
    (ss_cons (s_set 4 sc24.nd (xbin op_addA g_addA (xo (xv 4)) (xo (PXF.px (xlstF (xa_cons (xtup (xa_cons (xtup (xa_cons xstr (xa_cons (xtup (xa_cons xstr (xa_cons xstr xa_nil))) (xa_cons (xv 2) (xa_cons (xv 1) (xa_cons (xtup (xa_cons xstr (xa_cons xstr xa_nil))) xa_nil)))))) (xa_cons (xtup (xa_cons xstr (xa_cons xstr (xa_cons xstr (xa_cons xstr xa_nil))))) xa_nil))) (xa_cons (xtup (xa_cons (xtup (xa_cons xstr (xa_cons (xv 0) (xa_cons (xv 0) (xa_cons (xv 3) (xa_cons (xv 1) xa_nil)))))) (xa_cons (xtup (xa_cons xstr xa_nil)) xa_nil))) (xa_cons (xtup (xa_cons (xtup (xa_cons xstr (xa_cons xstr (xa_cons (xv 0) (xa_cons (xv 3) xa_nil))))) (xa_cons (xtup xa_nil) xa_nil))) xa_nil))))))))
    (ss_cons (s_set 4 sc24.nd (xbin op_addA g_addA (xo (xv 4)) (xo (PXF.px (xlstF (xa_cons (xtup (xa_cons (xtup (xa_cons xstr (xa_cons xstr (xa_cons (xv 0) (xa_cons (xtup (xa_cons xstr (xa_cons (xtup (xa_cons xstr (xa_cons xstr (xa_cons (xv 1) (xa_cons (xv 1) xa_nil))))) (xa_cons (xv 1) xa_nil)))) xa_nil))))) (xa_cons (xtup xa_nil) xa_nil))) (xa_cons (xtup (xa_cons (xtup (xa_cons xstr (xa_cons xstr (xa_cons (xv 0) (xa_cons (xtup (xa_cons xstr (xa_cons xstr (xa_cons (xv 0) (xa_cons (xtup (xa_cons xstr (xa_cons (xv 1) (xa_cons (xv 2) (xa_cons (xv 1) (xa_cons (xv 2) xa_nil)))))) xa_nil))))) xa_nil))))) (xa_cons (xtup xa_nil) xa_nil))) xa_nil)))))))
    (ss_cons (s_set 4 sc24.nd (xbin op_addA g_addA (xo (xv 4)) (xo (PXF.px (xlstF (xa_cons (xtup (xa_cons (xtup (xa_cons xstr (xa_cons (xtup (xa_cons xstr (xa_cons xstr (xa_cons (xv 0) (xa_cons (xv 1) xa_nil))))) (xa_cons (xtup (xa_cons xstr (xa_cons xstr (xa_cons (xv 1) (xa_cons (xv 2) xa_nil))))) xa_nil)))) (xa_cons (xtup (xa_cons xstr xa_nil)) xa_nil))) (xa_cons (xtup (xa_cons (xtup (xa_cons xstr (xa_cons (xtup (xa_cons xstr (xa_cons (xtup (xa_cons xstr xa_nil)) xa_nil))) xa_nil))) (xa_cons (xtup xa_nil) xa_nil))) xa_nil)))))))
    (ss_one (s_ret (xB (cr_all (by exact rfl)) g_all z.z_all (xos_cons (xo (PXF.px (xlcE [("tree", 5), ("due", 6)] (by exact rfl) sc24.nd (xi (xv 4)) (by exact blkOk_by (N := N24) (sc := defScope s24) (by decide +kernel)) (fun s H C cl fp => ⟨_, (xgt (by exact rfl) (xgs_cons (xg 5 sc24.nd) (xgs_cons (xg 6 sc24.nd) xgs_nil)))⟩) (fun s H C cl fp => ⟨_, qts_nil⟩) (fun s H C cl fp => ⟨_, (xcall (by exact c.c13) (by exact hr) T13_eq (xa_cons (xcall (by exact c.c3) (by exact hr) T3_eq (xa_cons (xv 5) xa_nil)) (xa_cons (xv 6) xa_nil)))⟩)))) xos_nil))))))))))))⟩
/-- _law_parts_fine -/
theorem ok25 (F : Fun K "_law_parts_fine" "_law_parts_fine" s25 a fd) (z : Bl mg) (c : Cs P w K mg base k) : FnOk P w K mg base CX0 (k + 1) a fd P25 (spRun K T (k + 1) 25) :=
  def_okB (B := B25) (fr := false) [] T25_eq F sc25 rfl rfl (by decide) fun cdv A outer s H E hr => ⟨_, (ss_cons (s_asg (xtup (xa_cons (xtup (xa_cons xstr (xa_cons (xtup (xa_cons xstr (xa_cons xstr xa_nil))) xa_nil))) (xa_cons (xtup (xa_cons xstr (xa_cons xstr xa_nil))) xa_nil))) (xgt (by exact rfl) (xgs_cons (xg 0 sc25.nd) (xgs_cons (xg 1 sc25.nd) xgs_nil))))
    (ss_cons (s_set 2 sc25.nd (xtup (xa_cons xstr (xa_cons xstr (xa_cons (xv 0) (xa_cons (xtup (xa_cons xstr (xa_cons (xv 0) (xa_cons (xv 1) (xa_cons (xtup (xa_cons xstr (xa_cons (xv 1) xa_nil))) (xa_cons (xv 0) xa_nil)))))) xa_nil))))))
    (ss_cons (s_set 3 sc25.nd (xtup (xa_cons (xtup xa_nil) (xa_cons (xtup (xa_cons xint xa_nil)) (xa_cons (xtup (xa_cons xint xa_nil)) (xa_cons (xtup (xa_cons xint (xa_cons xint xa_nil))) (xa_cons (xtup (xa_cons xint (xa_cons xint xa_nil))) (xa_cons (xtup (xa_cons xint (xa_cons xint xa_nil))) (xa_cons (xtup (xa_cons xint (xa_cons xint (xa_cons xint xa_nil)))) (xa_cons (xtup (xa_cons xint (xa_cons xint xa_nil))) xa_nil))))))))))
    (ss_cons (s_if (xqnot (xq (xcall (by exact c.c13) (by exact hr) T13_eq (xa_cons (xtup (xa_cons (xcall (by exact c.c7) (by exact hr) T7_eq (xa_cons (xv 2) xa_nil)) (xa_cons (xcall (by exact c.c5) (by exact hr) T5_eq (xa_cons (xv 2) xa_nil)) (xa_cons (xcall (by exact c.c6) (by exact hr) T6_eq (xa_cons (xv 2) xa_nil)) xa_nil)))) (xa_cons (xtup (xa_cons (xv 3) (xa_cons xint (xa_cons xint xa_nil)))) xa_nil))))) (ss_one (s_ret xbl)) ss_nil)
    (ss_cons (s_if (xqnot (xq (xcall (by exact c.c13) (by exact hr) T13_eq (xa_cons (xtup (xa_cons (xcall (by exact c.c8) (by exact hr) T8_eq (xa_cons (xv 2) (xa_cons (xtup (xa_cons xint (xa_cons xint (xa_cons xint xa_nil)))) xa_nil))) (xa_cons (xcall (by exact c.c8) (by exact hr) T8_eq (xa_cons (xv 2) (xa_cons (xtup (xa_cons xint (xa_cons xint xa_nil))) xa_nil))) (xa_cons (xcall (by exact c.c8) (by exact hr) T8_eq (xa_cons (xv 2) (xa_cons (xtup xa_nil) xa_nil))) xa_nil)))) (xa_cons (xtup (xa_cons (xv 1) (xa_cons (xv 0) (xa_cons (xv 2) xa_nil)))) xa_nil))))) (ss_one (s_ret xbl)) ss_nil)
    (ss_cons (s_if (xqnot (xq (xcall (by exact c.c13) (by exact hr) T13_eq (xa_cons (xtup (xa_cons (xcall (by exact c.c0) (by exact hr) T0_eq (xa_cons (xv 2) xa_nil)) (xa_cons (xcall (by exact c.c0) (by exact hr) T0_eq (xa_cons (xv 0) xa_nil)) (xa_cons (xcall (by exact c.c0) (by exact hr) T0_eq (xa_cons (xv 1) xa_nil)) (xa_cons (xcall (by exact c.c0) (by exact hr) T0_eq (xa_cons (xtup (xa_cons xstr (xa_cons (xv 1) xa_nil))) xa_nil)) xa_nil))))) (xa_cons (xtup (xa_cons (xtup (xa_cons (xv 0) (xa_cons (xix (ix_all (by exact hu_of hr)) g_ix (xo (xv 2)) (xo xint)) xa_nil))) (xa_cons (xtup xa_nil) (xa_cons (xtup xa_nil) (xa_cons (xtup (xa_cons (xv 1) xa_nil)) xa_nil))))) xa_nil))))) (ss_one (s_ret xbl)) ss_nil)
    (ss_cons (s_if (xqnot (xq (xcall (by exact c.c13) (by exact hr) T13_eq (xa_cons (xtup (xa_cons (xcall (by exact c.c6) (by exact hr) T6_eq (xa_cons (xv 1) xa_nil)) (xa_cons (xcall (by exact c.c5) (by exact hr) T5_eq (xa_cons (xv 0) xa_nil)) (xa_cons (xcall (by exact c.c7) (by exact hr) T7_eq (xa_cons (xv 0) xa_nil)) (xa_cons (xcall (by exact c.c3) (by exact hr) T3_eq (xa_cons (xix (ix_all (by exact hu_of hr)) g_ix (xo (xv 2)) (xo xint)) xa_nil)) xa_nil))))) (xa_cons (xtup (xa_cons xint (xa_cons xint (xa_cons (xtup (xa_cons (xtup xa_nil) xa_nil)) (xa_cons (xtup (xa_cons xstr xa_nil)) xa_nil))))) xa_nil))))) (ss_one (s_ret xbl)) ss_nil)
    (ss_cons (s_set 4 sc25.nd (xtup (xa_cons xstr (xa_cons xstr (xa_cons (xv 0) (xa_cons (xtup (xa_cons xstr (xa_cons (xv 0) (xa_cons (xv 1) (xa_cons (xtup (xa_cons xstr (xa_cons (xtup (xa_cons xstr (xa_cons xstr xa_nil))) xa_nil))) (xa_cons (xv 0) xa_nil)))))) xa_nil))))))
    (ss_cons (s_if (PXW.x (xqor (xqnot (xq (xcall (by exact c.c13) (by exact hr) T13_eq (xa_cons (xcall (by exact c.c9) (by exact hr) T9_eq (xa_cons (xv 2) (xa_cons (xtup (xa_cons xint (xa_cons xint (xa_cons xint xa_nil)))) (xa_cons (xtup (xa_cons xstr (xa_cons xstr xa_nil))) xa_nil)))) (xa_cons (xv 4) xa_nil))))) (xqor1 (xqnot (xq (xcall (by exact c.c13) (by exact hr) T13_eq (xa_cons (xcall (by exact c.c9) (by exact hr) T9_eq (xa_cons (xv 1) (xa_cons (xtup xa_nil) (xa_cons (xv 2) xa_nil)))) (xa_cons (xv 2) xa_nil)))))))) (ss_one (s_ret xbl)) ss_nil)
    (ss_cons (s_if (PXW.x (xqor (xqnot (xq (xcall (by exact c.c13) (by exact hr) T13_eq (xa_cons (xcall (by exact c.c1) (by exact hr) T1_eq (xa_cons (xtup (xa_cons xstr (xa_cons xstr (xa_cons (xv 0) (xa_cons (xv 1) xa_nil))))) (xa_cons (xtup (xa_cons (xv 1) (xa_cons (xv 0) xa_nil))) xa_nil))) (xa_cons (xtup (xa_cons xstr (xa_cons xstr (xa_cons (xv 1) (xa_cons (xv 0) xa_nil))))) xa_nil))))) (xqor1 (xqnot (xq (xcall (by exact c.c13) (by exact hr) T13_eq (xa_cons (xcall (by exact c.c1) (by exact hr) T1_eq (xa_cons (xv 1) (xa_cons (xtup xa_nil) xa_nil))) (xa_cons (xv 1) xa_nil)))))))) (ss_one (s_ret xbl)) ss_nil)
    (ss_one (s_ret (xand (xcall (by exact c.c13) (by exact hr) T13_eq (xa_cons (xcall (by exact c.c1) (by exact hr) T1_eq (xa_cons (xtup (xa_cons xstr (xa_cons (xv 0) (xa_cons (xv 1) (xa_cons (xv 0) (xa_cons (xv 1) xa_nil)))))) (xa_cons (xtup (xa_cons (xv 1) (xa_cons (xv 0) (xa_cons (xv 1) (xa_cons (xv 1) xa_nil))))) xa_nil))) (xa_cons (xtup (xa_cons xstr (xa_cons (xv 1) (xa_cons (xv 0) (xa_cons (xv 1) (xa_cons (xv 1) xa_nil)))))) xa_nil))) (xone (xcall (by exact c.c13) (by exact hr) T13_eq (xa_cons (xcall (by exact c.c1) (by exact hr) T1_eq (xa_cons (xtup (xa_cons xstr (xa_cons (xv 1) xa_nil))) (xa_cons (xtup (xa_cons (xv 0) xa_nil)) xa_nil))) (xa_cons (xtup (xa_cons xstr (xa_cons (xv 0) xa_nil))) xa_nil)))))))))))))))))⟩
/-- law -/
theorem ok26 (F : Fun K "law" "law" s26 a fd) (z : Bl mg) (c : Cs P w K mg base k) : FnOk P w K mg base CX0 (k + 1) a fd P26 (spRun K T (k + 1) 26) :=
  def_okB (B := B26) (fr := false) [] T26_eq F sc26 rfl rfl (by decide) fun cdv A outer s H E hr => ⟨_, (ss_cons (s_for (by exact rfl) (xi_rng1 z.z_range xint) (xg 1 sc26.nd) (ss_cons (s_obj 2 sc26.nd (xdispF (xp_cons xstr (xcall (by exact c.c11) (by exact hr) T11_eq (xa_cons (xcall (by exact c.c10) (by exact hr) T10_eq (xa_cons (xv 0) (xa_cons (xv 1) xa_nil))) (xa_cons xint xa_nil))) (xp_cons xstr xint xp_nil))))
    (ss_one (s_for (by exact rfl) (xi_rng1 z.z_range xint) (xg 3 sc26.nd) (ss_cons (s_par 4 5 (by exact rfl) sc26.nd (xa_cons (xcall (by exact c.c18) (by exact hr) T18_eq (xa_cons (xv 2) (xa_cons (PXF.px (xlstF xa_nil)) (xa_cons xint (xa_cons xint xa_nil))))) (xa_cons (xcall (by exact c.c18) (by exact hr) T18_eq (xa_cons (xv 2) (xa_cons (PXF.px (xlstF (xa_cons xstr (xa_cons xstr xa_nil)))) (xa_cons xint (xa_cons xint xa_nil))))) xa_nil)))
    (ss_one (s_if (xqnot (xq (xcall (by exact c.c23) (by exact hr) T23_eq (xa_cons (xv 2) (xa_cons (xv 4) (xa_cons (xv 5) xa_nil)))))) (ss_one (s_ret xbl)) ss_nil))) PassesOwn.never))) PassesOwn.never)
    (ss_cons (s_if (PXW.x (xqor (xqnot (xq (xcall0 (by exact c.c24) (by exact hr) T24_eq))) (xqor1 (xqnot (xq (xcall0 (by exact c.c25) (by exact hr) T25_eq)))))) (ss_one (s_ret xbl)) ss_nil)
    (ss_one (s_ret (xcall (by exact c.c13) (by exact hr) T13_eq (xa_cons (xcall (by exact c.c3) (by exact hr) T3_eq (xa_cons (xtup (xa_cons xstr (xa_cons xstr (xa_cons (xtup (xa_cons xstr (xa_cons xstr xa_nil))) (xa_cons (xtup (xa_cons xstr (xa_cons xstr (xa_cons (xtup (xa_cons xstr (xa_cons xstr xa_nil))) (xa_cons (xtup (xa_cons xstr (xa_cons xstr xa_nil))) xa_nil))))) xa_nil))))) xa_nil)) (xa_cons (xtup (xa_cons xstr (xa_cons xstr xa_nil))) xa_nil)))))))⟩
end
structure Ds (K : PySem.W.Frag) (mg : Str → Option Value) : Prop where
  d0 : DefG K mg "parts_of" s0 P0
  d1 : DefG K mg "with_parts" s1 P1
  d2 : DefG K mg "binds_in" s2 P2
  d3 : DefG K mg "free_names" s3 P3
  d4 : DefG K mg "free_in" s4 P4
  d5 : DefG K mg "size_of" s5 P5
  d6 : DefG K mg "depth_of" s6 P6
  d7 : DefG K mg "paths_of" s7 P7
  d8 : DefG K mg "part_at" s8 P8
  d9 : DefG K mg "with_part_at" s9 P9
  d10 : DefG K mg "_law_cell" s10 P10
  d11 : DefG K mg "_law_draws" s11 P11
  d12 : DefG K mg "_law_is_integer" s12 P12
  d13 : DefG K mg "_law_is" s13 P13
  d14 : DefG K mg "_law_take" s14 P14
  d15 : DefG K mg "_law_word" s15 P15
  d16 : DefG K mg "_law_words" s16 P16
  d17 : DefG K mg "_law_atom" s17 P17
  d18 : DefG K mg "_law_tree" s18 P18
  d19 : DefG K mg "_law_parts" s19 P19
  d20 : DefG K mg "_law_rows" s20 P20
  d21 : DefG K mg "_law_free" s21 P21
  d22 : DefG K mg "_law_rebuilt" s22 P22
  d23 : DefG K mg "_law_tree_fine" s23 P23
  d24 : DefG K mg "_law_free_fine" s24 P24
  d25 : DefG K mg "_law_parts_fine" s25 P25
  d26 : DefG K mg "law" s26 P26
theorem all {P : Program} {w : World} {K : PySem.W.Frag} {mg : Str → Option Value} {base : Heap} (d : Ds K mg) (z : Bl mg) : ∀ k, Cs P w K mg base k
  | 0 => ⟨cal_no d.d0 T0_eq rfl, cal_no d.d1 T1_eq rfl, cal_no d.d2 T2_eq rfl, cal_no d.d3 T3_eq rfl, cal_no d.d4 T4_eq rfl, cal_no d.d5 T5_eq rfl, cal_no d.d6 T6_eq rfl, cal_no d.d7 T7_eq rfl, cal_no d.d8 T8_eq rfl, cal_no d.d9 T9_eq rfl, cal_no d.d10 T10_eq rfl, cal_no d.d11 T11_eq rfl, cal_no d.d12 T12_eq rfl, cal_no d.d13 T13_eq rfl, cal_no d.d14 T14_eq rfl, cal_no d.d15 T15_eq rfl, cal_no d.d16 T16_eq rfl, cal_no d.d17 T17_eq rfl, cal_no d.d18 T18_eq rfl, cal_no d.d19 T19_eq rfl, cal_no d.d20 T20_eq rfl, cal_no d.d21 T21_eq rfl, cal_no d.d22 T22_eq rfl, cal_no d.d23 T23_eq rfl, cal_no d.d24 T24_eq rfl, cal_no d.d25 T25_eq rfl, cal_no d.d26 T26_eq rfl⟩
  | k + 1 => have c := all (P := P) (w := w) (base := base) d z k
    ⟨cal_ok d.d0 (fun a fd F => ok0 F z c), cal_ok d.d1 (fun a fd F => ok1 F z c), cal_ok d.d2 (fun a fd F => ok2 F z c), cal_ok d.d3 (fun a fd F => ok3 F z c), cal_ok d.d4 (fun a fd F => ok4 F z c), cal_ok d.d5 (fun a fd F => ok5 F z c), cal_ok d.d6 (fun a fd F => ok6 F z c), cal_ok d.d7 (fun a fd F => ok7 F z c), cal_ok d.d8 (fun a fd F => ok8 F z c), cal_ok d.d9 (fun a fd F => ok9 F z c), cal_ok d.d10 (fun a fd F => ok10 F z c), cal_ok d.d11 (fun a fd F => ok11 F z c), cal_ok d.d12 (fun a fd F => ok12 F z c), cal_ok d.d13 (fun a fd F => ok13 F z c), cal_ok d.d14 (fun a fd F => ok14 F z c), cal_ok d.d15 (fun a fd F => ok15 F z c), cal_ok d.d16 (fun a fd F => ok16 F z c), cal_ok d.d17 (fun a fd F => ok17 F z c), cal_ok d.d18 (fun a fd F => ok18 F z c), cal_ok d.d19 (fun a fd F => ok19 F z c), cal_ok d.d20 (fun a fd F => ok20 F z c), cal_ok d.d21 (fun a fd F => ok21 F z c), cal_ok d.d22 (fun a fd F => ok22 F z c), cal_ok d.d23 (fun a fd F => ok23 F z c), cal_ok d.d24 (fun a fd F => ok24 F z c), cal_ok d.d25 (fun a fd F => ok25 F z c), cal_ok d.d26 (fun a fd F => ok26 F z c)⟩
/-! ### the top -/
theorem all_mk {l : PySem.W.OpenLaw} {w : World} {K : PySem.W.Frag} {h : Heap} {mg : Str → Option Value} {fa f0 f1 f2 f3 f4 f5 f6 f7 f8 f9 f10 f11 f12 f13 f14 f15 f16 f17 f18 f19 f20 f21 f22 f23 f24 f25 f26 : Addr} (X : K.In h) (G : h.Ns mainGlobals mg) (hfa : mg "law" = some (.ref fa))
    {od0 od1 od2 od3 od4 od5 od6 od7 od8 od9 od10 od11 od12 od13 od14 od15 od16 od17 od18 od19 od20 od21 od22 od23 od24 od25 od26 an0 an1 an2 an3 an4 an5 an6 an7 an8 an9 an10 an11 an12 an13 an14 an15 an16 an17 an18 an19 an20 an21 an22 an23 an24 an25 an26 : Option Addr} {sl0 sl1 sl2 sl3 sl4 sl5 sl6 sl7 sl8 sl9 sl10 sl11 sl12 sl13 sl14 sl15 sl16 sl17 sl18 sl19 sl20 sl21 sl22 sl23 sl24 sl25 sl26 : Array (Option Value)} {oc0 oc1 oc2 oc3 oc4 oc5 oc6 oc7 oc8 oc9 oc10 oc11 oc12 oc13 oc14 oc15 oc16 oc17 oc18 oc19 oc20 oc21 oc22 oc23 oc24 oc25 oc26 kV0 kV1 kV2 kV3 kV4 kV5 kV6 kV7 kV8 kV9 kV10 kV11 kV12 kV13 kV14 kV15 kV16 kV17 kV18 kV19 kV20 kV21 kV22 kV23 kV24 kV25 kV26 dc0 dc1 dc2 dc3 dc4 dc5 dc6 dc7 dc8 dc9 dc10 dc11 dc12 dc13 dc14 dc15 dc16 dc17 dc18 dc19 dc20 dc21 dc22 dc23 dc24 dc25 dc26 pm0 pm1 pm2 pm3 pm4 pm5 pm6 pm7 pm8 pm9 pm10 pm11 pm12 pm13 pm14 pm15 pm16 pm17 pm18 pm19 pm20 pm21 pm22 pm23 pm24 pm25 pm26 cd0 cd1 cd2 cd3 cd4 cd5 cd6 cd7 cd8 cd9 cd10 cd11 cd12 cd13 cd14 cd15 cd16 cd17 cd18 cd19 cd20 cd21 cd22 cd23 cd24 cd25 cd26 ct0 ct1 ct2 ct3 ct4 ct5 ct6 ct7 ct8 ct9 ct10 ct11 ct12 ct13 ct14 ct15 ct16 ct17 ct18 ct19 ct20 ct21 ct22 ct23 ct24 ct25 ct26 : Value}
    (a0 : PySem.W.nsIn K mainGlobals "parts_of" = some (some (.ref f0)))
    (l0 : K.lookup f0 = some ⟨oc0, od0, .func (PySem.W.fnOf "parts_of" "parts_of" (defArgs s0) (defBody s0) (defScope s0) .none kV0 dc0 pm0 an0 cd0 ct0), sl0⟩)
    (c0 : PySem.W.codeIn K cd0 "parts_of" = true)
    (k0 : PySem.W.keepIn K (.ref f0) = true)
    (a1 : PySem.W.nsIn K mainGlobals "with_parts" = some (some (.ref f1)))
    (l1 : K.lookup f1 = some ⟨oc1, od1, .func (PySem.W.fnOf "with_parts" "with_parts" (defArgs s1) (defBody s1) (defScope s1) .none kV1 dc1 pm1 an1 cd1 ct1), sl1⟩)
    (c1 : PySem.W.codeIn K cd1 "with_parts" = true)
    (k1 : PySem.W.keepIn K (.ref f1) = true)
    (a2 : PySem.W.nsIn K mainGlobals "binds_in" = some (some (.ref f2)))
    (l2 : K.lookup f2 = some ⟨oc2, od2, .func (PySem.W.fnOf "binds_in" "binds_in" (defArgs s2) (defBody s2) (defScope s2) .none kV2 dc2 pm2 an2 cd2 ct2), sl2⟩)
    (c2 : PySem.W.codeIn K cd2 "binds_in" = true)
    (k2 : PySem.W.keepIn K (.ref f2) = true)
    (a3 : PySem.W.nsIn K mainGlobals "free_names" = some (some (.ref f3)))
    (l3 : K.lookup f3 = some ⟨oc3, od3, .func (PySem.W.fnOf "free_names" "free_names" (defArgs s3) (defBody s3) (defScope s3) .none kV3 dc3 pm3 an3 cd3 ct3), sl3⟩)
    (c3 : PySem.W.codeIn K cd3 "free_names" = true)
    (k3 : PySem.W.keepIn K (.ref f3) = true)
    (a4 : PySem.W.nsIn K mainGlobals "free_in" = some (some (.ref f4)))
    (l4 : K.lookup f4 = some ⟨oc4, od4, .func (PySem.W.fnOf "free_in" "free_in" (defArgs s4) (defBody s4) (defScope s4) .none kV4 dc4 pm4 an4 cd4 ct4), sl4⟩)
    (c4 : PySem.W.codeIn K cd4 "free_in" = true)
    (k4 : PySem.W.keepIn K (.ref f4) = true)
    (a5 : PySem.W.nsIn K mainGlobals "size_of" = some (some (.ref f5)))
    (l5 : K.lookup f5 = some ⟨oc5, od5, .func (PySem.W.fnOf "size_of" "size_of" (defArgs s5) (defBody s5) (defScope s5) .none kV5 dc5 pm5 an5 cd5 ct5), sl5⟩)
    (c5 : PySem.W.codeIn K cd5 "size_of" = true)
    (k5 : PySem.W.keepIn K (.ref f5) = true)
    (a6 : PySem.W.nsIn K mainGlobals "depth_of" = some (some (.ref f6)))
    (l6 : K.lookup f6 = some ⟨oc6, od6, .func (PySem.W.fnOf "depth_of" "depth_of" (defArgs s6) (defBody s6) (defScope s6) .none kV6 dc6 pm6 an6 cd6 ct6), sl6⟩)
    (c6 : PySem.W.codeIn K cd6 "depth_of" = true)
    (k6 : PySem.W.keepIn K (.ref f6) = true)
    (a7 : PySem.W.nsIn K mainGlobals "paths_of" = some (some (.ref f7)))
    (l7 : K.lookup f7 = some ⟨oc7, od7, .func (PySem.W.fnOf "paths_of" "paths_of" (defArgs s7) (defBody s7) (defScope s7) .none kV7 dc7 pm7 an7 cd7 ct7), sl7⟩)
    (c7 : PySem.W.codeIn K cd7 "paths_of" = true)
    (k7 : PySem.W.keepIn K (.ref f7) = true)
    (a8 : PySem.W.nsIn K mainGlobals "part_at" = some (some (.ref f8)))
    (l8 : K.lookup f8 = some ⟨oc8, od8, .func (PySem.W.fnOf "part_at" "part_at" (defArgs s8) (defBody s8) (defScope s8) .none kV8 dc8 pm8 an8 cd8 ct8), sl8⟩)
    (c8 : PySem.W.codeIn K cd8 "part_at" = true)
    (k8 : PySem.W.keepIn K (.ref f8) = true)
    (a9 : PySem.W.nsIn K mainGlobals "with_part_at" = some (some (.ref f9)))
    (l9 : K.lookup f9 = some ⟨oc9, od9, .func (PySem.W.fnOf "with_part_at" "with_part_at" (defArgs s9) (defBody s9) (defScope s9) .none kV9 dc9 pm9 an9 cd9 ct9), sl9⟩)
    (c9 : PySem.W.codeIn K cd9 "with_part_at" = true)
    (k9 : PySem.W.keepIn K (.ref f9) = true)
    (a10 : PySem.W.nsIn K mainGlobals "_law_cell" = some (some (.ref f10)))
    (l10 : K.lookup f10 = some ⟨oc10, od10, .func (PySem.W.fnOf "_law_cell" "_law_cell" (defArgs s10) (defBody s10) (defScope s10) .none kV10 dc10 pm10 an10 cd10 ct10), sl10⟩)
    (c10 : PySem.W.codeIn K cd10 "_law_cell" = true)
    (k10 : PySem.W.keepIn K (.ref f10) = true)
    (a11 : PySem.W.nsIn K mainGlobals "_law_draws" = some (some (.ref f11)))
    (l11 : K.lookup f11 = some ⟨oc11, od11, .func (PySem.W.fnOf "_law_draws" "_law_draws" (defArgs s11) (defBody s11) (defScope s11) .none kV11 dc11 pm11 an11 cd11 ct11), sl11⟩)
    (c11 : PySem.W.codeIn K cd11 "_law_draws" = true)
    (k11 : PySem.W.keepIn K (.ref f11) = true)
    (a12 : PySem.W.nsIn K mainGlobals "_law_is_integer" = some (some (.ref f12)))
    (l12 : K.lookup f12 = some ⟨oc12, od12, .func (PySem.W.fnOf "_law_is_integer" "_law_is_integer" (defArgs s12) (defBody s12) (defScope s12) .none kV12 dc12 pm12 an12 cd12 ct12), sl12⟩)
    (c12 : PySem.W.codeIn K cd12 "_law_is_integer" = true)
    (k12 : PySem.W.keepIn K (.ref f12) = true)
    (a13 : PySem.W.nsIn K mainGlobals "_law_is" = some (some (.ref f13)))
    (l13 : K.lookup f13 = some ⟨oc13, od13, .func (PySem.W.fnOf "_law_is" "_law_is" (defArgs s13) (defBody s13) (defScope s13) .none kV13 dc13 pm13 an13 cd13 ct13), sl13⟩)
    (c13 : PySem.W.codeIn K cd13 "_law_is" = true)
    (k13 : PySem.W.keepIn K (.ref f13) = true)
    (a14 : PySem.W.nsIn K mainGlobals "_law_take" = some (some (.ref f14)))
    (l14 : K.lookup f14 = some ⟨oc14, od14, .func (PySem.W.fnOf "_law_take" "_law_take" (defArgs s14) (defBody s14) (defScope s14) .none kV14 dc14 pm14 an14 cd14 ct14), sl14⟩)
    (c14 : PySem.W.codeIn K cd14 "_law_take" = true)
    (k14 : PySem.W.keepIn K (.ref f14) = true)
    (a15 : PySem.W.nsIn K mainGlobals "_law_word" = some (some (.ref f15)))
    (l15 : K.lookup f15 = some ⟨oc15, od15, .func (PySem.W.fnOf "_law_word" "_law_word" (defArgs s15) (defBody s15) (defScope s15) .none kV15 dc15 pm15 an15 cd15 ct15), sl15⟩)
    (c15 : PySem.W.codeIn K cd15 "_law_word" = true)
    (k15 : PySem.W.keepIn K (.ref f15) = true)
    (a16 : PySem.W.nsIn K mainGlobals "_law_words" = some (some (.ref f16)))
    (l16 : K.lookup f16 = some ⟨oc16, od16, .func (PySem.W.fnOf "_law_words" "_law_words" (defArgs s16) (defBody s16) (defScope s16) .none kV16 dc16 pm16 an16 cd16 ct16), sl16⟩)
    (c16 : PySem.W.codeIn K cd16 "_law_words" = true)
    (k16 : PySem.W.keepIn K (.ref f16) = true)
    (a17 : PySem.W.nsIn K mainGlobals "_law_atom" = some (some (.ref f17)))
    (l17 : K.lookup f17 = some ⟨oc17, od17, .func (PySem.W.fnOf "_law_atom" "_law_atom" (defArgs s17) (defBody s17) (defScope s17) .none kV17 dc17 pm17 an17 cd17 ct17), sl17⟩)
    (c17 : PySem.W.codeIn K cd17 "_law_atom" = true)
    (k17 : PySem.W.keepIn K (.ref f17) = true)
    (a18 : PySem.W.nsIn K mainGlobals "_law_tree" = some (some (.ref f18)))
    (l18 : K.lookup f18 = some ⟨oc18, od18, .func (PySem.W.fnOf "_law_tree" "_law_tree" (defArgs s18) (defBody s18) (defScope s18) .none kV18 dc18 pm18 an18 cd18 ct18), sl18⟩)
    (c18 : PySem.W.codeIn K cd18 "_law_tree" = true)
    (k18 : PySem.W.keepIn K (.ref f18) = true)
    (a19 : PySem.W.nsIn K mainGlobals "_law_parts" = some (some (.ref f19)))
    (l19 : K.lookup f19 = some ⟨oc19, od19, .func (PySem.W.fnOf "_law_parts" "_law_parts" (defArgs s19) (defBody s19) (defScope s19) .none kV19 dc19 pm19 an19 cd19 ct19), sl19⟩)
    (c19 : PySem.W.codeIn K cd19 "_law_parts" = true)
    (k19 : PySem.W.keepIn K (.ref f19) = true)
    (a20 : PySem.W.nsIn K mainGlobals "_law_rows" = some (some (.ref f20)))
    (l20 : K.lookup f20 = some ⟨oc20, od20, .func (PySem.W.fnOf "_law_rows" "_law_rows" (defArgs s20) (defBody s20) (defScope s20) .none kV20 dc20 pm20 an20 cd20 ct20), sl20⟩)
    (c20 : PySem.W.codeIn K cd20 "_law_rows" = true)
    (k20 : PySem.W.keepIn K (.ref f20) = true)
    (a21 : PySem.W.nsIn K mainGlobals "_law_free" = some (some (.ref f21)))
    (l21 : K.lookup f21 = some ⟨oc21, od21, .func (PySem.W.fnOf "_law_free" "_law_free" (defArgs s21) (defBody s21) (defScope s21) .none kV21 dc21 pm21 an21 cd21 ct21), sl21⟩)
    (c21 : PySem.W.codeIn K cd21 "_law_free" = true)
    (k21 : PySem.W.keepIn K (.ref f21) = true)
    (a22 : PySem.W.nsIn K mainGlobals "_law_rebuilt" = some (some (.ref f22)))
    (l22 : K.lookup f22 = some ⟨oc22, od22, .func (PySem.W.fnOf "_law_rebuilt" "_law_rebuilt" (defArgs s22) (defBody s22) (defScope s22) .none kV22 dc22 pm22 an22 cd22 ct22), sl22⟩)
    (c22 : PySem.W.codeIn K cd22 "_law_rebuilt" = true)
    (k22 : PySem.W.keepIn K (.ref f22) = true)
    (a23 : PySem.W.nsIn K mainGlobals "_law_tree_fine" = some (some (.ref f23)))
    (l23 : K.lookup f23 = some ⟨oc23, od23, .func (PySem.W.fnOf "_law_tree_fine" "_law_tree_fine" (defArgs s23) (defBody s23) (defScope s23) .none kV23 dc23 pm23 an23 cd23 ct23), sl23⟩)
    (c23 : PySem.W.codeIn K cd23 "_law_tree_fine" = true)
    (k23 : PySem.W.keepIn K (.ref f23) = true)
    (a24 : PySem.W.nsIn K mainGlobals "_law_free_fine" = some (some (.ref f24)))
    (l24 : K.lookup f24 = some ⟨oc24, od24, .func (PySem.W.fnOf "_law_free_fine" "_law_free_fine" (defArgs s24) (defBody s24) (defScope s24) .none kV24 dc24 pm24 an24 cd24 ct24), sl24⟩)
    (c24 : PySem.W.codeIn K cd24 "_law_free_fine" = true)
    (k24 : PySem.W.keepIn K (.ref f24) = true)
    (a25 : PySem.W.nsIn K mainGlobals "_law_parts_fine" = some (some (.ref f25)))
    (l25 : K.lookup f25 = some ⟨oc25, od25, .func (PySem.W.fnOf "_law_parts_fine" "_law_parts_fine" (defArgs s25) (defBody s25) (defScope s25) .none kV25 dc25 pm25 an25 cd25 ct25), sl25⟩)
    (c25 : PySem.W.codeIn K cd25 "_law_parts_fine" = true)
    (k25 : PySem.W.keepIn K (.ref f25) = true)
    (a26 : PySem.W.nsIn K mainGlobals "law" = some (some (.ref f26)))
    (l26 : K.lookup f26 = some ⟨oc26, od26, .func (PySem.W.fnOf "law" "law" (defArgs s26) (defBody s26) (defScope s26) .none kV26 dc26 pm26 an26 cd26 ct26), sl26⟩)
    (c26 : PySem.W.codeIn K cd26 "law" = true)
    (k26 : PySem.W.keepIn K (.ref f26) = true)
    (z_abs : PySem.W.nsIn K mainGlobals "abs" = some none)
    (z_all : PySem.W.nsIn K mainGlobals "all" = some none)
    (z_bool : PySem.W.nsIn K mainGlobals "bool" = some none)
    (z_enumerate : PySem.W.nsIn K mainGlobals "enumerate" = some none)
    (z_int : PySem.W.nsIn K mainGlobals "int" = some none)
    (z_isinstance : PySem.W.nsIn K mainGlobals "isinstance" = some none)
    (z_len : PySem.W.nsIn K mainGlobals "len" = some none)
    (z_list : PySem.W.nsIn K mainGlobals "list" = some none)
    (z_max : PySem.W.nsIn K mainGlobals "max" = some none)
    (z_range : PySem.W.nsIn K mainGlobals "range" = some none)
    (z_set : PySem.W.nsIn K mainGlobals "set" = some none)
    (z_sorted : PySem.W.nsIn K mainGlobals "sorted" = some none)
    (z_str : PySem.W.nsIn K mainGlobals "str" = some none)
    (z_sum : PySem.W.nsIn K mainGlobals "sum" = some none)
    (z_tuple : PySem.W.nsIn K mainGlobals "tuple" = some none)
    (k : Nat) : ∃ fd : FuncData, (∀ (s : Shared) (v : Value), BindsTo s fd ⟨[v], []⟩ [("script", v)]) ∧ ∀ base : Heap, K.In base → base.Ns mainGlobals mg → FnOk l.prog w K mg base CX0 (k + 1) fa fd ["script"] (spRun K T (k + 1) 26) := by
  have e := hfa.symm.trans (PySem.W.mg_of X G a26)
  cases e
  have F0 := fun_mk (st := s0) l0 c0 k0
  have b0 := F0.binds (ps := P0) fun _ _ _ _ _ _ us hl => match us, hl with | [_], _ => rfl
  have F1 := fun_mk (st := s1) l1 c1 k1
  have b1 := F1.binds (ps := P1) fun _ _ _ _ _ _ us hl => match us, hl with | [_, _], _ => rfl
  have F2 := fun_mk (st := s2) l2 c2 k2
  have b2 := F2.binds (ps := P2) fun _ _ _ _ _ _ us hl => match us, hl with | [_, _], _ => rfl
  have F3 := fun_mk (st := s3) l3 c3 k3
  have b3 := F3.binds (ps := P3) fun _ _ _ _ _ _ us hl => match us, hl with | [_], _ => rfl
  have F4 := fun_mk (st := s4) l4 c4 k4
  have b4 := F4.binds (ps := P4) fun _ _ _ _ _ _ us hl => match us, hl with | [_], _ => rfl
  have F5 := fun_mk (st := s5) l5 c5 k5
  have b5 := F5.binds (ps := P5) fun _ _ _ _ _ _ us hl => match us, hl with | [_], _ => rfl
  have F6 := fun_mk (st := s6) l6 c6 k6
  have b6 := F6.binds (ps := P6) fun _ _ _ _ _ _ us hl => match us, hl with | [_], _ => rfl
  have F7 := fun_mk (st := s7) l7 c7 k7
  have b7 := F7.binds (ps := P7) fun _ _ _ _ _ _ us hl => match us, hl with | [_], _ => rfl
  have F8 := fun_mk (st := s8) l8 c8 k8
  have b8 := F8.binds (ps := P8) fun _ _ _ _ _ _ us hl => match us, hl with | [_, _], _ => rfl
  have F9 := fun_mk (st := s9) l9 c9 k9
  have b9 := F9.binds (ps := P9) fun _ _ _ _ _ _ us hl => match us, hl with | [_, _, _], _ => rfl
  have F10 := fun_mk (st := s10) l10 c10 k10
  have b10 := F10.binds (ps := P10) fun _ _ _ _ _ _ us hl => match us, hl with | [_, _], _ => rfl
  have F11 := fun_mk (st := s11) l11 c11 k11
  have b11 := F11.binds (ps := P11) fun _ _ _ _ _ _ us hl => match us, hl with | [_, _], _ => rfl
  have F12 := fun_mk (st := s12) l12 c12 k12
  have b12 := F12.binds (ps := P12) fun _ _ _ _ _ _ us hl => match us, hl with | [_], _ => rfl
  have F13 := fun_mk (st := s13) l13 c13 k13
  have b13 := F13.binds (ps := P13) fun _ _ _ _ _ _ us hl => match us, hl with | [_, _], _ => rfl
  have F14 := fun_mk (st := s14) l14 c14 k14
  have b14 := F14.binds (ps := P14) fun _ _ _ _ _ _ us hl => match us, hl with | [_, _], _ => rfl
  have F15 := fun_mk (st := s15) l15 c15 k15
  have b15 := F15.binds (ps := P15) fun _ _ _ _ _ _ us hl => match us, hl with | [_], _ => rfl
  have F16 := fun_mk (st := s16) l16 c16 k16
  have b16 := F16.binds (ps := P16) fun _ _ _ _ _ _ us hl => match us, hl with | [_, _], _ => rfl
  have F17 := fun_mk (st := s17) l17 c17 k17
  have b17 := F17.binds (ps := P17) fun _ _ _ _ _ _ us hl => match us, hl with | [_, _], _ => rfl
  have F18 := fun_mk (st := s18) l18 c18 k18
  have b18 := F18.binds (ps := P18) fun _ _ _ _ _ _ us hl => match us, hl with | [_, _, _, _], _ => rfl
  have F19 := fun_mk (st := s19) l19 c19 k19
  have b19 := F19.binds (ps := P19) fun _ _ _ _ _ _ us hl => match us, hl with | [_], _ => rfl
  have F20 := fun_mk (st := s20) l20 c20 k20
  have b20 := F20.binds (ps := P20) fun _ _ _ _ _ _ us hl => match us, hl with | [_, _, _], _ => rfl
  have F21 := fun_mk (st := s21) l21 c21 k21
  have b21 := F21.binds (ps := P21) fun _ _ _ _ _ _ us hl => match us, hl with | [_], _ => rfl
  have F22 := fun_mk (st := s22) l22 c22 k22
  have b22 := F22.binds (ps := P22) fun _ _ _ _ _ _ us hl => match us, hl with | [_, _, _], _ => rfl
  have F23 := fun_mk (st := s23) l23 c23 k23
  have b23 := F23.binds (ps := P23) fun _ _ _ _ _ _ us hl => match us, hl with | [_, _, _], _ => rfl
  have F24 := fun_mk (st := s24) l24 c24 k24
  have b24 := F24.binds (ps := P24) fun _ _ _ _ _ _ us hl => match us, hl with | [], _ => rfl
  have F25 := fun_mk (st := s25) l25 c25 k25
  have b25 := F25.binds (ps := P25) fun _ _ _ _ _ _ us hl => match us, hl with | [], _ => rfl
  have F26 := fun_mk (st := s26) l26 c26 k26
  have b26 := F26.binds (ps := P26) fun _ _ _ _ _ _ us hl => match us, hl with | [_], _ => rfl
  have d : Ds K mg := ⟨⟨_, _, F0, PySem.W.mg_of X G a0, b0⟩, ⟨_, _, F1, PySem.W.mg_of X G a1, b1⟩, ⟨_, _, F2, PySem.W.mg_of X G a2, b2⟩, ⟨_, _, F3, PySem.W.mg_of X G a3, b3⟩, ⟨_, _, F4, PySem.W.mg_of X G a4, b4⟩, ⟨_, _, F5, PySem.W.mg_of X G a5, b5⟩, ⟨_, _, F6, PySem.W.mg_of X G a6, b6⟩, ⟨_, _, F7, PySem.W.mg_of X G a7, b7⟩, ⟨_, _, F8, PySem.W.mg_of X G a8, b8⟩, ⟨_, _, F9, PySem.W.mg_of X G a9, b9⟩, ⟨_, _, F10, PySem.W.mg_of X G a10, b10⟩, ⟨_, _, F11, PySem.W.mg_of X G a11, b11⟩, ⟨_, _, F12, PySem.W.mg_of X G a12, b12⟩, ⟨_, _, F13, PySem.W.mg_of X G a13, b13⟩, ⟨_, _, F14, PySem.W.mg_of X G a14, b14⟩, ⟨_, _, F15, PySem.W.mg_of X G a15, b15⟩, ⟨_, _, F16, PySem.W.mg_of X G a16, b16⟩, ⟨_, _, F17, PySem.W.mg_of X G a17, b17⟩, ⟨_, _, F18, PySem.W.mg_of X G a18, b18⟩, ⟨_, _, F19, PySem.W.mg_of X G a19, b19⟩, ⟨_, _, F20, PySem.W.mg_of X G a20, b20⟩, ⟨_, _, F21, PySem.W.mg_of X G a21, b21⟩, ⟨_, _, F22, PySem.W.mg_of X G a22, b22⟩, ⟨_, _, F23, PySem.W.mg_of X G a23, b23⟩, ⟨_, _, F24, PySem.W.mg_of X G a24, b24⟩, ⟨_, _, F25, PySem.W.mg_of X G a25, b25⟩, ⟨_, _, F26, PySem.W.mg_of X G a26, b26⟩⟩
  have z : Bl mg := ⟨PySem.W.mg_none_of X G z_abs, PySem.W.mg_none_of X G z_all, PySem.W.mg_none_of X G z_bool, PySem.W.mg_none_of X G z_enumerate, PySem.W.mg_none_of X G z_int, PySem.W.mg_none_of X G z_isinstance, PySem.W.mg_none_of X G z_len, PySem.W.mg_none_of X G z_list, PySem.W.mg_none_of X G z_max, PySem.W.mg_none_of X G z_range, PySem.W.mg_none_of X G z_set, PySem.W.mg_none_of X G z_sorted, PySem.W.mg_none_of X G z_str, PySem.W.mg_none_of X G z_sum, PySem.W.mg_none_of X G z_tuple⟩
  exact ⟨PySem.W.fnOf "law" "law" (defArgs s26) (defBody s26) (defScope s26) .none kV26 dc26 pm26 an26 cd26 ct26, fun s v => .of_eq rfl, fun base _ _ => ok26 F26 z (all d z k)⟩
end Gk03

namespace Gk03
open PySem Kr

/-! ### heads -/
def isLeaf (h : Str) : Bool := ("text" : Str) == h || ("name" : Str) == h
def isBind (h : Str) : Bool := ("let" : Str) == h || ("each" : Str) == h
theorem inLeaf (h : Str) : gIn (.str h) (.tup [.str "text", .str "name"]) = some (.bl (isLeaf h)) := by
  unfold isLeaf; simp [gIn, inD, bd, flatD, eqF]
theorem inBind (h : Str) : gIn (.str h) (.tup [.str "let", .str "each"]) = some (.bl (isBind h)) := by
  unfold isBind; simp [gIn, inD, bd, flatD, eqF]
theorem parts_op (k : Nat) (h : Str) (ps : List D) (H : List D) (h1 : isLeaf h = false) (h2 : isBind h = false) : runF T (k + 1) 0 [.tup (.str h :: ps)] H = .ok (.tup ps, H) := by
  simp [sSeq, sNil, sIf, sRet, sAsg, Kr.finish, o2, oV, oSlot, oOb, oOwn, bnd, Kr.ret, opt, dVar, dC, qVal, qTru, qNot, qAnd, qOr, dTup, aCons, aNil, dLst, dIf, dAnd, dOr, dNot, dB, oCons, oNil, derefL, deref, dCall, bName, bTup, bsCons, bsNil, dSl, dPart, sOwn, sRetOwn, sMV, sMO, sSet, sPop2, sPar, sObj, sPutO, sFor, iAnyD, iRng1D, iRng2D, iEnumD, itemsD, dComp, wipeD, sExpr, dIsi, bd, truD, gTuple, gList, gLen, gInt, dSorts, gSorted2, gSorts, dRev, gRev, gAdd, Kr.gSub, gIsN, gNotN, gLt, gLe, gGt, gGe, gAbs, mAppend, mExtend, mUpdate, toKey, sl0, sl1, sl2, sl3, sl4, sl5, sl6, sl7, sl8, sl11, runF, T, F0, B0, ix0, inLeaf, inBind, h1, h2, cut1, cut2, sl2]
theorem parts_bnd (k : Nat) (h : Str) (x : D) (ps : List D) (H : List D) (h1 : isLeaf h = false) (h2 : isBind h = true) : runF T (k + 1) 0 [.tup (.str h :: x :: ps)] H = .ok (.tup ps, H) := by
  simp [sSeq, sNil, sIf, sRet, sAsg, Kr.finish, o2, oV, oSlot, oOb, oOwn, bnd, Kr.ret, opt, dVar, dC, qVal, qTru, qNot, qAnd, qOr, dTup, aCons, aNil, dLst, dIf, dAnd, dOr, dNot, dB, oCons, oNil, derefL, deref, dCall, bName, bTup, bsCons, bsNil, dSl, dPart, sOwn, sRetOwn, sMV, sMO, sSet, sPop2, sPar, sObj, sPutO, sFor, iAnyD, iRng1D, iRng2D, iEnumD, itemsD, dComp, wipeD, sExpr, dIsi, bd, truD, gTuple, gList, gLen, gInt, dSorts, gSorted2, gSorts, dRev, gRev, gAdd, Kr.gSub, gIsN, gNotN, gLt, gLe, gGt, gGe, gAbs, mAppend, mExtend, mUpdate, toKey, sl0, sl1, sl2, sl3, sl4, sl5, sl6, sl7, sl8, sl11, runF, T, F0, B0, ix0, inLeaf, inBind, h1, h2, cut1, cut2, sl2]
theorem parts_leaf (k : Nat) (h : Str) (ps : List D) (H : List D) (h1 : isLeaf h = true) : runF T (k + 1) 0 [.tup (.str h :: ps)] H = .ok (.tup [], H) := by
  simp [sSeq, sNil, sIf, sRet, sAsg, Kr.finish, o2, oV, oSlot, oOb, oOwn, bnd, Kr.ret, opt, dVar, dC, qVal, qTru, qNot, qAnd, qOr, dTup, aCons, aNil, dLst, dIf, dAnd, dOr, dNot, dB, oCons, oNil, derefL, deref, dCall, bName, bTup, bsCons, bsNil, dSl, dPart, sOwn, sRetOwn, sMV, sMO, sSet, sPop2, sPar, sObj, sPutO, sFor, iAnyD, iRng1D, iRng2D, iEnumD, itemsD, dComp, wipeD, sExpr, dIsi, bd, truD, gTuple, gList, gLen, gInt, dSorts, gSorted2, gSorts, dRev, gRev, gAdd, Kr.gSub, gIsN, gNotN, gLt, gLe, gGt, gGe, gAbs, mAppend, mExtend, mUpdate, toKey, sl0, sl1, sl2, sl3, sl4, sl5, sl6, sl7, sl8, sl11, runF, T, F0, B0, ix0, inLeaf, inBind, h1, cut1, cut2, sl2]
theorem lparts_op (k : Nat) (h : Str) (ps : List D) (H : List D) (h1 : isLeaf h = false) (h2 : isBind h = false) : runF T (k + 1) 19 [.tup (.str h :: ps)] H = .ok (.lst ps, H) := by
  simp [sSeq, sNil, sIf, sRet, sAsg, Kr.finish, o2, oV, oSlot, oOb, oOwn, bnd, Kr.ret, opt, dVar, dC, qVal, qTru, qNot, qAnd, qOr, dTup, aCons, aNil, dLst, dIf, dAnd, dOr, dNot, dB, oCons, oNil, derefL, deref, dCall, bName, bTup, bsCons, bsNil, dSl, dPart, sOwn, sRetOwn, sMV, sMO, sSet, sPop2, sPar, sObj, sPutO, sFor, iAnyD, iRng1D, iRng2D, iEnumD, itemsD, dComp, wipeD, sExpr, dIsi, bd, truD, gTuple, gList, gLen, gInt, dSorts, gSorted2, gSorts, dRev, gRev, gAdd, Kr.gSub, gIsN, gNotN, gLt, gLe, gGt, gGe, gAbs, mAppend, mExtend, mUpdate, toKey, sl0, sl1, sl2, sl3, sl4, sl5, sl6, sl7, sl8, sl11, runF, T, F19, B19, ix0, inLeaf, inBind, h1, h2, cut1, cut2, sl2]
theorem lparts_bnd (k : Nat) (h : Str) (x : D) (ps : List D) (H : List D) (h1 : isLeaf h = false) (h2 : isBind h = true) : runF T (k + 1) 19 [.tup (.str h :: x :: ps)] H = .ok (.lst ps, H) := by
  simp [sSeq, sNil, sIf, sRet, sAsg, Kr.finish, o2, oV, oSlot, oOb, oOwn, bnd, Kr.ret, opt, dVar, dC, qVal, qTru, qNot, qAnd, qOr, dTup, aCons, aNil, dLst, dIf, dAnd, dOr, dNot, dB, oCons, oNil, derefL, deref, dCall, bName, bTup, bsCons, bsNil, dSl, dPart, sOwn, sRetOwn, sMV, sMO, sSet, sPop2, sPar, sObj, sPutO, sFor, iAnyD, iRng1D, iRng2D, iEnumD, itemsD, dComp, wipeD, sExpr, dIsi, bd, truD, gTuple, gList, gLen, gInt, dSorts, gSorted2, gSorts, dRev, gRev, gAdd, Kr.gSub, gIsN, gNotN, gLt, gLe, gGt, gGe, gAbs, mAppend, mExtend, mUpdate, toKey, sl0, sl1, sl2, sl3, sl4, sl5, sl6, sl7, sl8, sl11, runF, T, F19, B19, ix0, inLeaf, inBind, h1, h2, cut1, cut2, sl2]
theorem lparts_leaf (k : Nat) (h : Str) (ps : List D) (H : List D) (h1 : isLeaf h = true) : runF T (k + 1) 19 [.tup (.str h :: ps)] H = .ok (.lst [], H) := by
  simp [sSeq, sNil, sIf, sRet, sAsg, Kr.finish, o2, oV, oSlot, oOb, oOwn, bnd, Kr.ret, opt, dVar, dC, qVal, qTru, qNot, qAnd, qOr, dTup, aCons, aNil, dLst, dIf, dAnd, dOr, dNot, dB, oCons, oNil, derefL, deref, dCall, bName, bTup, bsCons, bsNil, dSl, dPart, sOwn, sRetOwn, sMV, sMO, sSet, sPop2, sPar, sObj, sPutO, sFor, iAnyD, iRng1D, iRng2D, iEnumD, itemsD, dComp, wipeD, sExpr, dIsi, bd, truD, gTuple, gList, gLen, gInt, dSorts, gSorted2, gSorts, dRev, gRev, gAdd, Kr.gSub, gIsN, gNotN, gLt, gLe, gGt, gGe, gAbs, mAppend, mExtend, mUpdate, toKey, sl0, sl1, sl2, sl3, sl4, sl5, sl6, sl7, sl8, sl11, runF, T, F19, B19, ix0, inLeaf, inBind, h1, cut1, cut2, sl2]

/-! ### trees -/
inductive E where
  | text (ws : List Str)
  | name (x : Str)
  | node (h : Str) (o : Option Str) (ks : List E)
def pre (h : Str) : Option Str → List D
  | none => [.str h]
  | some x => [.str h, .str x]
def E.toD : E → D
  | .text ws => .tup [.str "text", .tup (ws.map .str)]
  | .name x => .tup [.str "name", .str x]
  | .node h o ks => .tup (pre h o ++ ks.map E.toD)
def E.kids : E → List E
  | .node _ _ ks => ks
  | _ => []
/-- a head that may stand over parts -/
def Hd (h : Str) (o : Option Str) : Prop := isLeaf h = false ∧ isBind h = o.isSome
inductive Wf : Nat → E → Prop
  | text (n : Nat) (ws : List Str) : ws.length ≤ 1000 → Wf (n + 1) (.text ws)
  | name (n : Nat) (x : Str) : Wf (n + 1) (.name x)
  | node (n : Nat) (h : Str) (o : Option Str) (ks : List E) : Hd h o → ks.length ≤ 100 → (∀ k ∈ ks, Wf n k) → Wf (n + 1) (.node h o ks)
theorem Wf.up {n m : Nat} {e : E} (h : Wf n e) (hm : n ≤ m) : Wf m e := by
  induction h generalizing m with
  | text n ws hw => obtain ⟨m, rfl⟩ : ∃ m', m = m' + 1 := ⟨m - 1, by omega⟩; exact .text m ws hw
  | name n x => obtain ⟨m, rfl⟩ : ∃ m', m = m' + 1 := ⟨m - 1, by omega⟩; exact .name m x
  | node n h o ks hd hl _ ih => obtain ⟨m, rfl⟩ : ∃ m', m = m' + 1 := ⟨m - 1, by omega⟩; exact .node m h o ks hd hl fun k hk => ih k hk (by omega)
theorem leaf_text : isLeaf "text" = true := by decide
theorem leaf_name : isLeaf "name" = true := by decide
/-- a node of any parts -/
def nodeD (h : Str) (o : Option Str) (ks : List D) : D := .tup (pre h o ++ ks)
theorem toD_node (h : Str) (o : Option Str) (ks : List E) : (E.node h o ks).toD = nodeD h o (ks.map E.toD) := by
  unfold nodeD
  rw [E.toD]
theorem parts_node (k : Nat) (h : Str) (o : Option Str) (ks : List D) (H : List D) (hd : Hd h o) : runF T (k + 1) 0 [nodeD h o ks] H = .ok (.tup ks, H) := by
  obtain ⟨h1, h2⟩ := hd
  cases o with
  | none => exact parts_op k h ks H h1 h2
  | some x => exact parts_bnd k h (.str x) ks H h1 h2
theorem lparts_node (k : Nat) (h : Str) (o : Option Str) (ks : List D) (H : List D) (hd : Hd h o) : runF T (k + 1) 19 [nodeD h o ks] H = .ok (.lst ks, H) := by
  obtain ⟨h1, h2⟩ := hd
  cases o with
  | none => exact lparts_op k h ks H h1 h2
  | some x => exact lparts_bnd k h (.str x) ks H h1 h2
theorem parts_run {n : Nat} (k : Nat) (e : E) (H : List D) (w : Wf n e) : runF T (k + 1) 0 [e.toD] H = .ok (.tup (e.kids.map E.toD), H) := by
  cases w with
  | text n ws hw => rw [E.toD]; exact parts_leaf k _ _ H leaf_text
  | name n x => rw [E.toD]; exact parts_leaf k _ _ H leaf_name
  | node n h o ks hd _ _ => rw [toD_node]; exact parts_node k h o _ H hd
theorem lparts_run {n : Nat} (k : Nat) (e : E) (H : List D) (w : Wf n e) : runF T (k + 1) 19 [e.toD] H = .ok (.lst (e.kids.map E.toD), H) := by
  cases w with
  | text n ws hw => rw [E.toD]; exact lparts_leaf k _ _ H leaf_text
  | name n x => rw [E.toD]; exact lparts_leaf k _ _ H leaf_name
  | node n h o ks hd _ _ => rw [toD_node]; exact lparts_node k h o _ H hd
theorem Wf.kid {n : Nat} {e : E} (w : Wf (n + 1) e) : ∀ k ∈ e.kids, Wf n k := by
  cases w with
  | text n ws hw => intro k hk; cases hk
  | name n x => intro k hk; cases hk
  | node n h o ks hd _ hk => exact hk
theorem Wf.few {n : Nat} {e : E} (w : Wf n e) : e.kids.length ≤ 100 := by
  cases w with
  | text n ws hw => exact Nat.zero_le _
  | name n x => exact Nat.zero_le _
  | node n h o ks hd hl hk => exact hl

/-! ### size, depth -/
def E.siz : E → Int
  | .node _ _ ks => 1 + (ks.map E.siz).sum
  | _ => 1
def E.dpt : E → Int
  | .node _ _ ks => 1 + maxI (ks.map E.dpt ++ [0])
  | _ => 1
theorem siz_eq (e : E) : e.siz = 1 + (e.kids.map E.siz).sum := by cases e <;> simp [E.siz, E.kids]
theorem dpt_eq (e : E) : e.dpt = 1 + maxI (e.kids.map E.dpt ++ [0]) := by cases e <;> simp [E.dpt, E.kids, maxI]
theorem ints_of (f : E → Int) (ks : List E) : asInts (ks.map fun e => D.int (f e)) = some (ks.map f) := by
  have := asInts_map (ks.map f)
  rw [List.map_map] at this
  exact this
theorem size_run : ∀ (n : Nat) (e : E) (k : Nat) (H : List D), Wf n e → n + 1 ≤ k → runF T k 5 [e.toD] H = .ok (.int e.siz, H)
  | 0, e, k, H, w, _ => nomatch w
  | n + 1, e, k, H, w, hk => by
    obtain ⟨k, rfl⟩ : ∃ k', k = k' + 2 := ⟨k - 2, by omega⟩
    have hp := parts_run k e H w
    have hc : C5_0 (runF T (k + 1)) ⟨[some e.toD, none], H⟩ = .ok (.lst (e.kids.map fun e => .int e.siz), H) := by
      refine dComp_map E.toD _ e.kids ?_ fun x hx => ?_
      · simp [sSeq, sNil, sIf, sRet, sAsg, Kr.finish, o2, oV, oSlot, oOb, oOwn, bnd, Kr.ret, opt, dVar, dC, qVal, qTru, qNot, qAnd, qOr, dTup, aCons, aNil, dLst, dIf, dAnd, dOr, dNot, dB, oCons, oNil, derefL, deref, dCall, bName, bTup, bsCons, bsNil, dSl, dPart, sOwn, sRetOwn, sMV, sMO, sSet, sPop2, sPar, sObj, sPutO, sFor, iAnyD, iRng1D, iRng2D, iEnumD, itemsD, dComp, wipeD, sExpr, dIsi, bd, truD, gTuple, gList, gLen, gInt, dSorts, gSorted2, gSorts, dRev, gRev, gAdd, Kr.gSub, gIsN, gNotN, gLt, gLe, gGt, gGe, gAbs, mAppend, mExtend, mUpdate, toKey, sl0, sl1, sl2, sl3, sl4, sl5, sl6, sl7, sl8, sl11, hp]
      · have := size_run n x (k + 1) H (w.kid x hx) (by omega)
        simp [sSeq, sNil, sIf, sRet, sAsg, Kr.finish, o2, oV, oSlot, oOb, oOwn, bnd, Kr.ret, opt, dVar, dC, qVal, qTru, qNot, qAnd, qOr, dTup, aCons, aNil, dLst, dIf, dAnd, dOr, dNot, dB, oCons, oNil, derefL, deref, dCall, bName, bTup, bsCons, bsNil, dSl, dPart, sOwn, sRetOwn, sMV, sMO, sSet, sPop2, sPar, sObj, sPutO, sFor, iAnyD, iRng1D, iRng2D, iEnumD, itemsD, dComp, wipeD, sExpr, dIsi, bd, truD, gTuple, gList, gLen, gInt, dSorts, gSorted2, gSorts, dRev, gRev, gAdd, Kr.gSub, gIsN, gNotN, gLt, gLe, gGt, gGe, gAbs, mAppend, mExtend, mUpdate, toKey, sl0, sl1, sl2, sl3, sl4, sl5, sl6, sl7, sl8, sl11, cEl, this]
    rw [runF]
    simp [sSeq, sNil, sIf, sRet, sAsg, Kr.finish, o2, oV, oSlot, oOb, oOwn, bnd, Kr.ret, opt, dVar, dC, qVal, qTru, qNot, qAnd, qOr, dTup, aCons, aNil, dLst, dIf, dAnd, dOr, dNot, dB, oCons, oNil, derefL, deref, dCall, bName, bTup, bsCons, bsNil, dSl, dPart, sOwn, sRetOwn, sMV, sMO, sSet, sPop2, sPar, sObj, sPutO, sFor, iAnyD, iRng1D, iRng2D, iEnumD, itemsD, dComp, wipeD, sExpr, dIsi, bd, truD, gTuple, gList, gLen, gInt, dSorts, gSorted2, gSorts, dRev, gRev, gAdd, Kr.gSub, gIsN, gNotN, gLt, gLe, gGt, gGe, gAbs, mAppend, mExtend, mUpdate, toKey, sl0, sl1, sl2, sl3, sl4, sl5, sl6, sl7, sl8, sl11, T, F5, B5, hc, gSum, ints_of, siz_eq e]
theorem ints_ofz (f : E → Int) (ks : List E) : asInts ((ks.map fun e => D.int (f e)) ++ [.int 0]) = some (ks.map f ++ [0]) := by
  have := asInts_map (ks.map f ++ [0])
  rw [List.map_append, List.map_map] at this
  exact this
theorem gMaxz (f : E → Int) (ks : List E) : gMax [.lst ((ks.map fun e => D.int (f e)) ++ [.int 0])] = some (.int (maxI (ks.map f ++ [0]))) := by
  have h := ints_ofz f ks
  cases e : (ks.map fun e => D.int (f e)) ++ [D.int 0] with
  | nil => simp at e
  | cons a b =>
    rw [e] at h
    show (asInts (a :: b)).map _ = _
    rw [h]; rfl
theorem depth_run : ∀ (n : Nat) (e : E) (k : Nat) (H : List D), Wf n e → n + 1 ≤ k → runF T k 6 [e.toD] H = .ok (.int e.dpt, H)
  | 0, e, k, H, w, _ => nomatch w
  | n + 1, e, k, H, w, hk => by
    obtain ⟨k, rfl⟩ : ∃ k', k = k' + 2 := ⟨k - 2, by omega⟩
    have hp := parts_run k e H w
    have hc : C6_0 (runF T (k + 1)) ⟨[some e.toD, none], H⟩ = .ok (.lst (e.kids.map fun e => .int e.dpt), H) := by
      refine dComp_map E.toD _ e.kids ?_ fun x hx => ?_
      · simp [sSeq, sNil, sIf, sRet, sAsg, Kr.finish, o2, oV, oSlot, oOb, oOwn, bnd, Kr.ret, opt, dVar, dC, qVal, qTru, qNot, qAnd, qOr, dTup, aCons, aNil, dLst, dIf, dAnd, dOr, dNot, dB, oCons, oNil, derefL, deref, dCall, bName, bTup, bsCons, bsNil, dSl, dPart, sOwn, sRetOwn, sMV, sMO, sSet, sPop2, sPar, sObj, sPutO, sFor, iAnyD, iRng1D, iRng2D, iEnumD, itemsD, dComp, wipeD, sExpr, dIsi, bd, truD, gTuple, gList, gLen, gInt, dSorts, gSorted2, gSorts, dRev, gRev, gAdd, Kr.gSub, gIsN, gNotN, gLt, gLe, gGt, gGe, gAbs, mAppend, mExtend, mUpdate, toKey, sl0, sl1, sl2, sl3, sl4, sl5, sl6, sl7, sl8, sl11, hp]
      · have := depth_run n x (k + 1) H (w.kid x hx) (by omega)
        simp [sSeq, sNil, sIf, sRet, sAsg, Kr.finish, o2, oV, oSlot, oOb, oOwn, bnd, Kr.ret, opt, dVar, dC, qVal, qTru, qNot, qAnd, qOr, dTup, aCons, aNil, dLst, dIf, dAnd, dOr, dNot, dB, oCons, oNil, derefL, deref, dCall, bName, bTup, bsCons, bsNil, dSl, dPart, sOwn, sRetOwn, sMV, sMO, sSet, sPop2, sPar, sObj, sPutO, sFor, iAnyD, iRng1D, iRng2D, iEnumD, itemsD, dComp, wipeD, sExpr, dIsi, bd, truD, gTuple, gList, gLen, gInt, dSorts, gSorted2, gSorts, dRev, gRev, gAdd, Kr.gSub, gIsN, gNotN, gLt, gLe, gGt, gGe, gAbs, mAppend, mExtend, mUpdate, toKey, sl0, sl1, sl2, sl3, sl4, sl5, sl6, sl7, sl8, sl11, cEl, this]
    have hz : e.kids.length + 1 ≤ sizeLine := sl _ (by have := w.few; omega)
    rw [runF]
    simp [sSeq, sNil, sIf, sRet, sAsg, Kr.finish, o2, oV, oSlot, oOb, oOwn, bnd, Kr.ret, opt, dVar, dC, qVal, qTru, qNot, qAnd, qOr, dTup, aCons, aNil, dLst, dIf, dAnd, dOr, dNot, dB, oCons, oNil, derefL, deref, dCall, bName, bTup, bsCons, bsNil, dSl, dPart, sOwn, sRetOwn, sMV, sMO, sSet, sPop2, sPar, sObj, sPutO, sFor, iAnyD, iRng1D, iRng2D, iEnumD, itemsD, dComp, wipeD, sExpr, dIsi, bd, truD, gTuple, gList, gLen, gInt, dSorts, gSorted2, gSorts, dRev, gRev, gAdd, Kr.gSub, gIsN, gNotN, gLt, gLe, gGt, gGe, gAbs, mAppend, mExtend, mUpdate, toKey, sl0, sl1, sl2, sl3, sl4, sl5, sl6, sl7, sl8, sl11, T, F6, B6, hc, gMaxz, dpt_eq e, hz]
end Gk03

namespace Gk03
open PySem Kr

/-! ### _law_is of a value and itself -/
inductive Pl : Nat → D → Prop
  | int (n : Nat) (i : Int) : Pl (n + 1) (.int i)
  | str (n : Nat) (x : Str) : Pl (n + 1) (.str x)
  | tup (n : Nat) (ds : List D) : (∀ d ∈ ds, Pl n d) → ds.length ≤ 100000 → Pl (n + 1) (.tup ds)
theorem i1 (i : Int) : gIsi "bool" (.int i) = some (.bl false) := rfl
theorem i2 (i : Int) : gIsi "int" (.int i) = some (.bl true) := rfl
theorem i3 (x : Str) : gIsi "bool" (.str x) = some (.bl false) := rfl
theorem i4 (x : Str) : gIsi "int" (.str x) = some (.bl false) := rfl
theorem i5 (x : Str) : gIsi "str" (.str x) = some (.bl true) := rfl
theorem i6 (x : List D) : gIsi "bool" (.tup x) = some (.bl false) := rfl
theorem i7 (x : List D) : gIsi "int" (.tup x) = some (.bl false) := rfl
theorem i8 (x : List D) : gIsi "str" (.tup x) = some (.bl false) := rfl
theorem i9 (x : List D) : gIsi "tuple" (.tup x) = some (.bl true) := rfl
theorem eqI (i j : Int) : gEq (.int i) (.int j) = some (.bl (decide (i = j))) := rfl
theorem neI (i j : Int) : gNe (.int i) (.int j) = some (.bl (!decide (i = j))) := rfl
theorem eqS (i j : Str) : gEq (.str i) (.str j) = some (.bl (decide (i = j))) := rfl
theorem all_true {α : Type} (xs : List α) : gAll [.lst (xs.map fun _ => D.bl true)] = some (.bl true) := by
  have h := asBls_map (xs.map fun _ => true)
  rw [List.map_map] at h
  have e : (xs.map fun _ => D.bl true) = xs.map (D.bl ∘ fun _ => true) := rfl
  unfold gAll
  dsimp only
  rw [e, h]
  simp
theorem isint_run (k : Nat) (i : Int) (H : List D) : runF T (k + 1) 12 [.int i] H = .ok (.bl true, H) := by
  simp [sSeq, sNil, sIf, sRet, sAsg, Kr.finish, o2, oV, oSlot, oOb, oOwn, bnd, Kr.ret, opt, dVar, dC, qVal, qTru, qNot, qAnd, qOr, dTup, aCons, aNil, dLst, dIf, dAnd, dOr, dNot, dB, oCons, oNil, derefL, deref, dCall, bName, bTup, bsCons, bsNil, dSl, dPart, sOwn, sRetOwn, sMV, sMO, sSet, sPop2, sPar, sObj, sPutO, sFor, iAnyD, iRng1D, iRng2D, iEnumD, itemsD, dComp, wipeD, sExpr, dIsi, bd, truD, gTuple, gList, gLen, gInt, dSorts, gSorted2, gSorts, dRev, gRev, gAdd, Kr.gSub, gIsN, gNotN, gLt, gLe, gGt, gGe, gAbs, mAppend, mExtend, mUpdate, toKey, sl0, sl1, sl2, sl3, sl4, sl5, sl6, sl7, sl8, sl11, runF, T, F12, B12, i1, i2]
theorem is_refl : ∀ (n : Nat) (d : D) (k : Nat) (H : List D), Pl n d → n + 1 ≤ k → runF T k 13 [d, d] H = .ok (.bl true, H)
  | 0, d, k, H, p, _ => nomatch p
  | n + 1, d, k, H, p, hk => by
    obtain ⟨k, rfl⟩ : ∃ k', k = k' + 2 := ⟨k - 2, by omega⟩
    cases p with
    | int n i =>
      have h := isint_run k i H
      rw [runF]
      simp [sSeq, sNil, sIf, sRet, sAsg, Kr.finish, o2, oV, oSlot, oOb, oOwn, bnd, Kr.ret, opt, dVar, dC, qVal, qTru, qNot, qAnd, qOr, dTup, aCons, aNil, dLst, dIf, dAnd, dOr, dNot, dB, oCons, oNil, derefL, deref, dCall, bName, bTup, bsCons, bsNil, dSl, dPart, sOwn, sRetOwn, sMV, sMO, sSet, sPop2, sPar, sObj, sPutO, sFor, iAnyD, iRng1D, iRng2D, iEnumD, itemsD, dComp, wipeD, sExpr, dIsi, bd, truD, gTuple, gList, gLen, gInt, dSorts, gSorted2, gSorts, dRev, gRev, gAdd, Kr.gSub, gIsN, gNotN, gLt, gLe, gGt, gGe, gAbs, mAppend, mExtend, mUpdate, toKey, sl0, sl1, sl2, sl3, sl4, sl5, sl6, sl7, sl8, sl11, T, F13, B13, i1, i2, eqI, h]
    | str n x =>
      rw [runF]
      simp [sSeq, sNil, sIf, sRet, sAsg, Kr.finish, o2, oV, oSlot, oOb, oOwn, bnd, Kr.ret, opt, dVar, dC, qVal, qTru, qNot, qAnd, qOr, dTup, aCons, aNil, dLst, dIf, dAnd, dOr, dNot, dB, oCons, oNil, derefL, deref, dCall, bName, bTup, bsCons, bsNil, dSl, dPart, sOwn, sRetOwn, sMV, sMO, sSet, sPop2, sPar, sObj, sPutO, sFor, iAnyD, iRng1D, iRng2D, iEnumD, itemsD, dComp, wipeD, sExpr, dIsi, bd, truD, gTuple, gList, gLen, gInt, dSorts, gSorted2, gSorts, dRev, gRev, gAdd, Kr.gSub, gIsN, gNotN, gLt, gLe, gGt, gGe, gAbs, mAppend, mExtend, mUpdate, toKey, sl0, sl1, sl2, sl3, sl4, sl5, sl6, sl7, sl8, sl11, T, F13, B13, i3, i4, i5, eqS]
    | tup n ds hd hl =>
      have hr : -16777216 ≤ (ds.length : Int) ∧ (ds.length : Int) ≤ 16777216 := by omega
      have hc : C13_0 (runF T (k + 1)) ⟨[some (.tup ds), some (.tup ds), none], H⟩ = .ok (.lst ((List.range ds.length).map fun _ => .bl true), H) := by
        refine dComp_map (fun i : Nat => D.int (i : Int)) _ _ ?_ fun i hi => ?_
        · simp [sSeq, sNil, sIf, sRet, sAsg, Kr.finish, o2, oV, oSlot, oOb, oOwn, bnd, Kr.ret, opt, dVar, dC, qVal, qTru, qNot, qAnd, qOr, dTup, aCons, aNil, dLst, dIf, dAnd, dOr, dNot, dB, oCons, oNil, derefL, deref, dCall, bName, bTup, bsCons, bsNil, dSl, dPart, sOwn, sRetOwn, sMV, sMO, sSet, sPop2, sPar, sObj, sPutO, sFor, iAnyD, iRng1D, iRng2D, iEnumD, itemsD, dComp, wipeD, sExpr, dIsi, bd, truD, gTuple, gList, gLen, gInt, dSorts, gSorted2, gSorts, dRev, gRev, gAdd, Kr.gSub, gIsN, gNotN, gLt, gLe, gGt, gGe, gAbs, mAppend, mExtend, mUpdate, toKey, sl0, sl1, sl2, sl3, sl4, sl5, sl6, sl7, sl8, sl11, hr, rng_map]
        · have hi : i < ds.length := List.mem_range.mp hi
          have e : gIx (.tup ds) (.int (i : Int)) = some ds[i] := ixT i ds (List.getElem?_eq_getElem hi)
          have := is_refl n ds[i] (k + 1) H (hd _ (List.getElem_mem hi)) (by omega)
          simp [sSeq, sNil, sIf, sRet, sAsg, Kr.finish, o2, oV, oSlot, oOb, oOwn, bnd, Kr.ret, opt, dVar, dC, qVal, qTru, qNot, qAnd, qOr, dTup, aCons, aNil, dLst, dIf, dAnd, dOr, dNot, dB, oCons, oNil, derefL, deref, dCall, bName, bTup, bsCons, bsNil, dSl, dPart, sOwn, sRetOwn, sMV, sMO, sSet, sPop2, sPar, sObj, sPutO, sFor, iAnyD, iRng1D, iRng2D, iEnumD, itemsD, dComp, wipeD, sExpr, dIsi, bd, truD, gTuple, gList, gLen, gInt, dSorts, gSorted2, gSorts, dRev, gRev, gAdd, Kr.gSub, gIsN, gNotN, gLt, gLe, gGt, gGe, gAbs, mAppend, mExtend, mUpdate, toKey, sl0, sl1, sl2, sl3, sl4, sl5, sl6, sl7, sl8, sl11, cEl, e, this]
      rw [runF]
      simp [sSeq, sNil, sIf, sRet, sAsg, Kr.finish, o2, oV, oSlot, oOb, oOwn, bnd, Kr.ret, opt, dVar, dC, qVal, qTru, qNot, qAnd, qOr, dTup, aCons, aNil, dLst, dIf, dAnd, dOr, dNot, dB, oCons, oNil, derefL, deref, dCall, bName, bTup, bsCons, bsNil, dSl, dPart, sOwn, sRetOwn, sMV, sMO, sSet, sPop2, sPar, sObj, sPutO, sFor, iAnyD, iRng1D, iRng2D, iEnumD, itemsD, dComp, wipeD, sExpr, dIsi, bd, truD, gTuple, gList, gLen, gInt, dSorts, gSorted2, gSorts, dRev, gRev, gAdd, Kr.gSub, gIsN, gNotN, gLt, gLe, gGt, gGe, gAbs, mAppend, mExtend, mUpdate, toKey, sl0, sl1, sl2, sl3, sl4, sl5, sl6, sl7, sl8, sl11, T, F13, B13, i6, i7, i8, i9, neI, hc, all_true]
theorem Pl.up {n m : Nat} {d : D} (h : Pl n d) (hm : n ≤ m) : Pl m d := by
  induction h generalizing m with
  | int n i => obtain ⟨m, rfl⟩ : ∃ m', m = m' + 1 := ⟨m - 1, by omega⟩; exact .int m i
  | str n x => obtain ⟨m, rfl⟩ : ∃ m', m = m' + 1 := ⟨m - 1, by omega⟩; exact .str m x
  | tup n ds _ hl ih => obtain ⟨m, rfl⟩ : ∃ m', m = m' + 1 := ⟨m - 1, by omega⟩; exact .tup m ds (fun d hd => ih d hd (by omega)) hl
theorem Pl.strs (n : Nat) (xs : List Str) (h : xs.length ≤ 100000) : Pl (n + 2) (.tup (xs.map .str)) := .tup _ _ (fun d hd => by
  obtain ⟨x, _, rfl⟩ := List.mem_map.mp hd
  exact .str _ x) (by rw [List.length_map]; exact h)
theorem Pl.ints (n : Nat) (xs : List Int) (h : xs.length ≤ 100000) : Pl (n + 2) (.tup (xs.map .int)) := .tup _ _ (fun d hd => by
  obtain ⟨x, _, rfl⟩ := List.mem_map.mp hd
  exact .int _ x) (by rw [List.length_map]; exact h)
theorem Wf.pl {n : Nat} {e : E} (w : Wf n e) : Pl (n + 3) e.toD := by
  induction w with
  | text n ws hw =>
    rw [E.toD]
    refine .tup _ _ (fun d hd => ?_) (by simp)
    simp only [List.mem_cons, List.not_mem_nil, or_false] at hd
    rcases hd with rfl | rfl
    · exact .str _ _
    · exact (Pl.strs n ws (by omega)).up (by omega)
  | name n x =>
    rw [E.toD]
    refine .tup _ _ (fun d hd => ?_) (by simp)
    simp only [List.mem_cons, List.not_mem_nil, or_false] at hd
    rcases hd with rfl | rfl <;> exact .str _ _
  | node n h o ks hd hl _ ih =>
    rw [toD_node]
    refine .tup _ _ (fun d hd => ?_) ?_
    · rcases List.mem_append.mp hd with hd | hd
      · cases o <;> simp only [pre, List.mem_cons, List.not_mem_nil, or_false] at hd
        · subst hd; exact .str _ _
        · rcases hd with rfl | rfl <;> exact .str _ _
      · obtain ⟨e, he, rfl⟩ := List.mem_map.mp hd
        exact ih e he
    · cases o <;> simp [pre] <;> omega
end Gk03

namespace Gk03
open PySem Kr

/-! ### paths, rows -/
def E.cnt : E → Nat
  | .node _ _ ks => 1 + (ks.map E.cnt).sum
  | _ => 1
def glue : Nat → List (List (List Int)) → List (List Int)
  | _, [] => []
  | n, ps :: r => ps.map (fun p => (n : Int) :: p) ++ glue (n + 1) r
def E.pths : E → List (List Int)
  | .node _ _ ks => [] :: glue 0 (ks.map E.pths)
  | _ => [[]]
theorem pths_eq (e : E) : e.pths = [] :: glue 0 (e.kids.map E.pths) := by cases e <;> simp [E.pths, E.kids, glue]
theorem cnt_eq (e : E) : e.cnt = 1 + (e.kids.map E.cnt).sum := by cases e <;> simp [E.cnt, E.kids]
theorem glue_len (f : E → List (List Int)) : ∀ (ks : List E) (n : Nat), (∀ k ∈ ks, (f k).length = k.cnt) → (glue n (ks.map f)).length = (ks.map E.cnt).sum
  | [], n, _ => rfl
  | k :: ks, n, h => by
    have h1 := h k List.mem_cons_self
    have h2 := glue_len f ks (n + 1) fun x hx => h x (List.mem_cons_of_mem _ hx)
    simp [glue, h1, h2]
theorem pths_len : ∀ (n : Nat) (e : E), Wf n e → e.pths.length = e.cnt
  | 0, e, w => nomatch w
  | n + 1, e, w => by
    rw [pths_eq, cnt_eq, List.length_cons, glue_len E.pths e.kids 0 fun k hk => pths_len n k (w.kid k hk)]
    omega
theorem siz_cnt : ∀ (n : Nat) (e : E), Wf n e → e.siz = e.cnt
  | 0, e, w => nomatch w
  | n + 1, e, w => by
    rw [siz_eq, cnt_eq]
    have : ∀ ks : List E, (∀ k ∈ ks, Wf n k) → (ks.map E.siz).sum = (((ks.map E.cnt).sum : Nat) : Int) := by
      intro ks
      induction ks with
      | nil => intro _; rfl
      | cons k ks ih =>
        intro h
        rw [List.map_cons, List.map_cons, List.sum_cons, List.sum_cons, ih fun x hx => h x (List.mem_cons_of_mem _ hx), siz_cnt n k (h k List.mem_cons_self)]
        omega
    rw [this e.kids w.kid]
    omega
theorem glue_short (n : Nat) : ∀ (pss : List (List (List Int))) (m : Nat), (∀ ps ∈ pss, ∀ p ∈ ps, p.length ≤ n) → ∀ p ∈ glue m pss, p.length ≤ n + 1
  | [], m, _, p, hp => by simp [glue] at hp
  | ps :: r, m, h, p, hp => by
    rw [glue, List.mem_append] at hp
    rcases hp with hp | hp
    · obtain ⟨q, hq, rfl⟩ := List.mem_map.mp hp
      have := h ps List.mem_cons_self q hq
      simp; omega
    · exact glue_short n r (m + 1) (fun x hx => h x (List.mem_cons_of_mem _ hx)) p hp
theorem pths_short : ∀ (n : Nat) (e : E), Wf n e → ∀ p ∈ e.pths, p.length ≤ n
  | 0, e, w => nomatch w
  | n + 1, e, w => by
    intro p hp
    rw [pths_eq] at hp
    rcases List.mem_cons.mp hp with rfl | hp
    · exact Nat.zero_le _
    · refine glue_short n _ 0 (fun ps hps => ?_) p hp
      obtain ⟨k, hk, rfl⟩ := List.mem_map.mp hps
      exact pths_short n k (w.kid k hk)
def pathD (p : List Int) : D := .tup (p.map .int)
theorem cnt_kid (e : E) : ∀ k ∈ e.kids, k.cnt ≤ e.cnt := by
  intro k hk
  rw [cnt_eq e]
  have : ∀ ks : List E, k ∈ ks → k.cnt ≤ (ks.map E.cnt).sum := by
    intro ks
    induction ks with
    | nil => intro h; cases h
    | cons a ks ih =>
      intro h
      rw [List.map_cons, List.sum_cons]
      rcases List.mem_cons.mp h with rfl | h
      · omega
      · have := ih h; omega
  have := this e.kids hk
  omega
theorem pths_run : ∀ (n : Nat) (e : E) (k : Nat) (H : List D), Wf n e → n ≤ 1000 → e.cnt ≤ 10000 → n + 1 ≤ k → runF T k 7 [e.toD] H = .ok (.tup (e.pths.map pathD), H)
  | 0, e, k, H, w, _, _, _ => nomatch w
  | n + 1, e, k, H, w, hn, hc, hk => by
    obtain ⟨k, rfl⟩ : ∃ k', k = k' + 2 := ⟨k - 2, by omega⟩
    have hp := parts_run k e H w
    have loop : ∀ (ks : List E) (m : Nat) (acc : List (List Int)) (a b : Option D), (∀ x ∈ ks, x ∈ e.kids) → acc.length + (glue m (ks.map E.pths)).length ≤ 20000 →
        ∃ a' b', fLoop (bTup 2 (bsCons (bName 2) (bsCons (bName 3) bsNil))) (Y7_1 (runF T (k + 1))) (enumL m (ks.map E.toD)) ⟨[some e.toD, some (.lst (acc.map pathD)), a, b, none], H⟩ =
          .ok (.nx, ⟨[some e.toD, some (.lst ((acc ++ glue m (ks.map E.pths)).map pathD)), a', b', none], H⟩) := by
      intro ks
      induction ks with
      | nil => intro m acc a b _ _; exact ⟨a, b, by simp [enumL, fLoop, glue]⟩
      | cons x ks ih =>
        intro m acc a b hx hl
        have wx := w.kid x (hx x List.mem_cons_self)
        have cx := cnt_kid e x (hx x List.mem_cons_self)
        have hr := pths_run n x (k + 1) H wx (by omega) (by omega) (by omega)
        have hcomp : C7_0 (runF T (k + 1)) ⟨[some e.toD, some (.lst (acc.map pathD)), some (.int (m : Int)), some x.toD, none], H⟩ = .ok (.lst ((x.pths.map fun p => (m : Int) :: p).map pathD), H) := by
          rw [List.map_map]
          refine dComp_map pathD _ x.pths ?_ fun p hp' => ?_
          · simp [sSeq, sNil, sIf, sRet, sAsg, Kr.finish, o2, oV, oSlot, oOb, oOwn, bnd, Kr.ret, opt, dVar, dC, qVal, qTru, qNot, qAnd, qOr, dTup, aCons, aNil, dLst, dIf, dAnd, dOr, dNot, dB, oCons, oNil, derefL, deref, dCall, bName, bTup, bsCons, bsNil, dSl, dPart, sOwn, sRetOwn, sMV, sMO, sSet, sPop2, sPar, sObj, sPutO, sFor, iAnyD, iRng1D, iRng2D, iEnumD, itemsD, dComp, wipeD, sExpr, dIsi, bd, truD, gTuple, gList, gLen, gInt, dSorts, gSorted2, gSorts, dRev, gRev, gAdd, Kr.gSub, gIsN, gNotN, gLt, gLe, gGt, gGe, gAbs, mAppend, mExtend, mUpdate, toKey, sl0, sl1, sl2, sl3, sl4, sl5, sl6, sl7, sl8, sl11, hr]
          · have := pths_short n x wx p hp'
            have hz : p.length + 1 ≤ sizeLine := sl _ (by omega)
            simp [sSeq, sNil, sIf, sRet, sAsg, Kr.finish, o2, oV, oSlot, oOb, oOwn, bnd, Kr.ret, opt, dVar, dC, qVal, qTru, qNot, qAnd, qOr, dTup, aCons, aNil, dLst, dIf, dAnd, dOr, dNot, dB, oCons, oNil, derefL, deref, dCall, bName, bTup, bsCons, bsNil, dSl, dPart, sOwn, sRetOwn, sMV, sMO, sSet, sPop2, sPar, sObj, sPutO, sFor, iAnyD, iRng1D, iRng2D, iEnumD, itemsD, dComp, wipeD, sExpr, dIsi, bd, truD, gTuple, gList, gLen, gInt, dSorts, gSorted2, gSorts, dRev, gRev, gAdd, Kr.gSub, gIsN, gNotN, gLt, gLe, gGt, gGe, gAbs, mAppend, mExtend, mUpdate, toKey, sl0, sl1, sl2, sl3, sl4, sl5, sl6, sl7, sl8, sl11, cEl, pathD, Nat.add_comm 1 p.length, hz]
        have hz : acc.length + x.pths.length ≤ sizeLine := sl _ (by
          rw [List.map_cons, glue, List.length_append, List.length_map] at hl
          omega)
        obtain ⟨a', b', e'⟩ := ih (m + 1) (acc ++ x.pths.map fun p => (m : Int) :: p) (some (.int (m : Int))) (some x.toD) (fun y hy => hx y (List.mem_cons_of_mem _ hy)) (by
          rw [List.map_cons, glue, List.length_append] at hl
          rw [List.length_append]
          omega)
        have hb : bTup 2 (bsCons (bName 2) (bsCons (bName 3) bsNil)) (.tup [.int (m : Int), x.toD]) ⟨[some e.toD, some (.lst (acc.map pathD)), a, b, none], H⟩ = .ok ⟨[some e.toD, some (.lst (acc.map pathD)), some (.int (m : Int)), some x.toD, none], H⟩ := by simp [sSeq, sNil, sIf, sRet, sAsg, Kr.finish, o2, oV, oSlot, oOb, oOwn, bnd, Kr.ret, opt, dVar, dC, qVal, qTru, qNot, qAnd, qOr, dTup, aCons, aNil, dLst, dIf, dAnd, dOr, dNot, dB, oCons, oNil, derefL, deref, dCall, bName, bTup, bsCons, bsNil, dSl, dPart, sOwn, sRetOwn, sMV, sMO, sSet, sPop2, sPar, sObj, sPutO, sFor, iAnyD, iRng1D, iRng2D, iEnumD, itemsD, dComp, wipeD, sExpr, dIsi, bd, truD, gTuple, gList, gLen, gInt, dSorts, gSorted2, gSorts, dRev, gRev, gAdd, Kr.gSub, gIsN, gNotN, gLt, gLe, gGt, gGe, gAbs, mAppend, mExtend, mUpdate, toKey, sl0, sl1, sl2, sl3, sl4, sl5, sl6, sl7, sl8, sl11]
        have hY : Y7_1 (runF T (k + 1)) ⟨[some e.toD, some (.lst (acc.map pathD)), some (.int (m : Int)), some x.toD, none], H⟩ = .ok (.nx, ⟨[some e.toD, some (.lst ((acc ++ x.pths.map fun p => (m : Int) :: p).map pathD)), some (.int (m : Int)), some x.toD, none], H⟩) := by
          rw [List.map_append]
          simp [sSeq, sNil, sIf, sRet, sAsg, Kr.finish, o2, oV, oSlot, oOb, oOwn, bnd, Kr.ret, opt, dVar, dC, qVal, qTru, qNot, qAnd, qOr, dTup, aCons, aNil, dLst, dIf, dAnd, dOr, dNot, dB, oCons, oNil, derefL, deref, dCall, bName, bTup, bsCons, bsNil, dSl, dPart, sOwn, sRetOwn, sMV, sMO, sSet, sPop2, sPar, sObj, sPutO, sFor, iAnyD, iRng1D, iRng2D, iEnumD, itemsD, dComp, wipeD, sExpr, dIsi, bd, truD, gTuple, gList, gLen, gInt, dSorts, gSorted2, gSorts, dRev, gRev, gAdd, Kr.gSub, gIsN, gNotN, gLt, gLe, gGt, gGe, gAbs, mAppend, mExtend, mUpdate, toKey, sl0, sl1, sl2, sl3, sl4, sl5, sl6, sl7, sl8, sl11, Y7_1, hcomp, hz]
        refine ⟨a', b', ?_⟩
        rw [List.map_cons, enumL, fLoop, hb]
        dsimp only
        rw [hY]
        dsimp only
        rw [e', List.map_cons, glue, List.append_assoc]
    have hl : (glue 0 (e.kids.map E.pths)).length + 1 = e.cnt := by
      have := pths_len (n + 1) e w
      rw [pths_eq, List.length_cons] at this
      exact this
    obtain ⟨a', b', hloop⟩ := loop e.kids 0 [[]] none none (fun x h => h) (by rw [List.length_singleton]; omega)
    have hL : L7_2 (runF T (k + 1)) ⟨[some e.toD, some (.lst [.tup []]), none, none, none], H⟩ = .ok (.nx, ⟨[some e.toD, some (.lst (e.pths.map pathD)), a', b', none], H⟩) := by
      rw [pths_eq]
      simpa [sSeq, sNil, sIf, sRet, sAsg, Kr.finish, o2, oV, oSlot, oOb, oOwn, bnd, Kr.ret, opt, dVar, dC, qVal, qTru, qNot, qAnd, qOr, dTup, aCons, aNil, dLst, dIf, dAnd, dOr, dNot, dB, oCons, oNil, derefL, deref, dCall, bName, bTup, bsCons, bsNil, dSl, dPart, sOwn, sRetOwn, sMV, sMO, sSet, sPop2, sPar, sObj, sPutO, sFor, iAnyD, iRng1D, iRng2D, iEnumD, itemsD, dComp, wipeD, sExpr, dIsi, bd, truD, gTuple, gList, gLen, gInt, dSorts, gSorted2, gSorts, dRev, gRev, gAdd, Kr.gSub, gIsN, gNotN, gLt, gLe, gGt, gGe, gAbs, mAppend, mExtend, mUpdate, toKey, sl0, sl1, sl2, sl3, sl4, sl5, sl6, sl7, sl8, sl11, L7_2, hp, pathD] using hloop
    rw [runF]
    simp [sSeq, sNil, sIf, sRet, sAsg, Kr.finish, o2, oV, oSlot, oOb, oOwn, bnd, Kr.ret, opt, dVar, dC, qVal, qTru, qNot, qAnd, qOr, dTup, aCons, aNil, dLst, dIf, dAnd, dOr, dNot, dB, oCons, oNil, derefL, deref, dCall, bName, bTup, bsCons, bsNil, dSl, dPart, sOwn, sRetOwn, sMV, sMO, sSet, sPop2, sPar, sObj, sPutO, sFor, iAnyD, iRng1D, iRng2D, iEnumD, itemsD, dComp, wipeD, sExpr, dIsi, bd, truD, gTuple, gList, gLen, gInt, dSorts, gSorted2, gSorts, dRev, gRev, gAdd, Kr.gSub, gIsN, gNotN, gLt, gLe, gGt, gGe, gAbs, mAppend, mExtend, mUpdate, toKey, sl0, sl1, sl2, sl3, sl4, sl5, sl6, sl7, sl8, sl11, T, F7, B7, hL]
end Gk03

namespace Gk03
open PySem Kr

/-! ### the law's rows -/
structure Rw where
  path : List Int
  one : E
  kn : List Str
def strsD (kn : List Str) : D := .lst (kn.map .str)
def rowD (r : Rw) : D := .tup [pathD r.path, r.one.toD, strsD r.kn]
def inner (o : Option Str) (n : Nat) (kn : List Str) : List Str := match o with
  | some x => if (n : Int) = 1 then kn ++ [x] else kn
  | none => kn
def rowsG (o : Option Str) (p : List Int) (kn : List Str) : Nat → List (List Int → List Str → List Rw) → List Rw
  | _, [] => []
  | n, f :: r => f (p ++ [(n : Int)]) (inner o n kn) ++ rowsG o p kn (n + 1) r
def E.rows : E → List Int → List Str → List Rw
  | .node h o ks => fun p kn => ⟨p, .node h o ks, kn⟩ :: rowsG o p kn 0 (ks.map E.rows)
  | .text ws => fun p kn => [⟨p, .text ws, kn⟩]
  | .name x => fun p kn => [⟨p, .name x, kn⟩]
def E.bd : E → Option Str
  | .node _ o _ => o
  | _ => none
theorem rows_eq (e : E) (p : List Int) (kn : List Str) : e.rows p kn = ⟨p, e, kn⟩ :: rowsG e.bd p kn 0 (e.kids.map E.rows) := by cases e <;> simp [E.rows, E.kids, rowsG, E.bd]
theorem rowsG_len (o : Option Str) (p : List Int) (kn : List Str) : ∀ (ks : List E) (n : Nat), (∀ k ∈ ks, ∀ p kn, (k.rows p kn).length = k.cnt) → (rowsG o p kn n (ks.map E.rows)).length = (ks.map E.cnt).sum
  | [], n, _ => rfl
  | k :: ks, n, h => by
    have h1 := h k List.mem_cons_self
    have h2 := rowsG_len o p kn ks (n + 1) fun x hx => h x (List.mem_cons_of_mem _ hx)
    simp [rowsG, h1, h2]
theorem rows_len : ∀ (n : Nat) (e : E) (p : List Int) (kn : List Str), Wf n e → (e.rows p kn).length = e.cnt
  | 0, e, _, _, w => nomatch w
  | n + 1, e, p, kn, w => by
    rw [rows_eq, cnt_eq, List.length_cons, rowsG_len e.bd p kn e.kids 0 fun k hk p kn => rows_len n k p kn (w.kid k hk)]
    omega
theorem inner_len (o : Option Str) (n : Nat) (kn : List Str) : (inner o n kn).length ≤ kn.length + 1 := by
  unfold inner
  cases o with
  | none => simp
  | some x => dsimp only; split <;> simp
theorem node_ix0 (h : Str) (o : Option Str) (ks : List D) : gIx (nodeD h o ks) (.int 0) = some (.str h) := by
  cases o <;> exact ix0 _ _
theorem node_ix1 (h x : Str) (ks : List D) : gIx (nodeD h (some x) ks) (.int 1) = some (.str x) := ix1 _ _ _
theorem path_snoc (p : List Int) (m : Int) : D.tup (p.map D.int ++ [D.int m]) = pathD (p ++ [m]) := by
  unfold pathD
  rw [List.map_append]; rfl
theorem rows_run : ∀ (n : Nat) (e : E) (p : List Int) (kn : List Str) (k : Nat) (H : List D), Wf n e → n ≤ 1000 → e.cnt ≤ 10000 → p.length + n ≤ 3000 → kn.length + n ≤ 3000 → n + 1 ≤ k →
    runF T k 20 [e.toD, pathD p, strsD kn] H = .ok (.lst ((e.rows p kn).map rowD), H)
  | 0, e, p, kn, k, H, w, _, _, _, _, _ => nomatch w
  | n + 1, e, p, kn, k, H, w, hn, hc, hp1, hk1, hk => by
    obtain ⟨k, rfl⟩ : ∃ k', k = k' + 2 := ⟨k - 2, by omega⟩
    have hp := lparts_run k e H w
    have loop : ∀ (ks : List E) (m : Nat) (acc : List Rw) (a b : Option D), e.kids.drop m = ks → acc.length + (rowsG e.bd p kn m (ks.map E.rows)).length ≤ 20000 →
        ∃ a' b', fLoop (bName 5) (Y20_0 (runF T (k + 1))) ((List.range' m ks.length).map fun (i : Nat) => D.int (i : Int)) ⟨[some e.toD, some (pathD p), some (strsD kn), some (.lst (acc.map rowD)), some (.lst (e.kids.map E.toD)), a, b], H⟩ =
          .ok (.nx, ⟨[some e.toD, some (pathD p), some (strsD kn), some (.lst ((acc ++ rowsG e.bd p kn m (ks.map E.rows)).map rowD)), some (.lst (e.kids.map E.toD)), a', b'], H⟩) := by
      intro ks
      induction ks with
      | nil => intro m acc a b _ _; exact ⟨a, b, by simp [fLoop, rowsG]⟩
      | cons x ks ih =>
        intro m acc a b hd hl
        have hm : m < e.kids.length := by
          by_cases h : m < e.kids.length
          · exact h
          · rw [List.drop_eq_nil_of_le (by omega)] at hd; cases hd
        have hx0 := List.drop_eq_getElem_cons hm
        rw [hd] at hx0
        have hxe : e.kids[m] = x := (List.cons.inj hx0).1.symm
        have hde : e.kids.drop (m + 1) = ks := (List.cons.inj hx0).2.symm
        have hx : x ∈ e.kids := by rw [← hxe]; exact List.getElem_mem hm
        have wx := w.kid x hx
        have cx := cnt_kid e x hx
        have hi := inner_len e.bd m kn
        have hr := rows_run n x (p ++ [(m : Int)]) (inner e.bd m kn) (k + 1) H wx (by omega) (by omega) (by rw [List.length_append, List.length_singleton]; omega) (by omega) (by omega)
        have hlen := rows_len n x (p ++ [(m : Int)]) (inner e.bd m kn) wx
        have hz : acc.length + (x.rows (p ++ [(m : Int)]) (inner e.bd m kn)).length ≤ sizeLine := sl _ (by
          rw [List.map_cons, rowsG, List.length_append] at hl
          omega)
        have hz2 : p.length + 1 ≤ sizeLine := sl _ (by omega)
        have hz3 : kn.length + 1 ≤ sizeLine := sl _ (by omega)
        have hix : gIx (.lst (e.kids.map E.toD)) (.int (m : Int)) = some x.toD := ixL m _ (by rw [List.getElem?_map, List.getElem?_eq_getElem hm, hxe]; rfl)
        have hin : (dIf (qAnd (qVal (o2 gIn (oV (o2 gIx (oV (dVar 0)) (oV (dC (.int 0))))) (oV (dTup (aCons (dC (.str "let")) (aCons (dC (.str "each")) aNil)))))) (qVal (o2 gEq (oV (dVar 5)) (oV (dC (.int 1)))))) (o2 gAdd (oV (dVar 2)) (oV (dLst (aCons (o2 gIx (oV (dVar 0)) (oV (dC (.int 1)))) aNil)))) (dVar 2)) ⟨[some e.toD, some (pathD p), some (strsD kn), some (.lst (acc.map rowD)), some (.lst (e.kids.map E.toD)), some (.int (m : Int)), b], H⟩ = .ok (strsD (inner e.bd m kn), H) := by
          cases w with
          | text n ws hw => cases hx
          | name n x => cases hx
          | node n h o ks' hhd _ _ =>
            rw [toD_node]
            cases o with
            | none =>
              have h2 : isBind h = false := hhd.2
              simp [sSeq, sNil, sIf, sRet, sAsg, Kr.finish, o2, oV, oSlot, oOb, oOwn, bnd, Kr.ret, opt, dVar, dC, qVal, qTru, qNot, qAnd, qOr, dTup, aCons, aNil, dLst, dIf, dAnd, dOr, dNot, dB, oCons, oNil, derefL, deref, dCall, bName, bTup, bsCons, bsNil, dSl, dPart, sOwn, sRetOwn, sMV, sMO, sSet, sPop2, sPar, sObj, sPutO, sFor, iAnyD, iRng1D, iRng2D, iEnumD, itemsD, dComp, wipeD, sExpr, dIsi, bd, truD, gTuple, gList, gLen, gInt, dSorts, gSorted2, gSorts, dRev, gRev, gAdd, Kr.gSub, gIsN, gNotN, gLt, gLe, gGt, gGe, gAbs, mAppend, mExtend, mUpdate, toKey, sl0, sl1, sl2, sl3, sl4, sl5, sl6, sl7, sl8, sl11, node_ix0, inBind, h2, E.bd, inner]
            | some y =>
              have h2 : isBind h = true := hhd.2
              by_cases hm1 : (m : Int) = 1
              · simp [sSeq, sNil, sIf, sRet, sAsg, Kr.finish, o2, oV, oSlot, oOb, oOwn, bnd, Kr.ret, opt, dVar, dC, qVal, qTru, qNot, qAnd, qOr, dTup, aCons, aNil, dLst, dIf, dAnd, dOr, dNot, dB, oCons, oNil, derefL, deref, dCall, bName, bTup, bsCons, bsNil, dSl, dPart, sOwn, sRetOwn, sMV, sMO, sSet, sPop2, sPar, sObj, sPutO, sFor, iAnyD, iRng1D, iRng2D, iEnumD, itemsD, dComp, wipeD, sExpr, dIsi, bd, truD, gTuple, gList, gLen, gInt, dSorts, gSorted2, gSorts, dRev, gRev, gAdd, Kr.gSub, gIsN, gNotN, gLt, gLe, gGt, gGe, gAbs, mAppend, mExtend, mUpdate, toKey, sl0, sl1, sl2, sl3, sl4, sl5, sl6, sl7, sl8, sl11, node_ix0, node_ix1, inBind, h2, E.bd, inner, eqI, hm1, strsD, hz3]
              · simp [sSeq, sNil, sIf, sRet, sAsg, Kr.finish, o2, oV, oSlot, oOb, oOwn, bnd, Kr.ret, opt, dVar, dC, qVal, qTru, qNot, qAnd, qOr, dTup, aCons, aNil, dLst, dIf, dAnd, dOr, dNot, dB, oCons, oNil, derefL, deref, dCall, bName, bTup, bsCons, bsNil, dSl, dPart, sOwn, sRetOwn, sMV, sMO, sSet, sPop2, sPar, sObj, sPutO, sFor, iAnyD, iRng1D, iRng2D, iEnumD, itemsD, dComp, wipeD, sExpr, dIsi, bd, truD, gTuple, gList, gLen, gInt, dSorts, gSorted2, gSorts, dRev, gRev, gAdd, Kr.gSub, gIsN, gNotN, gLt, gLe, gGt, gGe, gAbs, mAppend, mExtend, mUpdate, toKey, sl0, sl1, sl2, sl3, sl4, sl5, sl6, sl7, sl8, sl11, node_ix0, node_ix1, inBind, h2, E.bd, inner, eqI, hm1]
        have hY : Y20_0 (runF T (k + 1)) ⟨[some e.toD, some (pathD p), some (strsD kn), some (.lst (acc.map rowD)), some (.lst (e.kids.map E.toD)), some (.int (m : Int)), b], H⟩ =
            .ok (.nx, ⟨[some e.toD, some (pathD p), some (strsD kn), some (.lst ((acc ++ x.rows (p ++ [(m : Int)]) (inner e.bd m kn)).map rowD)), some (.lst (e.kids.map E.toD)), some (.int (m : Int)), some (strsD (inner e.bd m kn))], H⟩) := by
          rw [List.map_append]
          unfold Y20_0 sSeq sAsg
          rw [hin]
          have hr' := hr
          simp only [pathD, List.map_append, List.map_cons, List.map_nil] at hr'
          simp [sSeq, sNil, sIf, sRet, sAsg, Kr.finish, o2, oV, oSlot, oOb, oOwn, bnd, Kr.ret, opt, dVar, dC, qVal, qTru, qNot, qAnd, qOr, dTup, aCons, aNil, dLst, dIf, dAnd, dOr, dNot, dB, oCons, oNil, derefL, deref, dCall, bName, bTup, bsCons, bsNil, dSl, dPart, sOwn, sRetOwn, sMV, sMO, sSet, sPop2, sPar, sObj, sPutO, sFor, iAnyD, iRng1D, iRng2D, iEnumD, itemsD, dComp, wipeD, sExpr, dIsi, bd, truD, gTuple, gList, gLen, gInt, dSorts, gSorted2, gSorts, dRev, gRev, gAdd, Kr.gSub, gIsN, gNotN, gLt, gLe, gGt, gGe, gAbs, mAppend, mExtend, mUpdate, toKey, sl0, sl1, sl2, sl3, sl4, sl5, sl6, sl7, sl8, sl11, pathD, hz2, hix, hr', hz]
        obtain ⟨a', b', e'⟩ := ih (m + 1) (acc ++ x.rows (p ++ [(m : Int)]) (inner e.bd m kn)) (some (.int (m : Int))) (some (strsD (inner e.bd m kn))) hde (by
          rw [List.map_cons, rowsG, List.length_append] at hl
          rw [List.length_append]
          omega)
        refine ⟨a', b', ?_⟩
        rw [List.length_cons, List.range'_succ, List.map_cons, fLoop]
        show (match Y20_0 (runF T (k + 1)) ⟨[some e.toD, some (pathD p), some (strsD kn), some (.lst (acc.map rowD)), some (.lst (e.kids.map E.toD)), some (.int (m : Int)), b], H⟩ with
          | .ok (.nx, s2) => fLoop (bName 5) (Y20_0 (runF T (k + 1))) _ s2
          | .ok (.ct, s2) => fLoop (bName 5) (Y20_0 (runF T (k + 1))) _ s2
          | .ok (.bk, s2) => .ok (.nx, s2)
          | .ok (.rt r, s2) => .ok (.rt r, s2)
          | .error e => .error e) = _
        rw [hY]
        dsimp only
        rw [e', List.map_cons, rowsG, List.append_assoc]
    have hlen := rows_len (n + 1) e p kn w
    rw [rows_eq, List.length_cons] at hlen
    obtain ⟨a', b', hloop⟩ := loop e.kids 0 [⟨p, e, kn⟩] none none rfl (by rw [List.length_singleton]; omega)
    have hfew := w.few
    have hrng : -16777216 ≤ (e.kids.length : Int) ∧ (e.kids.length : Int) ≤ 16777216 := by omega
    have hL : L20_1 (runF T (k + 1)) ⟨[some e.toD, some (pathD p), some (strsD kn), some (.lst [rowD ⟨p, e, kn⟩]), some (.lst (e.kids.map E.toD)), none, none], H⟩ = .ok (.nx, ⟨[some e.toD, some (pathD p), some (strsD kn), some (.lst ((e.rows p kn).map rowD)), some (.lst (e.kids.map E.toD)), a', b'], H⟩) := by
      rw [rows_eq]
      have hr' := hloop
      rw [← List.range_eq_range'] at hr'
      unfold L20_1 sFor
      have hi : (iRng1D (dB gLen (oCons (oV (dVar 4)) oNil))) ⟨[some e.toD, some (pathD p), some (strsD kn), some (.lst [rowD ⟨p, e, kn⟩]), some (.lst (e.kids.map E.toD)), none, none], H⟩ = .ok ((List.range e.kids.length).map fun (i : Nat) => D.int (i : Int), H) := by
        simp [sSeq, sNil, sIf, sRet, sAsg, Kr.finish, o2, oV, oSlot, oOb, oOwn, bnd, Kr.ret, opt, dVar, dC, qVal, qTru, qNot, qAnd, qOr, dTup, aCons, aNil, dLst, dIf, dAnd, dOr, dNot, dB, oCons, oNil, derefL, deref, dCall, bName, bTup, bsCons, bsNil, dSl, dPart, sOwn, sRetOwn, sMV, sMO, sSet, sPop2, sPar, sObj, sPutO, sFor, iAnyD, iRng1D, iRng2D, iEnumD, itemsD, dComp, wipeD, sExpr, dIsi, bd, truD, gTuple, gList, gLen, gInt, dSorts, gSorted2, gSorts, dRev, gRev, gAdd, Kr.gSub, gIsN, gNotN, gLt, gLe, gGt, gGe, gAbs, mAppend, mExtend, mUpdate, toKey, sl0, sl1, sl2, sl3, sl4, sl5, sl6, sl7, sl8, sl11, hrng, rng_map]
      rw [hi]
      exact hr'
    rw [runF]
    simp [sSeq, sNil, sIf, sRet, sAsg, Kr.finish, o2, oV, oSlot, oOb, oOwn, bnd, Kr.ret, opt, dVar, dC, qVal, qTru, qNot, qAnd, qOr, dTup, aCons, aNil, dLst, dIf, dAnd, dOr, dNot, dB, oCons, oNil, derefL, deref, dCall, bName, bTup, bsCons, bsNil, dSl, dPart, sOwn, sRetOwn, sMV, sMO, sSet, sPop2, sPar, sObj, sPutO, sFor, iAnyD, iRng1D, iRng2D, iEnumD, itemsD, dComp, wipeD, sExpr, dIsi, bd, truD, gTuple, gList, gLen, gInt, dSorts, gSorted2, gSorts, dRev, gRev, gAdd, Kr.gSub, gIsN, gNotN, gLt, gLe, gGt, gGe, gAbs, mAppend, mExtend, mUpdate, toKey, sl0, sl1, sl2, sl3, sl4, sl5, sl6, sl7, sl8, sl11, T, F20, B20, hp]
    have hL' : L20_1 (runF T (k + 1)) ⟨[some e.toD, some (pathD p), some (strsD kn), some (.lst [.tup [pathD p, e.toD, strsD kn]]), some (.lst (e.kids.map E.toD)), none, none], H⟩ = _ := hL
    rw [hL']
    simp
end Gk03

namespace Gk03
open PySem Kr

/-! ### rows and paths, depth -/
theorem rowsG_paths (o : Option Str) (p : List Int) (kn : List Str) : ∀ (ks : List E) (n : Nat), (∀ k ∈ ks, ∀ p kn, (k.rows p kn).map Rw.path = k.pths.map (p ++ ·)) → (rowsG o p kn n (ks.map E.rows)).map Rw.path = (glue n (ks.map E.pths)).map (p ++ ·)
  | [], n, _ => rfl
  | k :: ks, n, h => by
    have h1 := h k List.mem_cons_self
    have h2 := rowsG_paths o p kn ks (n + 1) fun x hx => h x (List.mem_cons_of_mem _ hx)
    simp [rowsG, glue, h1, h2]
theorem rows_paths : ∀ (n : Nat) (e : E) (p : List Int) (kn : List Str), Wf n e → (e.rows p kn).map Rw.path = e.pths.map (p ++ ·)
  | 0, e, _, _, w => nomatch w
  | n + 1, e, p, kn, w => by
    rw [rows_eq, pths_eq, List.map_cons, List.map_cons, rowsG_paths e.bd p kn e.kids 0 fun k hk p kn => rows_paths n k p kn (w.kid k hk)]
    simp
theorem rows_paths0 {n : Nat} {e : E} (w : Wf n e) : (e.rows [] []).map Rw.path = e.pths := by
  rw [rows_paths n e [] [] w]; simp
theorem mem_glue : ∀ (pss : List (List (List Int))) (m : Nat) (p : List Int), p ∈ glue m pss ↔ ∃ i ps, pss[i]? = some ps ∧ ∃ q ∈ ps, p = ((m + i : Nat) : Int) :: q
  | [], m, p => by simp [glue]
  | ps :: r, m, p => by
    rw [glue, List.mem_append, mem_glue r (m + 1) p]
    constructor
    · rintro (h | ⟨i, qs, h1, q, h2, rfl⟩)
      · obtain ⟨q, hq, rfl⟩ := List.mem_map.mp h
        exact ⟨0, ps, rfl, q, hq, rfl⟩
      · exact ⟨i + 1, qs, h1, q, h2, by rw [show m + 1 + i = m + (i + 1) by omega]⟩
    · rintro ⟨i, qs, h1, q, h2, rfl⟩
      cases i with
      | zero => cases h1; exact .inl (List.mem_map.mpr ⟨q, h2, rfl⟩)
      | succ i => exact .inr ⟨i, qs, h1, q, h2, by rw [show m + 1 + i = m + (i + 1) by omega]⟩
theorem mem_pths (e : E) (p : List Int) : p ∈ e.pths ↔ p = [] ∨ ∃ (i : Nat) (k : E), e.kids[i]? = some k ∧ ∃ q ∈ k.pths, p = (i : Int) :: q := by
  rw [pths_eq, List.mem_cons, mem_glue]
  constructor
  · rintro (h | ⟨i, ps, h1, q, h2, rfl⟩)
    · exact .inl h
    · rw [List.getElem?_map] at h1
      cases hk : e.kids[i]? with
      | none => rw [hk] at h1; cases h1
      | some k => rw [hk] at h1; cases h1; exact .inr ⟨i, k, hk, q, h2, by rw [Nat.zero_add]⟩
  · rintro (h | ⟨i, k, hk, q, h2, rfl⟩)
    · exact .inl h
    · exact .inr ⟨i, k.pths, by rw [List.getElem?_map, hk]; rfl, q, h2, by rw [Nat.zero_add]⟩
theorem maxz_ge (xs : List Int) : (∀ x ∈ xs, x ≤ maxI (xs ++ [0])) ∧ 0 ≤ maxI (xs ++ [0]) ∧ (maxI (xs ++ [0]) = 0 ∨ maxI (xs ++ [0]) ∈ xs) := by
  obtain ⟨h1, h2⟩ := maxI_mem (ns := xs ++ [0]) (by simp)
  refine ⟨fun x hx => h2 x (by simp [hx]), h2 0 (by simp), ?_⟩
  rcases List.mem_append.mp h1 with h | h
  · exact .inr h
  · exact .inl (List.mem_singleton.mp h)
theorem dpt_paths : ∀ (n : Nat) (e : E), Wf n e → (∀ p ∈ e.pths, (p.length : Int) ≤ e.dpt - 1) ∧ ∃ p ∈ e.pths, (p.length : Int) = e.dpt - 1
  | 0, e, w => nomatch w
  | n + 1, e, w => by
    obtain ⟨g1, g2, g3⟩ := maxz_ge (e.kids.map E.dpt)
    have hd := dpt_eq e
    constructor
    · intro p hp
      rcases (mem_pths e p).mp hp with rfl | ⟨i, k, hk, q, hq, rfl⟩
      · simp; omega
      · have hm := List.mem_of_getElem? hk
        have h1 := (dpt_paths n k (w.kid k hm)).1 q hq
        have h2 := g1 k.dpt (List.mem_map.mpr ⟨k, hm, rfl⟩)
        simp; omega
    · rcases g3 with g3 | g3
      · exact ⟨[], (mem_pths e []).mpr (.inl rfl), by simp; omega⟩
      · obtain ⟨k, hm, hk⟩ := List.mem_map.mp g3
        obtain ⟨i, hi⟩ := List.getElem?_of_mem hm
        obtain ⟨q, hq, hl⟩ := (dpt_paths n k (w.kid k hm)).2
        exact ⟨(i : Int) :: q, (mem_pths e _).mpr (.inr ⟨i, k, hi, q, hq, rfl⟩), by simp; omega⟩
theorem maxI_eq {xs : List Int} {m : Int} (h1 : m ∈ xs) (h2 : ∀ x ∈ xs, x ≤ m) : maxI xs = m := by
  obtain ⟨a, b⟩ := maxI_mem (ns := xs) (fun e => by rw [e] at h1; cases h1)
  have := b m h1
  have := h2 _ a
  omega
theorem dpt_max {n : Nat} {e : E} (w : Wf n e) : 1 + maxI ((e.rows [] []).map fun r => (r.path.length : Int)) = e.dpt := by
  have e1 : (e.rows [] []).map (fun r => (r.path.length : Int)) = e.pths.map fun p => (p.length : Int) := by
    rw [← rows_paths0 w, List.map_map]; rfl
  obtain ⟨h1, p, hp, h2⟩ := dpt_paths n e w
  rw [e1, maxI_eq (m := e.dpt - 1) (List.mem_map.mpr ⟨p, hp, h2⟩) (fun x hx => by
    obtain ⟨q, hq, rfl⟩ := List.mem_map.mp hx
    exact h1 q hq)]
  omega

/-! ### where a row stands -/
inductive At : E → List Int → E → Prop
  | here (e : E) : At e [] e
  | there (e k x : E) (i : Nat) (q : List Int) : e.kids[i]? = some k → At k q x → At e ((i : Int) :: q) x
theorem mem_rowsG (o : Option Str) (p : List Int) (kn : List Str) (r : Rw) : ∀ (ks : List E) (m : Nat), r ∈ rowsG o p kn m (ks.map E.rows) ↔ ∃ (i : Nat) (k : E), ks[i]? = some k ∧ r ∈ k.rows (p ++ [((m + i : Nat) : Int)]) (inner o (m + i) kn)
  | [], m => by simp [rowsG]
  | k :: ks, m => by
    rw [List.map_cons, rowsG, List.mem_append, mem_rowsG o p kn r ks (m + 1)]
    constructor
    · rintro (h | ⟨i, x, h1, h2⟩)
      · exact ⟨0, k, rfl, h⟩
      · exact ⟨i + 1, x, h1, by rw [show m + (i + 1) = m + 1 + i by omega]; exact h2⟩
    · rintro ⟨i, x, h1, h2⟩
      cases i with
      | zero => cases h1; exact .inl h2
      | succ i => exact .inr ⟨i, x, h1, by rw [show m + 1 + i = m + (i + 1) by omega]; exact h2⟩
theorem mem_rows (e : E) (p : List Int) (kn : List Str) (r : Rw) : r ∈ e.rows p kn ↔ r = ⟨p, e, kn⟩ ∨ ∃ (i : Nat) (k : E), e.kids[i]? = some k ∧ r ∈ k.rows (p ++ [(i : Int)]) (inner e.bd i kn) := by
  rw [rows_eq, List.mem_cons, mem_rowsG]
  simp only [Nat.zero_add]
theorem rows_at : ∀ (n : Nat) (e : E) (p : List Int) (kn : List Str) (r : Rw), Wf n e → r ∈ e.rows p kn → ∃ q, r.path = p ++ q ∧ At e q r.one ∧ Wf n r.one ∧ r.one.cnt ≤ e.cnt ∧ q.length ≤ n
  | 0, e, _, _, _, w, _ => nomatch w
  | n + 1, e, p, kn, r, w, h => by
    rcases (mem_rows e p kn r).mp h with rfl | ⟨i, k, hk, h⟩
    · exact ⟨[], by simp, .here e, w, Nat.le_refl _, Nat.zero_le _⟩
    · have hm := List.mem_of_getElem? hk
      obtain ⟨q, h1, h2, h3, h4, h5⟩ := rows_at n k _ _ r (w.kid k hm) h
      have := cnt_kid e k hm
      exact ⟨(i : Int) :: q, by rw [h1]; simp, .there e k _ i q hk h2, h3.up (by omega), by omega, by simp; omega⟩
theorem at_run {n : Nat} {e x : E} {q : List Int} (k : Nat) (H : List D) (w : Wf n e) (a : At e q x) (hq : q.length ≤ 10000) : runF T (k + 2) 8 [e.toD, pathD q] H = .ok (x.toD, H) := by
  have loop : ∀ (e x : E) (q : List Int), At e q x → ∀ (n : Nat) (P : D) (a : Option D), Wf n e → ∃ a', fLoop (bName 2) (Y8_0 (runF T (k + 1))) (q.map D.int) ⟨[some e.toD, some P, a], H⟩ = .ok (.nx, ⟨[some x.toD, some P, a'], H⟩) := by
    intro e x q a
    induction a with
    | here e => exact fun n P a w => ⟨a, rfl⟩
    | there e c x i q hk _ ih =>
      intro n P a w
      obtain ⟨n, rfl⟩ : ∃ m, n = m + 1 := by cases w <;> exact ⟨_, rfl⟩
      have hp := parts_run k e H w
      have hix : gIx (.tup (e.kids.map E.toD)) (.int (i : Int)) = some c.toD := ixT i _ (by rw [List.getElem?_map, hk]; rfl)
      obtain ⟨a', e'⟩ := ih n P (some (.int (i : Int))) (w.kid c (List.mem_of_getElem? hk))
      refine ⟨a', ?_⟩
      have hY : Y8_0 (runF T (k + 1)) ⟨[some e.toD, some P, some (.int (i : Int))], H⟩ = .ok (.nx, ⟨[some c.toD, some P, some (.int (i : Int))], H⟩) := by
        simp [sSeq, sNil, sIf, sRet, sAsg, Kr.finish, o2, oV, oSlot, oOb, oOwn, bnd, Kr.ret, opt, dVar, dC, qVal, qTru, qNot, qAnd, qOr, dTup, aCons, aNil, dLst, dIf, dAnd, dOr, dNot, dB, oCons, oNil, derefL, deref, dCall, bName, bTup, bsCons, bsNil, dSl, dPart, sOwn, sRetOwn, sMV, sMO, sSet, sPop2, sPar, sObj, sPutO, sFor, iAnyD, iRng1D, iRng2D, iEnumD, itemsD, dComp, wipeD, sExpr, dIsi, bd, truD, gTuple, gList, gLen, gInt, dSorts, gSorted2, gSorts, dRev, gRev, gAdd, Kr.gSub, gIsN, gNotN, gLt, gLe, gGt, gGe, gAbs, mAppend, mExtend, mUpdate, toKey, sl0, sl1, sl2, sl3, sl4, sl5, sl6, sl7, sl8, sl11, Y8_0, hp, hix]
      rw [List.map_cons, fLoop]
      show (match Y8_0 (runF T (k + 1)) ⟨[some e.toD, some P, some (.int (i : Int))], H⟩ with
        | .ok (.nx, s2) => fLoop (bName 2) (Y8_0 (runF T (k + 1))) _ s2
        | .ok (.ct, s2) => fLoop (bName 2) (Y8_0 (runF T (k + 1))) _ s2
        | .ok (.bk, s2) => .ok (.nx, s2)
        | .ok (.rt r, s2) => .ok (.rt r, s2)
        | .error e => .error e) = _
      rw [hY]
      exact e'
  obtain ⟨a', hl⟩ := loop e x q a n (pathD q) none w
  have hL : L8_1 (runF T (k + 1)) ⟨[some e.toD, some (pathD q), none], H⟩ = .ok (.nx, ⟨[some x.toD, some (pathD q), a'], H⟩) := by
    unfold L8_1 sFor
    have hi : (iAnyD (dVar 1)) ⟨[some e.toD, some (pathD q), none], H⟩ = .ok (q.map D.int, H) := by simp [sSeq, sNil, sIf, sRet, sAsg, Kr.finish, o2, oV, oSlot, oOb, oOwn, bnd, Kr.ret, opt, dVar, dC, qVal, qTru, qNot, qAnd, qOr, dTup, aCons, aNil, dLst, dIf, dAnd, dOr, dNot, dB, oCons, oNil, derefL, deref, dCall, bName, bTup, bsCons, bsNil, dSl, dPart, sOwn, sRetOwn, sMV, sMO, sSet, sPop2, sPar, sObj, sPutO, sFor, iAnyD, iRng1D, iRng2D, iEnumD, itemsD, dComp, wipeD, sExpr, dIsi, bd, truD, gTuple, gList, gLen, gInt, dSorts, gSorted2, gSorts, dRev, gRev, gAdd, Kr.gSub, gIsN, gNotN, gLt, gLe, gGt, gGe, gAbs, mAppend, mExtend, mUpdate, toKey, sl0, sl1, sl2, sl3, sl4, sl5, sl6, sl7, sl8, sl11, pathD]
    rw [hi]
    exact hl
  rw [runF]
  simp [sSeq, sNil, sIf, sRet, sAsg, Kr.finish, o2, oV, oSlot, oOb, oOwn, bnd, Kr.ret, opt, dVar, dC, qVal, qTru, qNot, qAnd, qOr, dTup, aCons, aNil, dLst, dIf, dAnd, dOr, dNot, dB, oCons, oNil, derefL, deref, dCall, bName, bTup, bsCons, bsNil, dSl, dPart, sOwn, sRetOwn, sMV, sMO, sSet, sPop2, sPar, sObj, sPutO, sFor, iAnyD, iRng1D, iRng2D, iEnumD, itemsD, dComp, wipeD, sExpr, dIsi, bd, truD, gTuple, gList, gLen, gInt, dSorts, gSorted2, gSorts, dRev, gRev, gAdd, Kr.gSub, gIsN, gNotN, gLt, gLe, gGt, gGe, gAbs, mAppend, mExtend, mUpdate, toKey, sl0, sl1, sl2, sl3, sl4, sl5, sl6, sl7, sl8, sl11, T, F8, B8, hL]
end Gk03

namespace Gk03
open PySem Kr

theorem toPyL_ints : ∀ q : List Int, toPyL (q.map .int) = some (q.map PyData.int)
  | [] => rfl
  | i :: q => by
    rw [List.map_cons, toPyL, toPyL_ints q]
    simp [toPy]
theorem lay_ints : ∀ q : List Int, PyData.canLayAll0 (q.map PyData.int) = true
  | [] => rfl
  | i :: q => by
    rw [List.map_cons, PyData.canLayAll0, lay_ints q]
    simp [PyData.canLay0]
theorem dep_ints : ∀ q : List Int, PyData.depthAll (q.map PyData.int) = 0
  | [] => rfl
  | i :: q => by
    rw [List.map_cons, PyData.depthAll, dep_ints q]
    simp [PyData.depth]
theorem eq_path (q : List Int) : gEq (pathD q) (.tup []) = some (.bl (decide (q = []))) := by
  have h1 : toPy (pathD q) = some (.tuple (q.map PyData.int)) := by
    unfold pathD
    rw [toPy, toPyL_ints]; rfl
  have h2 : toPy (.tup []) = some (.tuple []) := rfl
  have s1 : SeqAt.shaped (.tuple (q.map PyData.int)) = true := by
    unfold SeqAt.shaped
    rw [PyData.canLay0, lay_ints, PyData.depth, dep_ints]; rfl
  have s2 : SeqAt.shaped (.tuple []) = true := rfl
  have h3 : eqD (pathD q) (.tup []) = some (decide (q = [])) := by
    have : scalEq (pathD q) (.tup []) = none := rfl
    unfold eqD deepEq
    rw [this, h1, h2]
    simp only [bd, s1, s2, and_self, if_true]
    cases q <;> rfl
  unfold gEq
  rw [h3]; rfl
/-! ### with_parts -/
theorem wparts_node (k : Nat) (h : Str) (o : Option Str) (ks js : List D) (L : D) (H : List D) (hd : Hd h o) (hL : gTuple [L] = some (.tup js)) (hz : js.length ≤ 10000) : runF T (k + 1) 1 [nodeD h o ks, L] H = .ok (nodeD h o js, H) := by
  obtain ⟨h1, h2⟩ := hd
  have z1 : js.length + 1 ≤ sizeLine := sl _ (by omega)
  have z2 : js.length + 2 ≤ sizeLine := sl _ (by omega)
  cases o with
  | none =>
    have h2 : isBind h = false := h2
    rw [runF]
    simp [sSeq, sNil, sIf, sRet, sAsg, Kr.finish, o2, oV, oSlot, oOb, oOwn, bnd, Kr.ret, opt, dVar, dC, qVal, qTru, qNot, qAnd, qOr, dTup, aCons, aNil, dLst, dIf, dAnd, dOr, dNot, dB, oCons, oNil, derefL, deref, dCall, bName, bTup, bsCons, bsNil, dSl, dPart, sOwn, sRetOwn, sMV, sMO, sSet, sPop2, sPar, sObj, sPutO, sFor, iAnyD, iRng1D, iRng2D, iEnumD, itemsD, dComp, wipeD, sExpr, dIsi, bd, truD, gTuple, gList, gLen, gInt, dSorts, gSorted2, gSorts, dRev, gRev, gAdd, Kr.gSub, gIsN, gNotN, gLt, gLe, gGt, gGe, gAbs, mAppend, mExtend, mUpdate, toKey, sl0, sl1, sl2, sl3, sl4, sl5, sl6, sl7, sl8, sl11, T, F1, B1, nodeD, pre, ix0, inLeaf, inBind, h1, h2, cutT1, -gTuple, hL, Nat.add_comm 1 js.length, z1]
  | some x =>
    have h2 : isBind h = true := h2
    rw [runF]
    simp [sSeq, sNil, sIf, sRet, sAsg, Kr.finish, o2, oV, oSlot, oOb, oOwn, bnd, Kr.ret, opt, dVar, dC, qVal, qTru, qNot, qAnd, qOr, dTup, aCons, aNil, dLst, dIf, dAnd, dOr, dNot, dB, oCons, oNil, derefL, deref, dCall, bName, bTup, bsCons, bsNil, dSl, dPart, sOwn, sRetOwn, sMV, sMO, sSet, sPop2, sPar, sObj, sPutO, sFor, iAnyD, iRng1D, iRng2D, iEnumD, itemsD, dComp, wipeD, sExpr, dIsi, bd, truD, gTuple, gList, gLen, gInt, dSorts, gSorted2, gSorts, dRev, gRev, gAdd, Kr.gSub, gIsN, gNotN, gLt, gLe, gGt, gGe, gAbs, mAppend, mExtend, mUpdate, toKey, sl0, sl1, sl2, sl3, sl4, sl5, sl6, sl7, sl8, sl11, T, F1, B1, nodeD, pre, ix0, inLeaf, inBind, h1, h2, cutT2, -gTuple, hL, Nat.add_comm 2 js.length, z2]
theorem wparts_leaf (k : Nat) (h : Str) (ps : List D) (L : D) (H : List D) (h1 : isLeaf h = true) : runF T (k + 1) 1 [.tup (.str h :: ps), L] H = .ok (.tup (.str h :: ps), H) := by
  rw [runF]
  simp [sSeq, sNil, sIf, sRet, sAsg, Kr.finish, o2, oV, oSlot, oOb, oOwn, bnd, Kr.ret, opt, dVar, dC, qVal, qTru, qNot, qAnd, qOr, dTup, aCons, aNil, dLst, dIf, dAnd, dOr, dNot, dB, oCons, oNil, derefL, deref, dCall, bName, bTup, bsCons, bsNil, dSl, dPart, sOwn, sRetOwn, sMV, sMO, sSet, sPop2, sPar, sObj, sPutO, sFor, iAnyD, iRng1D, iRng2D, iEnumD, itemsD, dComp, wipeD, sExpr, dIsi, bd, truD, gTuple, gList, gLen, gInt, dSorts, gSorted2, gSorts, dRev, gRev, gAdd, Kr.gSub, gIsN, gNotN, gLt, gLe, gGt, gGe, gAbs, mAppend, mExtend, mUpdate, toKey, sl0, sl1, sl2, sl3, sl4, sl5, sl6, sl7, sl8, sl11, T, F1, B1, ix0, inLeaf, h1]

/-! ### a part put in -/
theorem ixN_nat {n i : Nat} (h : i < n) : L2.ixN n (i : Int) = some i := by
  unfold L2.ixN
  rw [if_pos (by omega), if_pos (by omega)]
  simp
theorem cut_tl (i : Int) (q : List Int) : gCut (some 1) none (pathD (i :: q)) = some (pathD q) := cut1 _ _
theorem ix_path (i : Int) (q : List Int) : gIx (pathD (i :: q)) (.int 0) = some (.int i) := ix0 _ _
theorem len_path (q : List Int) : gLen [pathD q] = some (.int q.length) := by simp [gLen, pathD]
theorem node_cut1 (h : Str) (ks : List D) : gCut none (some 1) (nodeD h none ks) = some (.tup [.str h]) := cutT1 _ _
theorem node_cut2 (h x : Str) (ks : List D) : gCut none (some 2) (nodeD h (some x) ks) = some (.tup [.str h, .str x]) := cutT2 _ _ _
theorem pl_node {m : Nat} {h : Str} {o : Option Str} {ks : List D} (hk : ∀ k ∈ ks, Pl m k) (hl : ks.length ≤ 10000) (h1 : 1 ≤ m) : Pl (m + 1) (nodeD h o ks) := by
  refine .tup _ _ (fun d hd => ?_) ?_
  · rcases List.mem_append.mp hd with hd | hd
    · obtain ⟨m, rfl⟩ : ∃ m', m = m' + 1 := ⟨m - 1, by omega⟩
      cases o <;> simp only [pre, List.mem_cons, List.not_mem_nil, or_false] at hd
      · subst hd; exact .str _ _
      · rcases hd with rfl | rfl <;> exact .str _ _
    · exact hk d hd
  · cases o <;> simp [pre] <;> omega
theorem up_run (H : List D) (o : D) (mo : Nat) (ho : Pl mo o) : ∀ (n : Nat) (e x : E) (q : List Int) (k : Nat), At e q x → Wf n e → n + 2 ≤ k →
    ∃ d, Pl (mo + n + 4) d ∧ runF T k 9 [e.toD, pathD q, o] H = .ok (d, H) ∧ runF T k 22 [e.toD, pathD q, o] H = .ok (d, H) := by
  intro n
  induction n with
  | zero => intro e x q k a w; cases w
  | succ n ih =>
    intro e x q k a w hk
    obtain ⟨k, rfl⟩ : ∃ k', k = k' + 2 := ⟨k - 2, by omega⟩
    cases a with
    | here _ =>
      refine ⟨o, ho.up (by omega), ?_, ?_⟩
      · rw [runF]
        simp [sSeq, sNil, sIf, sRet, sAsg, Kr.finish, o2, oV, oSlot, oOb, oOwn, bnd, Kr.ret, opt, dVar, dC, qVal, qTru, qNot, qAnd, qOr, dTup, aCons, aNil, dLst, dIf, dAnd, dOr, dNot, dB, oCons, oNil, derefL, deref, dCall, bName, bTup, bsCons, bsNil, dSl, dPart, sOwn, sRetOwn, sMV, sMO, sSet, sPop2, sPar, sObj, sPutO, sFor, iAnyD, iRng1D, iRng2D, iEnumD, itemsD, dComp, wipeD, sExpr, dIsi, bd, truD, gTuple, gList, gLen, gInt, dSorts, gSorted2, gSorts, dRev, gRev, gAdd, Kr.gSub, gIsN, gNotN, gLt, gLe, gGt, gGe, gAbs, mAppend, mExtend, mUpdate, toKey, sl0, sl1, sl2, sl3, sl4, sl5, sl6, sl7, sl8, sl11, T, F9, B9, eq_path]
      · rw [runF]
        simp [sSeq, sNil, sIf, sRet, sAsg, Kr.finish, o2, oV, oSlot, oOb, oOwn, bnd, Kr.ret, opt, dVar, dC, qVal, qTru, qNot, qAnd, qOr, dTup, aCons, aNil, dLst, dIf, dAnd, dOr, dNot, dB, oCons, oNil, derefL, deref, dCall, bName, bTup, bsCons, bsNil, dSl, dPart, sOwn, sRetOwn, sMV, sMO, sSet, sPop2, sPar, sObj, sPutO, sFor, iAnyD, iRng1D, iRng2D, iEnumD, itemsD, dComp, wipeD, sExpr, dIsi, bd, truD, gTuple, gList, gLen, gInt, dSorts, gSorted2, gSorts, dRev, gRev, gAdd, Kr.gSub, gIsN, gNotN, gLt, gLe, gGt, gGe, gAbs, mAppend, mExtend, mUpdate, toKey, sl0, sl1, sl2, sl3, sl4, sl5, sl6, sl7, sl8, sl11, T, F22, B22, -gLen, len_path, eqI]
    | there _ c _ i q hi a =>
      have hm := List.mem_of_getElem? hi
      have wc := w.kid c hm
      obtain ⟨d, pd, r9, r22⟩ := ih c x q (k + 1) a wc (by omega)
      have hil : i < e.kids.length := (List.getElem?_eq_some_iff.mp hi).1
      have hix : gIx (.lst (e.kids.map E.toD)) (.int (i : Int)) = some c.toD := ixL i _ (by rw [List.getElem?_map, hi]; rfl)
      have hxn : L2.ixN (e.kids.map E.toD).length (i : Int) = some i := ixN_nat (by rw [List.length_map]; exact hil)
      rw [List.length_map] at hxn
      have hp := parts_run k e H w
      have hlp := lparts_run k e H w
      cases w with
      | text n ws hw => cases hm
      | name n x => cases hm
      | node n h oo ks hhd hl hks =>
        have hjs : ((ks.map E.toD).set i d).length ≤ 10000 := by rw [List.length_set, List.length_map]; omega
        have hw := wparts_node k h oo (ks.map E.toD) ((ks.map E.toD).set i d) (.lst ((ks.map E.toD).set i d)) H hhd rfl hjs
        have z1 : ks.length + 1 ≤ sizeLine := sl _ (by omega)
        have z2 : ks.length + 2 ≤ sizeLine := sl _ (by omega)
        rw [toD_node] at hp hlp ⊢
        simp only [E.kids] at hp hlp hix hxn
        have hq0 : ¬ ((q.length : Int) + 1 = 0) := by omega
        refine ⟨nodeD h oo ((ks.map E.toD).set i d), ?_, ?_, ?_⟩
        · refine (pl_node (m := mo + n + 4) (fun y hy => ?_) hjs (by omega)).up (by omega)
          rcases List.mem_or_eq_of_mem_set hy with hy | rfl
          · obtain ⟨z, hz, rfl⟩ := List.mem_map.mp hy
            exact (hks z hz).pl.up (by omega)
          · exact pd
        · rw [runF]
          simp [sSeq, sNil, sIf, sRet, sAsg, Kr.finish, o2, oV, oSlot, oOb, oOwn, bnd, Kr.ret, opt, dVar, dC, qVal, qTru, qNot, qAnd, qOr, dTup, aCons, aNil, dLst, dIf, dAnd, dOr, dNot, dB, oCons, oNil, derefL, deref, dCall, bName, bTup, bsCons, bsNil, dSl, dPart, sOwn, sRetOwn, sMV, sMO, sSet, sPop2, sPar, sObj, sPutO, sFor, iAnyD, iRng1D, iRng2D, iEnumD, itemsD, dComp, wipeD, sExpr, dIsi, bd, truD, gTuple, gList, gLen, gInt, dSorts, gSorted2, gSorts, dRev, gRev, gAdd, Kr.gSub, gIsN, gNotN, gLt, gLe, gGt, gGe, gAbs, mAppend, mExtend, mUpdate, toKey, sl0, sl1, sl2, sl3, sl4, sl5, sl6, sl7, sl8, sl11, T, F9, B9, eq_path, hp, cut_tl, ix_path, hix, r9, hxn, hw]
        · rw [runF]
          cases oo with
          | none =>
            have h2 : isBind h = false := hhd.2
            simp [sSeq, sNil, sIf, sRet, sAsg, Kr.finish, o2, oV, oSlot, oOb, oOwn, bnd, Kr.ret, opt, dVar, dC, qVal, qTru, qNot, qAnd, qOr, dTup, aCons, aNil, dLst, dIf, dAnd, dOr, dNot, dB, oCons, oNil, derefL, deref, dCall, bName, bTup, bsCons, bsNil, dSl, dPart, sOwn, sRetOwn, sMV, sMO, sSet, sPop2, sPar, sObj, sPutO, sFor, iAnyD, iRng1D, iRng2D, iEnumD, itemsD, dComp, wipeD, sExpr, dIsi, bd, truD, gTuple, gList, gLen, gInt, dSorts, gSorted2, gSorts, dRev, gRev, gAdd, Kr.gSub, gIsN, gNotN, gLt, gLe, gGt, gGe, gAbs, mAppend, mExtend, mUpdate, toKey, sl0, sl1, sl2, sl3, sl4, sl5, sl6, sl7, sl8, sl11, T, F22, B22, -gLen, len_path, eqI, hlp, cut_tl, ix_path, hix, r22, hxn, hq0, node_ix0, inBind, h2, node_cut1, Nat.add_comm 1 ks.length, z1]
            simp [nodeD, pre]
          | some y =>
            have h2 : isBind h = true := hhd.2
            simp [sSeq, sNil, sIf, sRet, sAsg, Kr.finish, o2, oV, oSlot, oOb, oOwn, bnd, Kr.ret, opt, dVar, dC, qVal, qTru, qNot, qAnd, qOr, dTup, aCons, aNil, dLst, dIf, dAnd, dOr, dNot, dB, oCons, oNil, derefL, deref, dCall, bName, bTup, bsCons, bsNil, dSl, dPart, sOwn, sRetOwn, sMV, sMO, sSet, sPop2, sPar, sObj, sPutO, sFor, iAnyD, iRng1D, iRng2D, iEnumD, itemsD, dComp, wipeD, sExpr, dIsi, bd, truD, gTuple, gList, gLen, gInt, dSorts, gSorted2, gSorts, dRev, gRev, gAdd, Kr.gSub, gIsN, gNotN, gLt, gLe, gGt, gGe, gAbs, mAppend, mExtend, mUpdate, toKey, sl0, sl1, sl2, sl3, sl4, sl5, sl6, sl7, sl8, sl11, T, F22, B22, -gLen, len_path, eqI, hlp, cut_tl, ix_path, hix, r22, hxn, hq0, node_ix0, inBind, h2, node_cut2, Nat.add_comm 2 ks.length, z2]
            simp [nodeD, pre]
end Gk03

namespace Gk03
open PySem Kr
open L2 (Key)

/-! ### free names -/
inductive Fr : E → Str → Prop
  | name (x : Str) : Fr (.name x) x
  | kid (h : Str) (o : Option Str) (ks : List E) (i : Nat) (k : E) (x : Str) : ks[i]? = some k → Fr k x → ¬ (o = some x ∧ i = 1) → Fr (.node h o ks) x
theorem fr_node (h : Str) (o : Option Str) (ks : List E) (x : Str) : Fr (.node h o ks) x ↔ ∃ (i : Nat) (k : E), ks[i]? = some k ∧ Fr k x ∧ ¬ (o = some x ∧ i = 1) := by
  constructor
  · intro f
    cases f with
    | kid _ _ _ i k _ h1 h2 h3 => exact ⟨i, k, h1, h2, h3⟩
  · rintro ⟨i, k, h1, h2, h3⟩
    exact .kid h o ks i k x h1 h2 h3
def dk (ks : List Str) : List (Key × D) := ks.map fun x => (Sum.inr x, D.bl true)
def mg (a b : List Str) : List Str := b.foldl (fun acc x => if x ∈ acc then acc else acc ++ [x]) a
theorem dk_any (a : List Str) (x : Str) : ((dk a).any fun kv => decide (kv.1 = Sum.inr x)) = decide (x ∈ a) := by
  induction a with
  | nil => simp [dk]
  | cons y a ih =>
    have e : dk (y :: a) = (Sum.inr y, D.bl true) :: dk a := rfl
    rw [e, List.any_cons, ih]
    by_cases h : y = x
    · subst h; simp
    · have h' : ¬ x = y := fun z => h z.symm
      simp [h, h']
theorem dk_map (a : List Str) (x : Str) : ((dk a).map fun kv => if kv.1 = Sum.inr x then (kv.1, D.bl true) else kv) = dk a := by
  have : ∀ kv ∈ dk a, (if kv.1 = Sum.inr x then (kv.1, D.bl true) else kv) = kv := by
    intro kv h
    obtain ⟨y, _, rfl⟩ := List.mem_map.mp h
    split <;> rfl
  rw [List.map_congr_left this, List.map_id']
theorem dk_put (a : List Str) (x : Str) : dPut (dk a) (.inr x) (.bl true) = dk (if x ∈ a then a else a ++ [x]) := by
  unfold dPut
  rw [dk_any]
  by_cases h : x ∈ a
  · rw [if_pos h, if_pos (decide_eq_true h), dk_map]
  · rw [if_neg h, if_neg (by simp [h])]
    simp [dk]
theorem dk_merge : ∀ (b a : List Str), dMerge (dk a) (dk b) = dk (mg a b)
  | [], a => rfl
  | x :: b, a => by
    have e : dMerge (dk a) (dk (x :: b)) = dMerge (dPut (dk a) (.inr x) (.bl true)) (dk b) := rfl
    rw [e, dk_put, dk_merge b]
    rfl
theorem dk_drop (a : List Str) (x : Str) : dDrop (dk a) (.inr x) = dk (a.filter fun y => decide (y ≠ x)) := by
  unfold dDrop dk
  rw [List.filter_map]
  congr 1
  refine List.filter_congr fun y _ => ?_
  simp
theorem dk_len (a : List Str) : (dk a).length = a.length := List.length_map _
theorem mg_mem : ∀ (b a : List Str) (x : Str), x ∈ mg a b ↔ x ∈ a ∨ x ∈ b
  | [], a, x => by simp [mg]
  | y :: b, a, x => by
    have e : mg a (y :: b) = mg (if y ∈ a then a else a ++ [y]) b := rfl
    rw [e, mg_mem b]
    by_cases h : y ∈ a
    · rw [if_pos h, List.mem_cons]
      constructor
      · rintro (z | z)
        · exact .inl z
        · exact .inr (.inr z)
      · rintro (z | rfl | z)
        · exact .inl z
        · exact .inl h
        · exact .inr z
    · rw [if_neg h, List.mem_append, List.mem_singleton, List.mem_cons, or_assoc]
theorem mg_nodup : ∀ (b a : List Str), a.Nodup → (mg a b).Nodup
  | [], a, h => h
  | y :: b, a, h => by
    have e : mg a (y :: b) = mg (if y ∈ a then a else a ++ [y]) b := rfl
    rw [e]
    refine mg_nodup b _ ?_
    split
    · exact h
    · rename_i n
      rw [List.nodup_append]
      refine ⟨h, by simp, fun u hu v hv => ?_⟩
      rw [List.mem_singleton] at hv
      subst hv
      exact fun z => n (z ▸ hu)
theorem mg_len : ∀ (b a : List Str), (mg a b).length ≤ a.length + b.length
  | [], a => Nat.le_refl _
  | y :: b, a => by
    have e : mg a (y :: b) = mg (if y ∈ a then a else a ++ [y]) b := rfl
    rw [e]
    refine Nat.le_trans (mg_len b _) ?_
    split <;> simp <;> omega
theorem binds_run (k : Nat) (h : Str) (o : Option Str) (ks : List D) (m : Nat) (H : List D) (hd : Hd h o) : runF T (k + 1) 2 [nodeD h o ks, .int (m : Int)] H = .ok (.bl (o.isSome && decide ((m : Int) = 1)), H) := by
  have h2 := hd.2
  rw [runF]
  cases o with
  | none =>
    have h2 : isBind h = false := h2
    simp [sSeq, sNil, sIf, sRet, sAsg, Kr.finish, o2, oV, oSlot, oOb, oOwn, bnd, Kr.ret, opt, dVar, dC, qVal, qTru, qNot, qAnd, qOr, dTup, aCons, aNil, dLst, dIf, dAnd, dOr, dNot, dB, oCons, oNil, derefL, deref, dCall, bName, bTup, bsCons, bsNil, dSl, dPart, sOwn, sRetOwn, sMV, sMO, sSet, sPop2, sPar, sObj, sPutO, sFor, iAnyD, iRng1D, iRng2D, iEnumD, itemsD, dComp, wipeD, sExpr, dIsi, bd, truD, gTuple, gList, gLen, gInt, dSorts, gSorted2, gSorts, dRev, gRev, gAdd, Kr.gSub, gIsN, gNotN, gLt, gLe, gGt, gGe, gAbs, mAppend, mExtend, mUpdate, toKey, sl0, sl1, sl2, sl3, sl4, sl5, sl6, sl7, sl8, sl11, T, F2, B2, node_ix0, inBind, h2]
  | some x =>
    have h2 : isBind h = true := h2
    simp [sSeq, sNil, sIf, sRet, sAsg, Kr.finish, o2, oV, oSlot, oOb, oOwn, bnd, Kr.ret, opt, dVar, dC, qVal, qTru, qNot, qAnd, qOr, dTup, aCons, aNil, dLst, dIf, dAnd, dOr, dNot, dB, oCons, oNil, derefL, deref, dCall, bName, bTup, bsCons, bsNil, dSl, dPart, sOwn, sRetOwn, sMV, sMO, sSet, sPop2, sPar, sObj, sPutO, sFor, iAnyD, iRng1D, iRng2D, iEnumD, itemsD, dComp, wipeD, sExpr, dIsi, bd, truD, gTuple, gList, gLen, gInt, dSorts, gSorted2, gSorts, dRev, gRev, gAdd, Kr.gSub, gIsN, gNotN, gLt, gLe, gGt, gGe, gAbs, mAppend, mExtend, mUpdate, toKey, sl0, sl1, sl2, sl3, sl4, sl5, sl6, sl7, sl8, sl11, T, F2, B2, node_ix0, inBind, h2, eqI]
theorem free_run : ∀ (n : Nat) (e : E) (k : Nat) (H : List D), Wf n e → e.cnt ≤ 10000 → n + 1 ≤ k → ∃ fs : List Str, fs.Nodup ∧ fs.length ≤ e.cnt ∧ (∀ x, x ∈ fs ↔ Fr e x) ∧ runF T k 4 [e.toD] H = .ok (.dic (dk fs), H)
  | 0, e, k, H, w, _, _ => nomatch w
  | n + 1, e, k, H, w, hc, hk => by
    obtain ⟨k, rfl⟩ : ∃ k', k = k' + 2 := ⟨k - 2, by omega⟩
    have hp := parts_run k e H w
    cases w with
    | name n x =>
      refine ⟨[x], by simp, by simp [E.cnt], fun y => ⟨fun h => ?_, fun h => ?_⟩, ?_⟩
      · rw [List.mem_singleton] at h; subst h; exact .name _
      · cases h; simp
      · rw [E.toD, runF]
        simp [sSeq, sNil, sIf, sRet, sAsg, Kr.finish, o2, oV, oSlot, oOb, oOwn, bnd, Kr.ret, opt, dVar, dC, qVal, qTru, qNot, qAnd, qOr, dTup, aCons, aNil, dLst, dIf, dAnd, dOr, dNot, dB, oCons, oNil, derefL, deref, dCall, bName, bTup, bsCons, bsNil, dSl, dPart, sOwn, sRetOwn, sMV, sMO, sSet, sPop2, sPar, sObj, sPutO, sFor, iAnyD, iRng1D, iRng2D, iEnumD, itemsD, dComp, wipeD, sExpr, dIsi, bd, truD, gTuple, gList, gLen, gInt, dSorts, gSorted2, gSorts, dRev, gRev, gAdd, Kr.gSub, gIsN, gNotN, gLt, gLe, gGt, gGe, gAbs, mAppend, mExtend, mUpdate, toKey, sl0, sl1, sl2, sl3, sl4, sl5, sl6, sl7, sl8, sl11, T, F4, B4, ix0, ix1, eqS, dDisp, psCons, psNil, dMerge, dPut, dk]
    | text n ws hw =>
      refine ⟨[], List.nodup_nil, Nat.zero_le _, fun y => ⟨fun h => (by cases h), fun h => (by cases h)⟩, ?_⟩
      rw [E.toD] at hp ⊢
      rw [runF]
      have hn : decide (Str.ofString "text" = Str.ofString "name") = false := by decide
      have hL : L4_1 (runF T (k + 1)) ⟨[some (.tup [.str "text", .tup (ws.map .str)]), some (.dic []), none, none, none], H⟩ = .ok (.nx, ⟨[some (.tup [.str "text", .tup (ws.map .str)]), some (.dic []), none, none, none], H⟩) := by
        simp [sSeq, sNil, sIf, sRet, sAsg, Kr.finish, o2, oV, oSlot, oOb, oOwn, bnd, Kr.ret, opt, dVar, dC, qVal, qTru, qNot, qAnd, qOr, dTup, aCons, aNil, dLst, dIf, dAnd, dOr, dNot, dB, oCons, oNil, derefL, deref, dCall, bName, bTup, bsCons, bsNil, dSl, dPart, sOwn, sRetOwn, sMV, sMO, sSet, sPop2, sPar, sObj, sPutO, sFor, iAnyD, iRng1D, iRng2D, iEnumD, itemsD, dComp, wipeD, sExpr, dIsi, bd, truD, gTuple, gList, gLen, gInt, dSorts, gSorted2, gSorts, dRev, gRev, gAdd, Kr.gSub, gIsN, gNotN, gLt, gLe, gGt, gGe, gAbs, mAppend, mExtend, mUpdate, toKey, sl0, sl1, sl2, sl3, sl4, sl5, sl6, sl7, sl8, sl11, L4_1, hp, E.kids, enumL, fLoop]
      simp only [sSeq, sNil, sIf, sRet, sAsg, Kr.finish, o2, oV, oSlot, oOb, oOwn, bnd, Kr.ret, opt, dVar, dC, qVal, qTru, qNot, qAnd, qOr, dTup, aCons, aNil, dLst, dIf, dAnd, dOr, dNot, dB, oCons, oNil, derefL, deref, dCall, bName, bTup, bsCons, bsNil, dSl, dPart, sOwn, sRetOwn, sMV, sMO, sSet, sPop2, sPar, sObj, sPutO, sFor, iAnyD, iRng1D, iRng2D, iEnumD, itemsD, dComp, wipeD, sExpr, dIsi, bd, truD, gTuple, gList, gLen, gInt, dSorts, gSorted2, gSorts, dRev, gRev, gAdd, Kr.gSub, gIsN, gNotN, gLt, gLe, gGt, gGe, gAbs, mAppend, mExtend, mUpdate, toKey, sl0, sl1, sl2, sl3, sl4, sl5, sl6, sl7, sl8, sl11, T, F4, B4]
      simp [sSeq, sNil, sIf, sRet, sAsg, Kr.finish, o2, oV, oSlot, oOb, oOwn, bnd, Kr.ret, opt, dVar, dC, qVal, qTru, qNot, qAnd, qOr, dTup, aCons, aNil, dLst, dIf, dAnd, dOr, dNot, dB, oCons, oNil, derefL, deref, dCall, bName, bTup, bsCons, bsNil, dSl, dPart, sOwn, sRetOwn, sMV, sMO, sSet, sPop2, sPar, sObj, sPutO, sFor, iAnyD, iRng1D, iRng2D, iEnumD, itemsD, dComp, wipeD, sExpr, dIsi, bd, truD, gTuple, gList, gLen, gInt, dSorts, gSorted2, gSorts, dRev, gRev, gAdd, Kr.gSub, gIsN, gNotN, gLt, gLe, gGt, gGe, gAbs, mAppend, mExtend, mUpdate, toKey, sl0, sl1, sl2, sl3, sl4, sl5, sl6, sl7, sl8, sl11, ix0, eqS, hn, hL, dk]
    | node n h o ks hd hl hks =>
      rw [toD_node] at hp ⊢
      simp only [E.kids] at hp
      have hcs : ∀ x ∈ ks, x.cnt ≤ (E.node h o ks).cnt := cnt_kid (.node h o ks)
      have loop : ∀ (js : List E) (m : Nat) (fs : List Str) (a b c : Option D), ks.drop m = js → fs.Nodup → fs.length + (js.map E.cnt).sum ≤ 10000 → ∃ fs' a' b' c', fs'.Nodup ∧ fs'.length ≤ fs.length + (js.map E.cnt).sum ∧
          (∀ x, x ∈ fs' ↔ x ∈ fs ∨ ∃ (i : Nat) (k : E), js[i]? = some k ∧ Fr k x ∧ ¬ (o = some x ∧ m + i = 1)) ∧
          fLoop (bTup 2 (bsCons (bName 2) (bsCons (bName 3) bsNil))) (Y4_0 (runF T (k + 1))) (enumL m (js.map E.toD)) ⟨[some (nodeD h o (ks.map E.toD)), some (.dic (dk fs)), a, b, c], H⟩ = .ok (.nx, ⟨[some (nodeD h o (ks.map E.toD)), some (.dic (dk fs')), a', b', c'], H⟩) := by
        intro js
        induction js with
        | nil => intro m fs a b c _ nd _; exact ⟨fs, a, b, c, nd, by simp, fun x => by simp, rfl⟩
        | cons x js ih =>
          intro m fs a b c hdr nd hsz
          have hm : m < ks.length := by
            by_cases h : m < ks.length
            · exact h
            · rw [List.drop_eq_nil_of_le (by omega)] at hdr; cases hdr
          have hx0 := List.drop_eq_getElem_cons hm
          rw [hdr] at hx0
          have hxe : ks[m] = x := (List.cons.inj hx0).1.symm
          have hde : ks.drop (m + 1) = js := (List.cons.inj hx0).2.symm
          have hx : x ∈ ks := by rw [← hxe]; exact List.getElem_mem hm
          have cx := hcs x hx
          obtain ⟨gs, gnd, gl, gm, hr⟩ := free_run n x (k + 1) H (hks x hx) (by omega) (by omega)
          rw [List.map_cons, List.sum_cons] at hsz
          -- the names that stay
          obtain ⟨qs, qnd, ql, qm, hpop⟩ : ∃ qs : List Str, qs.Nodup ∧ qs.length ≤ gs.length ∧ (∀ y, y ∈ qs ↔ y ∈ gs ∧ ¬ (o = some y ∧ m = 1)) ∧
              (sIf (qVal (dCall (runF T (k + 1)) 2 (aCons (dVar 0) (aCons (dVar 2) aNil)))) (sPop2 4 (o2 gIx (oV (dVar 0)) (oV (dC (.int 1)))) (dC .non)) sNil) ⟨[some (nodeD h o (ks.map E.toD)), some (.dic (dk fs)), some (.int (m : Int)), some x.toD, some (.dic (dk gs))], H⟩ =
                .ok (.nx, ⟨[some (nodeD h o (ks.map E.toD)), some (.dic (dk fs)), some (.int (m : Int)), some x.toD, some (.dic (dk qs))], H⟩) := by
            have hb := binds_run k h o (ks.map E.toD) m H hd
            cases o with
            | none => exact ⟨gs, gnd, Nat.le_refl _, fun y => by simp, by simp [sSeq, sNil, sIf, sRet, sAsg, Kr.finish, o2, oV, oSlot, oOb, oOwn, bnd, Kr.ret, opt, dVar, dC, qVal, qTru, qNot, qAnd, qOr, dTup, aCons, aNil, dLst, dIf, dAnd, dOr, dNot, dB, oCons, oNil, derefL, deref, dCall, bName, bTup, bsCons, bsNil, dSl, dPart, sOwn, sRetOwn, sMV, sMO, sSet, sPop2, sPar, sObj, sPutO, sFor, iAnyD, iRng1D, iRng2D, iEnumD, itemsD, dComp, wipeD, sExpr, dIsi, bd, truD, gTuple, gList, gLen, gInt, dSorts, gSorted2, gSorts, dRev, gRev, gAdd, Kr.gSub, gIsN, gNotN, gLt, gLe, gGt, gGe, gAbs, mAppend, mExtend, mUpdate, toKey, sl0, sl1, sl2, sl3, sl4, sl5, sl6, sl7, sl8, sl11, hb]⟩
            | some z =>
              by_cases h1 : m = 1
              · subst h1
                refine ⟨gs.filter fun y => decide (y ≠ z), gnd.filter _, List.length_filter_le .., fun y => ?_, ?_⟩
                · rw [List.mem_filter]
                  simp
                  exact fun _ => ⟨fun a b => a b.symm, fun a b => a b.symm⟩
                · have hb' : runF T (k + 1) 2 [nodeD h (some z) (ks.map E.toD), .int (1 : Int)] H = .ok (.bl true, H) := hb
                  simp [sSeq, sNil, sIf, sRet, sAsg, Kr.finish, o2, oV, oSlot, oOb, oOwn, bnd, Kr.ret, opt, dVar, dC, qVal, qTru, qNot, qAnd, qOr, dTup, aCons, aNil, dLst, dIf, dAnd, dOr, dNot, dB, oCons, oNil, derefL, deref, dCall, bName, bTup, bsCons, bsNil, dSl, dPart, sOwn, sRetOwn, sMV, sMO, sSet, sPop2, sPar, sObj, sPutO, sFor, iAnyD, iRng1D, iRng2D, iEnumD, itemsD, dComp, wipeD, sExpr, dIsi, bd, truD, gTuple, gList, gLen, gInt, dSorts, gSorted2, gSorts, dRev, gRev, gAdd, Kr.gSub, gIsN, gNotN, gLt, gLe, gGt, gGe, gAbs, mAppend, mExtend, mUpdate, toKey, sl0, sl1, sl2, sl3, sl4, sl5, sl6, sl7, sl8, sl11, hb', node_ix1, dk_drop]
              · have hb' : runF T (k + 1) 2 [nodeD h (some z) (ks.map E.toD), .int (m : Int)] H = .ok (.bl false, H) := by
                  rw [hb]
                  have : ¬ ((m : Int) = 1) := by omega
                  simp [this]
                exact ⟨gs, gnd, Nat.le_refl _, fun y => by simp [h1], by simp [sSeq, sNil, sIf, sRet, sAsg, Kr.finish, o2, oV, oSlot, oOb, oOwn, bnd, Kr.ret, opt, dVar, dC, qVal, qTru, qNot, qAnd, qOr, dTup, aCons, aNil, dLst, dIf, dAnd, dOr, dNot, dB, oCons, oNil, derefL, deref, dCall, bName, bTup, bsCons, bsNil, dSl, dPart, sOwn, sRetOwn, sMV, sMO, sSet, sPop2, sPar, sObj, sPutO, sFor, iAnyD, iRng1D, iRng2D, iEnumD, itemsD, dComp, wipeD, sExpr, dIsi, bd, truD, gTuple, gList, gLen, gInt, dSorts, gSorted2, gSorts, dRev, gRev, gAdd, Kr.gSub, gIsN, gNotN, gLt, gLe, gGt, gGe, gAbs, mAppend, mExtend, mUpdate, toKey, sl0, sl1, sl2, sl3, sl4, sl5, sl6, sl7, sl8, sl11, hb']⟩
          have hz : (dk fs).length + (dk qs).length ≤ sizeLine := sl _ (by rw [dk_len, dk_len]; omega)
          have hb : bTup 2 (bsCons (bName 2) (bsCons (bName 3) bsNil)) (.tup [.int (m : Int), x.toD]) ⟨[some (nodeD h o (ks.map E.toD)), some (.dic (dk fs)), a, b, c], H⟩ = .ok ⟨[some (nodeD h o (ks.map E.toD)), some (.dic (dk fs)), some (.int (m : Int)), some x.toD, c], H⟩ := by simp [sSeq, sNil, sIf, sRet, sAsg, Kr.finish, o2, oV, oSlot, oOb, oOwn, bnd, Kr.ret, opt, dVar, dC, qVal, qTru, qNot, qAnd, qOr, dTup, aCons, aNil, dLst, dIf, dAnd, dOr, dNot, dB, oCons, oNil, derefL, deref, dCall, bName, bTup, bsCons, bsNil, dSl, dPart, sOwn, sRetOwn, sMV, sMO, sSet, sPop2, sPar, sObj, sPutO, sFor, iAnyD, iRng1D, iRng2D, iEnumD, itemsD, dComp, wipeD, sExpr, dIsi, bd, truD, gTuple, gList, gLen, gInt, dSorts, gSorted2, gSorts, dRev, gRev, gAdd, Kr.gSub, gIsN, gNotN, gLt, gLe, gGt, gGe, gAbs, mAppend, mExtend, mUpdate, toKey, sl0, sl1, sl2, sl3, sl4, sl5, sl6, sl7, sl8, sl11]
          have hY : Y4_0 (runF T (k + 1)) ⟨[some (nodeD h o (ks.map E.toD)), some (.dic (dk fs)), some (.int (m : Int)), some x.toD, c], H⟩ = .ok (.nx, ⟨[some (nodeD h o (ks.map E.toD)), some (.dic (dk (mg fs qs))), some (.int (m : Int)), some x.toD, some (.dic (dk qs))], H⟩) := by
            have h0 : sOwn 4 (dCall (runF T (k + 1)) 4 (aCons (dVar 3) aNil)) ⟨[some (nodeD h o (ks.map E.toD)), some (.dic (dk fs)), some (.int (m : Int)), some x.toD, c], H⟩ = .ok (.nx, ⟨[some (nodeD h o (ks.map E.toD)), some (.dic (dk fs)), some (.int (m : Int)), some x.toD, some (.dic (dk gs))], H⟩) := by
              simp [sSeq, sNil, sIf, sRet, sAsg, Kr.finish, o2, oV, oSlot, oOb, oOwn, bnd, Kr.ret, opt, dVar, dC, qVal, qTru, qNot, qAnd, qOr, dTup, aCons, aNil, dLst, dIf, dAnd, dOr, dNot, dB, oCons, oNil, derefL, deref, dCall, bName, bTup, bsCons, bsNil, dSl, dPart, sOwn, sRetOwn, sMV, sMO, sSet, sPop2, sPar, sObj, sPutO, sFor, iAnyD, iRng1D, iRng2D, iEnumD, itemsD, dComp, wipeD, sExpr, dIsi, bd, truD, gTuple, gList, gLen, gInt, dSorts, gSorted2, gSorts, dRev, gRev, gAdd, Kr.gSub, gIsN, gNotN, gLt, gLe, gGt, gGe, gAbs, mAppend, mExtend, mUpdate, toKey, sl0, sl1, sl2, sl3, sl4, sl5, sl6, sl7, sl8, sl11, hr]
            unfold Y4_0 sSeq
            rw [h0]
            dsimp only
            rw [hpop]
            simp [sSeq, sNil, sIf, sRet, sAsg, Kr.finish, o2, oV, oSlot, oOb, oOwn, bnd, Kr.ret, opt, dVar, dC, qVal, qTru, qNot, qAnd, qOr, dTup, aCons, aNil, dLst, dIf, dAnd, dOr, dNot, dB, oCons, oNil, derefL, deref, dCall, bName, bTup, bsCons, bsNil, dSl, dPart, sOwn, sRetOwn, sMV, sMO, sSet, sPop2, sPar, sObj, sPutO, sFor, iAnyD, iRng1D, iRng2D, iEnumD, itemsD, dComp, wipeD, sExpr, dIsi, bd, truD, gTuple, gList, gLen, gInt, dSorts, gSorted2, gSorts, dRev, gRev, gAdd, Kr.gSub, gIsN, gNotN, gLt, gLe, gGt, gGe, gAbs, mAppend, mExtend, mUpdate, toKey, sl0, sl1, sl2, sl3, sl4, sl5, sl6, sl7, sl8, sl11, hz, dk_merge]
          obtain ⟨fs', a', b', c', g1, g2, g3, g4⟩ := ih (m + 1) (mg fs qs) (some (.int (m : Int))) (some x.toD) (some (.dic (dk qs))) hde (mg_nodup qs fs nd) (by have := mg_len qs fs; omega)
          refine ⟨fs', a', b', c', g1, by have := mg_len qs fs; rw [List.map_cons, List.sum_cons]; omega, fun y => ?_, ?_⟩
          · rw [g3, mg_mem, qm, gm]
            constructor
            · rintro ((z | ⟨z1, z2⟩) | ⟨i, k', z1, z2, z3⟩)
              · exact .inl z
              · exact .inr ⟨0, x, rfl, z1, z2⟩
              · exact .inr ⟨i + 1, k', z1, z2, by rw [show m + (i + 1) = m + 1 + i by omega]; exact z3⟩
            · rintro (z | ⟨i, k', z1, z2, z3⟩)
              · exact .inl (.inl z)
              · cases i with
                | zero => cases z1; exact .inl (.inr ⟨z2, z3⟩)
                | succ i => exact .inr ⟨i, k', z1, z2, by rw [show m + 1 + i = m + (i + 1) by omega]; exact z3⟩
          · rw [List.map_cons, enumL, fLoop, hb]
            dsimp only
            rw [hY]
            exact g4
      have hcnt : (ks.map E.cnt).sum + 1 = (E.node h o ks).cnt := by simp only [E.cnt]; omega
      obtain ⟨fs, a', b', c', g1, g2, g3, g4⟩ := loop ks 0 [] none none none rfl List.nodup_nil (by simp; omega)
      have hne : decide (h = Str.ofString "name") = false := by
        by_cases z : h = Str.ofString "name"
        · have := hd.1
          rw [z, leaf_name] at this; cases this
        · simp [z]
      have hL : L4_1 (runF T (k + 1)) ⟨[some (nodeD h o (ks.map E.toD)), some (.dic []), none, none, none], H⟩ = .ok (.nx, ⟨[some (nodeD h o (ks.map E.toD)), some (.dic (dk fs)), a', b', c'], H⟩) := by
        unfold L4_1 sFor
        have hi : (iEnumD (dCall (runF T (k + 1)) 0 (aCons (dVar 0) aNil))) ⟨[some (nodeD h o (ks.map E.toD)), some (.dic []), none, none, none], H⟩ = .ok (enumL 0 (ks.map E.toD), H) := by simp [sSeq, sNil, sIf, sRet, sAsg, Kr.finish, o2, oV, oSlot, oOb, oOwn, bnd, Kr.ret, opt, dVar, dC, qVal, qTru, qNot, qAnd, qOr, dTup, aCons, aNil, dLst, dIf, dAnd, dOr, dNot, dB, oCons, oNil, derefL, deref, dCall, bName, bTup, bsCons, bsNil, dSl, dPart, sOwn, sRetOwn, sMV, sMO, sSet, sPop2, sPar, sObj, sPutO, sFor, iAnyD, iRng1D, iRng2D, iEnumD, itemsD, dComp, wipeD, sExpr, dIsi, bd, truD, gTuple, gList, gLen, gInt, dSorts, gSorted2, gSorts, dRev, gRev, gAdd, Kr.gSub, gIsN, gNotN, gLt, gLe, gGt, gGe, gAbs, mAppend, mExtend, mUpdate, toKey, sl0, sl1, sl2, sl3, sl4, sl5, sl6, sl7, sl8, sl11, hp]
        rw [hi]
        exact g4
      refine ⟨fs, g1, by simp at g2; omega, fun x => ?_, ?_⟩
      · rw [g3, fr_node]; simp
      · rw [runF]
        simp [sSeq, sNil, sIf, sRet, sAsg, Kr.finish, o2, oV, oSlot, oOb, oOwn, bnd, Kr.ret, opt, dVar, dC, qVal, qTru, qNot, qAnd, qOr, dTup, aCons, aNil, dLst, dIf, dAnd, dOr, dNot, dB, oCons, oNil, derefL, deref, dCall, bName, bTup, bsCons, bsNil, dSl, dPart, sOwn, sRetOwn, sMV, sMO, sSet, sPop2, sPar, sObj, sPutO, sFor, iAnyD, iRng1D, iRng2D, iEnumD, itemsD, dComp, wipeD, sExpr, dIsi, bd, truD, gTuple, gList, gLen, gInt, dSorts, gSorted2, gSorts, dRev, gRev, gAdd, Kr.gSub, gIsN, gNotN, gLt, gLe, gGt, gGe, gAbs, mAppend, mExtend, mUpdate, toKey, sl0, sl1, sl2, sl3, sl4, sl5, sl6, sl7, sl8, sl11, T, F4, B4, node_ix0, eqS, hne, hL]
end Gk03

namespace Gk03
open PySem Kr
open L2 (Key)

/-! ### the law's free names -/
theorem inner_mem (o : Option Str) (i : Nat) (kn : List Str) (x : Str) : x ∈ inner o i kn ↔ x ∈ kn ∨ (o = some x ∧ i = 1) := by
  unfold inner
  cases o with
  | none => simp
  | some y =>
    dsimp only
    split
    · rename_i h
      have h1 : i = 1 := by omega
      rw [List.mem_append, List.mem_singleton]
      constructor
      · rintro (z | rfl)
        · exact .inl z
        · exact .inr ⟨rfl, h1⟩
      · rintro (z | ⟨z, _⟩)
        · exact .inl z
        · cases z; exact .inr rfl
    · rename_i h
      have h1 : ¬ i = 1 := by omega
      simp [h1]
theorem rows_free : ∀ (n : Nat) (e : E) (p : List Int) (kn : List Str) (x : Str), Wf n e → ((∃ r ∈ e.rows p kn, r.one = .name x ∧ x ∉ r.kn) ↔ Fr e x ∧ x ∉ kn)
  | 0, e, _, _, _, w => nomatch w
  | n + 1, e, p, kn, x, w => by
    constructor
    · rintro ⟨r, hr, h1, h2⟩
      rcases (mem_rows e p kn r).mp hr with rfl | ⟨i, k, hk, hr⟩
      · dsimp only at h1 h2
        subst h1
        exact ⟨.name x, h2⟩
      · obtain ⟨f1, f2⟩ := (rows_free n k _ _ x (w.kid k (List.mem_of_getElem? hk))).mp ⟨r, hr, h1, h2⟩
        rw [inner_mem] at f2
        cases e with
        | text ws => cases hk
        | name y => cases hk
        | node h o ks => exact ⟨(fr_node h o ks x).mpr ⟨i, k, hk, f1, fun z => f2 (.inr z)⟩, fun z => f2 (.inl z)⟩
    · rintro ⟨f1, f2⟩
      cases f1 with
      | name _ => exact ⟨⟨p, .name x, kn⟩, (mem_rows _ p kn _).mpr (.inl rfl), rfl, f2⟩
      | kid h o ks i k _ hk fk hn =>
        obtain ⟨r, hr, h1, h2⟩ := (rows_free n k (p ++ [(i : Int)]) (inner o i kn) x (w.kid k (List.mem_of_getElem? hk))).mpr ⟨fk, by
          rw [inner_mem]
          rintro (z | z)
          · exact f2 z
          · exact hn z⟩
        exact ⟨r, (mem_rows _ p kn r).mpr (.inr ⟨i, k, hk, hr⟩), h1, h2⟩
def fName (r : Rw) : Option Str := match r.one with
  | .name x => if x ∈ r.kn then none else some x
  | _ => none
theorem fName_mem (rs : List Rw) (x : Str) : x ∈ rs.filterMap fName ↔ ∃ r ∈ rs, r.one = .name x ∧ x ∉ r.kn := by
  rw [List.mem_filterMap]
  constructor
  · rintro ⟨r, hr, h⟩
    refine ⟨r, hr, ?_⟩
    unfold fName at h
    split at h
    · rename_i y hy
      split at h
      · cases h
      · rename_i hn; cases h; exact ⟨hy, hn⟩
    · cases h
  · rintro ⟨r, hr, h1, h2⟩
    refine ⟨r, hr, ?_⟩
    unfold fName
    rw [h1]
    dsimp only
    rw [if_neg h2]
theorem sort_perm {a b : List Str} (h : a.Perm b) : sortS a = sortS b := sortS_eq ((sortS_perm a).trans h) (sortS_pw a)
theorem notIn_known (x : Str) (kn : List Str) : gNotIn (.str x) (strsD kn) = some (.bl (!decide (x ∈ kn))) := by
  have h1 : (kn.map D.str).all flatD = true := by simp [flatD]
  have h2 : ((kn.map D.str).any fun y => eqF y (.str x)) = decide (x ∈ kn) := by
    induction kn with
    | nil => simp
    | cons y kn ih =>
      have ih := ih (by simp [flatD])
      rw [List.map_cons, List.any_cons, ih]
      simp only [eqF, List.mem_cons, Bool.decide_or]
      by_cases hxy : x = y
      · subst hxy; simp
      · have hyx : ¬ y = x := fun z => hxy z.symm
        simp [hxy, hyx]
  unfold gNotIn inD strsD
  dsimp only
  rw [h2]
  simp [bd, flatD, h1]
theorem lfree_run {n : Nat} (e : E) (k : Nat) (H : List D) (w : Wf n e) (hn : n ≤ 1000) (hc : e.cnt ≤ 4000) (hk : n + 2 ≤ k) :
    runF T k 21 [e.toD] H = .ok (.tup ((sortS (metS [] ((e.rows [] []).filterMap fName))).map .str), H) := by
  obtain ⟨k, rfl⟩ : ∃ k', k = k' + 1 := ⟨k - 1, by omega⟩
  have hr := rows_run n e [] [] k H w hn (by omega) (by simp; omega) (by simp; omega) (by omega)
  have hlen := rows_len n e [] [] w
  have hC : C21_0 (runF T k) ⟨[some e.toD, none, none, none], H⟩ = .ok (.lst (((e.rows [] []).filterMap fName).map .str), H) := by
    have e1 : ((e.rows [] []).filterMap fName).map D.str = (e.rows [] []).filterMap fun r => (fName r).map D.str := by
      rw [List.map_filterMap]
    rw [e1]
    refine dComp_fm rowD _ _ ?_ fun r hr' => ?_
    · have hr2 := hr
      simp only [pathD, strsD, List.map_nil] at hr2
      simp [sSeq, sNil, sIf, sRet, sAsg, Kr.finish, o2, oV, oSlot, oOb, oOwn, bnd, Kr.ret, opt, dVar, dC, qVal, qTru, qNot, qAnd, qOr, dTup, aCons, aNil, dLst, dIf, dAnd, dOr, dNot, dB, oCons, oNil, derefL, deref, dCall, bName, bTup, bsCons, bsNil, dSl, dPart, sOwn, sRetOwn, sMV, sMO, sSet, sPop2, sPar, sObj, sPutO, sFor, iAnyD, iRng1D, iRng2D, iEnumD, itemsD, dComp, wipeD, sExpr, dIsi, bd, truD, gTuple, gList, gLen, gInt, dSorts, gSorted2, gSorts, dRev, gRev, gAdd, Kr.gSub, gIsN, gNotN, gLt, gLe, gGt, gGe, gAbs, mAppend, mExtend, mUpdate, toKey, sl0, sl1, sl2, sl3, sl4, sl5, sl6, sl7, sl8, sl11, hr2]
    · obtain ⟨p, one, kn⟩ := r
      cases one with
      | name x =>
        have hb : (Str.ofString "name" == Str.ofString "name") = true := by decide
        have hni := notIn_known x kn
        have hs : decide (x ∈ kn) = true ∨ decide (x ∈ kn) = false := by cases decide (x ∈ kn) <;> simp
        by_cases hx : x ∈ kn
        · have f : fName ⟨p, .name x, kn⟩ = none := by simp [fName, hx]
          rw [f]
          simp [sSeq, sNil, sIf, sRet, sAsg, Kr.finish, o2, oV, oSlot, oOb, oOwn, bnd, Kr.ret, opt, dVar, dC, qVal, qTru, qNot, qAnd, qOr, dTup, aCons, aNil, dLst, dIf, dAnd, dOr, dNot, dB, oCons, oNil, derefL, deref, dCall, bName, bTup, bsCons, bsNil, dSl, dPart, sOwn, sRetOwn, sMV, sMO, sSet, sPop2, sPar, sObj, sPutO, sFor, iAnyD, iRng1D, iRng2D, iEnumD, itemsD, dComp, wipeD, sExpr, dIsi, bd, truD, gTuple, gList, gLen, gInt, dSorts, gSorted2, gSorts, dRev, gRev, gAdd, Kr.gSub, gIsN, gNotN, gLt, gLe, gGt, gGe, gAbs, mAppend, mExtend, mUpdate, toKey, sl0, sl1, sl2, sl3, sl4, sl5, sl6, sl7, sl8, sl11, cEl, rowD, E.toD, ix0, ix1, eqS, hni, hx, -gNotIn]
        · have f : fName ⟨p, .name x, kn⟩ = some x := by simp [fName, hx]
          rw [f]
          simp [sSeq, sNil, sIf, sRet, sAsg, Kr.finish, o2, oV, oSlot, oOb, oOwn, bnd, Kr.ret, opt, dVar, dC, qVal, qTru, qNot, qAnd, qOr, dTup, aCons, aNil, dLst, dIf, dAnd, dOr, dNot, dB, oCons, oNil, derefL, deref, dCall, bName, bTup, bsCons, bsNil, dSl, dPart, sOwn, sRetOwn, sMV, sMO, sSet, sPop2, sPar, sObj, sPutO, sFor, iAnyD, iRng1D, iRng2D, iEnumD, itemsD, dComp, wipeD, sExpr, dIsi, bd, truD, gTuple, gList, gLen, gInt, dSorts, gSorted2, gSorts, dRev, gRev, gAdd, Kr.gSub, gIsN, gNotN, gLt, gLe, gGt, gGe, gAbs, mAppend, mExtend, mUpdate, toKey, sl0, sl1, sl2, sl3, sl4, sl5, sl6, sl7, sl8, sl11, cEl, rowD, E.toD, ix0, ix1, eqS, hni, hx, -gNotIn]
      | text ws =>
        have hb : decide (Str.ofString "text" = Str.ofString "name") = false := by decide
        simp [sSeq, sNil, sIf, sRet, sAsg, Kr.finish, o2, oV, oSlot, oOb, oOwn, bnd, Kr.ret, opt, dVar, dC, qVal, qTru, qNot, qAnd, qOr, dTup, aCons, aNil, dLst, dIf, dAnd, dOr, dNot, dB, oCons, oNil, derefL, deref, dCall, bName, bTup, bsCons, bsNil, dSl, dPart, sOwn, sRetOwn, sMV, sMO, sSet, sPop2, sPar, sObj, sPutO, sFor, iAnyD, iRng1D, iRng2D, iEnumD, itemsD, dComp, wipeD, sExpr, dIsi, bd, truD, gTuple, gList, gLen, gInt, dSorts, gSorted2, gSorts, dRev, gRev, gAdd, Kr.gSub, gIsN, gNotN, gLt, gLe, gGt, gGe, gAbs, mAppend, mExtend, mUpdate, toKey, sl0, sl1, sl2, sl3, sl4, sl5, sl6, sl7, sl8, sl11, cEl, rowD, E.toD, ix0, eqS, hb, fName]
      | node h o ks =>
        have wr := rows_at n e [] [] ⟨p, .node h o ks, kn⟩ w hr'
        obtain ⟨q, _, _, w2, _⟩ := wr
        have hd : Hd h o := by cases w2; assumption
        have hne : decide (h = Str.ofString "name") = false := by
          by_cases z : h = Str.ofString "name"
          · have := hd.1
            rw [z, leaf_name] at this; cases this
          · simp [z]
        simp [sSeq, sNil, sIf, sRet, sAsg, Kr.finish, o2, oV, oSlot, oOb, oOwn, bnd, Kr.ret, opt, dVar, dC, qVal, qTru, qNot, qAnd, qOr, dTup, aCons, aNil, dLst, dIf, dAnd, dOr, dNot, dB, oCons, oNil, derefL, deref, dCall, bName, bTup, bsCons, bsNil, dSl, dPart, sOwn, sRetOwn, sMV, sMO, sSet, sPop2, sPar, sObj, sPutO, sFor, iAnyD, iRng1D, iRng2D, iEnumD, itemsD, dComp, wipeD, sExpr, dIsi, bd, truD, gTuple, gList, gLen, gInt, dSorts, gSorted2, gSorts, dRev, gRev, gAdd, Kr.gSub, gIsN, gNotN, gLt, gLe, gGt, gGe, gAbs, mAppend, mExtend, mUpdate, toKey, sl0, sl1, sl2, sl3, sl4, sl5, sl6, sl7, sl8, sl11, cEl, rowD, toD_node, node_ix0, eqS, hne, fName]
  have hfl : ((e.rows [] []).filterMap fName).length ≤ 4000 := Nat.le_trans (List.length_filterMap_le ..) (by omega)
  have hsc : ((e.rows [] []).filterMap fName).length + 1 < scanBound := by unfold scanBound; omega
  rw [runF]
  simp [sSeq, sNil, sIf, sRet, sAsg, Kr.finish, o2, oV, oSlot, oOb, oOwn, bnd, Kr.ret, opt, dVar, dC, qVal, qTru, qNot, qAnd, qOr, dTup, aCons, aNil, dLst, dIf, dAnd, dOr, dNot, dB, oCons, oNil, derefL, deref, dCall, bName, bTup, bsCons, bsNil, dSl, dPart, sOwn, sRetOwn, sMV, sMO, sSet, sPop2, sPar, sObj, sPutO, sFor, iAnyD, iRng1D, iRng2D, iEnumD, itemsD, dComp, wipeD, sExpr, dIsi, bd, truD, gTuple, gList, gLen, gInt, dSorts, gSorted2, gSorts, dRev, gRev, gAdd, Kr.gSub, gIsN, gNotN, gLt, gLe, gGt, gGe, gAbs, mAppend, mExtend, mUpdate, toKey, sl0, sl1, sl2, sl3, sl4, sl5, sl6, sl7, sl8, sl11, T, F21, B21, hC, asStrs_map, hsc]
theorem names_run {n : Nat} (e : E) (k : Nat) (H : List D) (w : Wf n e) (hc : e.cnt ≤ 10000) (hk : n + 2 ≤ k) :
    ∃ fs : List Str, fs.Nodup ∧ fs.length ≤ e.cnt ∧ (∀ x, x ∈ fs ↔ Fr e x) ∧ runF T k 3 [e.toD] H = .ok (.tup ((sortS fs).map .str), H) := by
  obtain ⟨k, rfl⟩ : ∃ k', k = k' + 1 := ⟨k - 1, by omega⟩
  obtain ⟨fs, h1, h2, h3, h4⟩ := free_run n e k H w hc (by omega)
  refine ⟨fs, h1, h2, h3, ?_⟩
  have hks : keysS (dk fs) = some fs := by
    have : ∀ l : List Str, keysS (dk l) = some l := by
      intro l
      induction l with
      | nil => rfl
      | cons x l ih =>
        show (keysS (dk l)).map (x :: ·) = _
        rw [ih]; rfl
    exact this fs
  rw [runF]
  simp [sSeq, sNil, sIf, sRet, sAsg, Kr.finish, o2, oV, oSlot, oOb, oOwn, bnd, Kr.ret, opt, dVar, dC, qVal, qTru, qNot, qAnd, qOr, dTup, aCons, aNil, dLst, dIf, dAnd, dOr, dNot, dB, oCons, oNil, derefL, deref, dCall, bName, bTup, bsCons, bsNil, dSl, dPart, sOwn, sRetOwn, sMV, sMO, sSet, sPop2, sPar, sObj, sPutO, sFor, iAnyD, iRng1D, iRng2D, iEnumD, itemsD, dComp, wipeD, sExpr, dIsi, bd, truD, gTuple, gList, gLen, gInt, dSorts, gSorted2, gSorts, dRev, gRev, gAdd, Kr.gSub, gIsN, gNotN, gLt, gLe, gGt, gGe, gAbs, mAppend, mExtend, mUpdate, toKey, sl0, sl1, sl2, sl3, sl4, sl5, sl6, sl7, sl8, sl11, T, F3, B3, h4, hks]
/-- both ways give the same tuple of names -/
theorem free_both {n : Nat} (e : E) (k : Nat) (H : List D) (w : Wf n e) (hn : n ≤ 1000) (hc : e.cnt ≤ 4000) (hk : n + 2 ≤ k) :
    ∃ d, Pl 2 d ∧ runF T k 3 [e.toD] H = .ok (d, H) ∧ runF T k 21 [e.toD] H = .ok (d, H) := by
  obtain ⟨fs, h1, h2, h3, h4⟩ := names_run e k H w (by omega) hk
  have h5 := lfree_run e k H w hn hc hk
  refine ⟨_, Pl.strs 0 _ ?_, h4, ?_⟩
  · rw [(sortS_perm fs).length_eq]; omega
  · rw [h5]
    have hp : fs.Perm (metS [] ((e.rows [] []).filterMap fName)) := (List.perm_ext_iff_of_nodup h1 (metS_nodup _ _ List.nodup_nil)).mpr fun x => by
      rw [h3, metS_mem, fName_mem, rows_free n e [] [] x w]
      simp
    rw [sort_perm hp]
end Gk03

namespace Gk03
open PySem Kr
open L2 (Key)

/-! ### the parts turned round -/
theorem Wf.pos {n : Nat} {e : E} (w : Wf n e) : ∃ m, n = m + 1 := by cases w <;> exact ⟨_, rfl⟩
theorem reb1 (k : Nat) (h : Str) (o : Option Str) (ks : List D) (m : Nat) (x d : D) (H : List D) (hd : Hd h o) (hm : ks[m]? = some x) (hl : ks.length ≤ 10000) :
    runF T (k + 2) 22 [nodeD h o ks, .tup [.int (m : Int)], d] H = .ok (nodeD h o (ks.set m d), H) := by
  have hlp := lparts_node k h o ks H hd
  have hix : gIx (.lst ks) (.int (m : Int)) = some x := ixL m _ hm
  have hml : m < ks.length := (List.getElem?_eq_some_iff.mp hm).1
  have hxn : L2.ixN ks.length (m : Int) = some m := ixN_nat hml
  have h0 : runF T (k + 1) 22 [x, .tup [], d] H = .ok (d, H) := by
    rw [runF]
    simp [sSeq, sNil, sIf, sRet, sAsg, Kr.finish, o2, oV, oSlot, oOb, oOwn, bnd, Kr.ret, opt, dVar, dC, qVal, qTru, qNot, qAnd, qOr, dTup, aCons, aNil, dLst, dIf, dAnd, dOr, dNot, dB, oCons, oNil, derefL, deref, dCall, bName, bTup, bsCons, bsNil, dSl, dPart, sOwn, sRetOwn, sMV, sMO, sSet, sPop2, sPar, sObj, sPutO, sFor, iAnyD, iRng1D, iRng2D, iEnumD, itemsD, dComp, wipeD, sExpr, dIsi, bd, truD, gTuple, gList, gLen, gInt, dSorts, gSorted2, gSorts, dRev, gRev, gAdd, Kr.gSub, gIsN, gNotN, gLt, gLe, gGt, gGe, gAbs, mAppend, mExtend, mUpdate, toKey, sl0, sl1, sl2, sl3, sl4, sl5, sl6, sl7, sl8, sl11, T, F22, B22, eqI]
  have z1 : ks.length + 1 ≤ sizeLine := sl _ (by omega)
  have z2 : ks.length + 2 ≤ sizeLine := sl _ (by omega)
  rw [runF]
  cases o with
  | none =>
    have h2 : isBind h = false := hd.2
    simp [sSeq, sNil, sIf, sRet, sAsg, Kr.finish, o2, oV, oSlot, oOb, oOwn, bnd, Kr.ret, opt, dVar, dC, qVal, qTru, qNot, qAnd, qOr, dTup, aCons, aNil, dLst, dIf, dAnd, dOr, dNot, dB, oCons, oNil, derefL, deref, dCall, bName, bTup, bsCons, bsNil, dSl, dPart, sOwn, sRetOwn, sMV, sMO, sSet, sPop2, sPar, sObj, sPutO, sFor, iAnyD, iRng1D, iRng2D, iEnumD, itemsD, dComp, wipeD, sExpr, dIsi, bd, truD, gTuple, gList, gLen, gInt, dSorts, gSorted2, gSorts, dRev, gRev, gAdd, Kr.gSub, gIsN, gNotN, gLt, gLe, gGt, gGe, gAbs, mAppend, mExtend, mUpdate, toKey, sl0, sl1, sl2, sl3, sl4, sl5, sl6, sl7, sl8, sl11, T, F22, B22, eqI, hlp, cut1, ix0, hix, h0, hxn, node_ix0, inBind, h2, node_cut1, Nat.add_comm 1 ks.length, z1]
    simp [nodeD, pre]
  | some y =>
    have h2 : isBind h = true := hd.2
    simp [sSeq, sNil, sIf, sRet, sAsg, Kr.finish, o2, oV, oSlot, oOb, oOwn, bnd, Kr.ret, opt, dVar, dC, qVal, qTru, qNot, qAnd, qOr, dTup, aCons, aNil, dLst, dIf, dAnd, dOr, dNot, dB, oCons, oNil, derefL, deref, dCall, bName, bTup, bsCons, bsNil, dSl, dPart, sOwn, sRetOwn, sMV, sMO, sSet, sPop2, sPar, sObj, sPutO, sFor, iAnyD, iRng1D, iRng2D, iEnumD, itemsD, dComp, wipeD, sExpr, dIsi, bd, truD, gTuple, gList, gLen, gInt, dSorts, gSorted2, gSorts, dRev, gRev, gAdd, Kr.gSub, gIsN, gNotN, gLt, gLe, gGt, gGe, gAbs, mAppend, mExtend, mUpdate, toKey, sl0, sl1, sl2, sl3, sl4, sl5, sl6, sl7, sl8, sl11, T, F22, B22, eqI, hlp, cut1, ix0, hix, h0, hxn, node_ix0, inBind, h2, node_cut2, Nat.add_comm 2 ks.length, z2]
    simp [nodeD, pre]
theorem set_mix {α : Type} (tr ks : List α) (m : Nat) (x : α) (hl : tr.length = ks.length) (hm : tr[m]? = some x) : (tr.take m ++ ks.drop m).set m x = tr.take (m + 1) ++ ks.drop (m + 1) := by
  have h1 : m < tr.length := (List.getElem?_eq_some_iff.mp hm).1
  have h2 : tr[m] = x := (List.getElem?_eq_some_iff.mp hm).2
  have h3 : (tr.take m).length = m := by rw [List.length_take]; omega
  rw [List.set_append_right _ _ (by omega), h3, Nat.sub_self, List.drop_eq_getElem_cons (by omega : m < ks.length), List.set_cons_zero, List.take_succ_eq_append_getElem h1, h2, List.append_assoc]
  rfl
theorem turn_run {n : Nat} (e : E) (k : Nat) (H : List D) (w : Wf n e) (a0 a1 a2 a3 a4 a5 a6 a9 : Option D) :
    ∃ d a9', Pl (n + 4) d ∧ runF T (k + 2) 1 [e.toD, .tup (e.kids.map E.toD).reverse] H = .ok (d, H) ∧
      L23_3 (runF T (k + 2)) ⟨[a0, a1, a2, a3, a4, a5, a6, some (.tup (e.kids.map E.toD).reverse), some e.toD, a9], H⟩ = .ok (.nx, ⟨[a0, a1, a2, a3, a4, a5, a6, some (.tup (e.kids.map E.toD).reverse), some d, a9'], H⟩) := by
  have hpl := w.pl
  cases w with
  | text n ws hw =>
    refine ⟨_, a9, hpl.up (by omega), ?_, ?_⟩
    · rw [E.toD]; exact wparts_leaf (k + 1) _ _ _ H leaf_text
    · simp [sSeq, sNil, sIf, sRet, sAsg, Kr.finish, o2, oV, oSlot, oOb, oOwn, bnd, Kr.ret, opt, dVar, dC, qVal, qTru, qNot, qAnd, qOr, dTup, aCons, aNil, dLst, dIf, dAnd, dOr, dNot, dB, oCons, oNil, derefL, deref, dCall, bName, bTup, bsCons, bsNil, dSl, dPart, sOwn, sRetOwn, sMV, sMO, sSet, sPop2, sPar, sObj, sPutO, sFor, iAnyD, iRng1D, iRng2D, iEnumD, itemsD, dComp, wipeD, sExpr, dIsi, bd, truD, gTuple, gList, gLen, gInt, dSorts, gSorted2, gSorts, dRev, gRev, gAdd, Kr.gSub, gIsN, gNotN, gLt, gLe, gGt, gGe, gAbs, mAppend, mExtend, mUpdate, toKey, sl0, sl1, sl2, sl3, sl4, sl5, sl6, sl7, sl8, sl11, L23_3, E.kids, rng_map, fLoop]
  | name n x =>
    refine ⟨_, a9, hpl.up (by omega), ?_, ?_⟩
    · rw [E.toD]; exact wparts_leaf (k + 1) _ _ _ H leaf_name
    · simp [sSeq, sNil, sIf, sRet, sAsg, Kr.finish, o2, oV, oSlot, oOb, oOwn, bnd, Kr.ret, opt, dVar, dC, qVal, qTru, qNot, qAnd, qOr, dTup, aCons, aNil, dLst, dIf, dAnd, dOr, dNot, dB, oCons, oNil, derefL, deref, dCall, bName, bTup, bsCons, bsNil, dSl, dPart, sOwn, sRetOwn, sMV, sMO, sSet, sPop2, sPar, sObj, sPutO, sFor, iAnyD, iRng1D, iRng2D, iEnumD, itemsD, dComp, wipeD, sExpr, dIsi, bd, truD, gTuple, gList, gLen, gInt, dSorts, gSorted2, gSorts, dRev, gRev, gAdd, Kr.gSub, gIsN, gNotN, gLt, gLe, gGt, gGe, gAbs, mAppend, mExtend, mUpdate, toKey, sl0, sl1, sl2, sl3, sl4, sl5, sl6, sl7, sl8, sl11, L23_3, E.kids, rng_map, fLoop]
  | node n h o ks hd hl hks =>
    simp only [E.kids]
    rw [toD_node]
    obtain ⟨js, hjs⟩ : ∃ js, js = ks.map E.toD := ⟨_, rfl⟩
    have hjl : js.length = ks.length := by rw [hjs, List.length_map]
    rw [← hjs]
    have loop : ∀ (c m : Nat) (a9 : Option D), m + c = js.length → ∃ a9', fLoop (bName 9) (Y23_2 (runF T (k + 2))) ((List.range' m c).map fun (i : Nat) => D.int (i : Int)) ⟨[a0, a1, a2, a3, a4, a5, a6, some (.tup js.reverse), some (nodeD h o (js.reverse.take m ++ js.drop m)), a9], H⟩ =
        .ok (.nx, ⟨[a0, a1, a2, a3, a4, a5, a6, some (.tup js.reverse), some (nodeD h o js.reverse), a9'], H⟩) := by
      intro c
      induction c with
      | zero =>
        intro m a9 hm
        have e1 : js.reverse.take m = js.reverse := List.take_of_length_le (by rw [List.length_reverse]; omega)
        have e2 : js.drop m = [] := List.drop_eq_nil_of_le (by omega)
        rw [e1, e2, List.append_nil]
        exact ⟨a9, rfl⟩
      | succ c ih =>
        intro m a9 hm
        obtain ⟨a9', hh⟩ := ih (m + 1) (some (.int (m : Int))) (by omega)
        have hr : m < js.reverse.length := by rw [List.length_reverse]; omega
        have hmx : (js.reverse.take m ++ js.drop m)[m]? = some js[m] := by
          have h3 : (js.reverse.take m).length = m := by rw [List.length_take]; omega
          rw [List.getElem?_append_right (by omega), h3, Nat.sub_self, List.drop_eq_getElem_cons (by omega : m < js.length)]; rfl
        have hrb := reb1 k h o (js.reverse.take m ++ js.drop m) m js[m] js.reverse[m] H hd hmx (by rw [List.length_append, List.length_take, List.length_drop, List.length_reverse]; omega)
        rw [set_mix js.reverse js m js.reverse[m] (List.length_reverse ..) (List.getElem?_eq_getElem hr)] at hrb
        have hix : gIx (.tup js.reverse) (.int (m : Int)) = some js.reverse[m] := ixT m _ (List.getElem?_eq_getElem hr)
        obtain ⟨yv, hyv⟩ : ∃ y, y = js.reverse[m] := ⟨_, rfl⟩
        rw [← hyv] at hix hrb
        have hY : Y23_2 (runF T (k + 2)) ⟨[a0, a1, a2, a3, a4, a5, a6, some (.tup js.reverse), some (nodeD h o (js.reverse.take m ++ js.drop m)), some (.int (m : Int))], H⟩ = .ok (.nx, ⟨[a0, a1, a2, a3, a4, a5, a6, some (.tup js.reverse), some (nodeD h o (js.reverse.take (m + 1) ++ js.drop (m + 1))), some (.int (m : Int))], H⟩) := by
          simp only [sSeq, sNil, sIf, sRet, sAsg, Kr.finish, o2, oV, oSlot, oOb, oOwn, bnd, Kr.ret, opt, dVar, dC, qVal, qTru, qNot, qAnd, qOr, dTup, aCons, aNil, dLst, dIf, dAnd, dOr, dNot, dB, oCons, oNil, derefL, deref, dCall, bName, bTup, bsCons, bsNil, dSl, dPart, sOwn, sRetOwn, sMV, sMO, sSet, sPop2, sPar, sObj, sPutO, sFor, iAnyD, iRng1D, iRng2D, iEnumD, itemsD, dComp, wipeD, sExpr, dIsi, bd, truD, gTuple, gList, gLen, gInt, dSorts, gSorted2, gSorts, dRev, gRev, gAdd, Kr.gSub, gIsN, gNotN, gLt, gLe, gGt, gGe, gAbs, mAppend, mExtend, mUpdate, toKey, sl0, sl1, sl2, sl3, sl4, sl5, sl6, sl7, sl8, sl11, Y23_2, List.getElem?_cons_succ, List.getElem?_cons_zero]
          simp [sSeq, sNil, sIf, sRet, sAsg, Kr.finish, o2, oV, oSlot, oOb, oOwn, bnd, Kr.ret, opt, dVar, dC, qVal, qTru, qNot, qAnd, qOr, dTup, aCons, aNil, dLst, dIf, dAnd, dOr, dNot, dB, oCons, oNil, derefL, deref, dCall, bName, bTup, bsCons, bsNil, dSl, dPart, sOwn, sRetOwn, sMV, sMO, sSet, sPop2, sPar, sObj, sPutO, sFor, iAnyD, iRng1D, iRng2D, iEnumD, itemsD, dComp, wipeD, sExpr, dIsi, bd, truD, gTuple, gList, gLen, gInt, dSorts, gSorted2, gSorts, dRev, gRev, gAdd, Kr.gSub, gIsN, gNotN, gLt, gLe, gGt, gGe, gAbs, mAppend, mExtend, mUpdate, toKey, sl0, sl1, sl2, sl3, sl4, sl5, sl6, sl7, sl8, sl11, hix, hrb]
        refine ⟨a9', ?_⟩
        rw [List.range'_succ, List.map_cons, fLoop]
        show (match Y23_2 (runF T (k + 2)) ⟨[a0, a1, a2, a3, a4, a5, a6, some (.tup js.reverse), some (nodeD h o (js.reverse.take m ++ js.drop m)), some (.int (m : Int))], H⟩ with
          | .ok (.nx, s2) => fLoop (bName 9) (Y23_2 (runF T (k + 2))) _ s2
          | .ok (.ct, s2) => fLoop (bName 9) (Y23_2 (runF T (k + 2))) _ s2
          | .ok (.bk, s2) => .ok (.nx, s2)
          | .ok (.rt r, s2) => .ok (.rt r, s2)
          | .error e => .error e) = _
        rw [hY]
        exact hh
    obtain ⟨a9', hloop⟩ := loop js.length 0 a9 (by omega)
    refine ⟨nodeD h o js.reverse, a9', ?_, ?_, ?_⟩
    · refine (pl_node (m := n + 3) (fun d hd' => ?_) (by rw [List.length_reverse]; omega) (by omega)).up (by omega)
      rw [List.mem_reverse, hjs] at hd'
      obtain ⟨z, hz, rfl⟩ := List.mem_map.mp hd'
      exact (hks z hz).pl
    · exact wparts_node (k + 1) h o js js.reverse (.tup js.reverse) H hd rfl (by rw [List.length_reverse]; omega)
    · unfold L23_3 sFor
      have hrng : -16777216 ≤ (js.length : Int) ∧ (js.length : Int) ≤ 16777216 := by omega
      have hi : (iRng1D (dB gLen (oCons (oV (dVar 7)) oNil))) ⟨[a0, a1, a2, a3, a4, a5, a6, some (.tup js.reverse), some (nodeD h o js), a9], H⟩ = .ok ((List.range' 0 js.length).map fun (i : Nat) => D.int (i : Int), H) := by
        rw [← List.range_eq_range']
        simp [sSeq, sNil, sIf, sRet, sAsg, Kr.finish, o2, oV, oSlot, oOb, oOwn, bnd, Kr.ret, opt, dVar, dC, qVal, qTru, qNot, qAnd, qOr, dTup, aCons, aNil, dLst, dIf, dAnd, dOr, dNot, dB, oCons, oNil, derefL, deref, dCall, bName, bTup, bsCons, bsNil, dSl, dPart, sOwn, sRetOwn, sMV, sMO, sSet, sPop2, sPar, sObj, sPutO, sFor, iAnyD, iRng1D, iRng2D, iEnumD, itemsD, dComp, wipeD, sExpr, dIsi, bd, truD, gTuple, gList, gLen, gInt, dSorts, gSorted2, gSorts, dRev, gRev, gAdd, Kr.gSub, gIsN, gNotN, gLt, gLe, gGt, gGe, gAbs, mAppend, mExtend, mUpdate, toKey, sl0, sl1, sl2, sl3, sl4, sl5, sl6, sl7, sl8, sl11, hrng, rng_map]
      rw [hi]
      exact hloop
/-! ### all that the law asks of a tree -/
theorem fine_run {n : Nat} (e : E) (od : D) (mo : Nat) (k : Nat) (H : List D) (mk : D) (w : Wf n e) (ho : Pl mo od) (hn : n ≤ 900) (hc : e.cnt ≤ 4000) (hk : mo + n + 8 ≤ k) : runF T (k + 1) 23 [mk, e.toD, od] H = .ok (.bl true, H) := by
  have hrows := rows_run n e [] [] k H w (by omega) (by omega) (by simp; omega) (by simp; omega) (by omega)
  have hlen := rows_len n e [] [] w
  have hpaths := pths_run n e k H w (by omega) (by omega) (by omega)
  have hsize := size_run n e k H w (by omega)
  have hdepth := depth_run n e k H w (by omega)
  have hpl := pths_len n e w
  -- the paths
  have hC0 : ∀ a9 a8 a7 a6 a5 a4, C23_0 (runF T k) ⟨[some mk, some e.toD, some od, some (.lst ((e.rows [] []).map rowD)), a4, a5, a6, a7, a8, a9], H⟩ = .ok (.lst (e.pths.map pathD), H) := by
    intro a9 a8 a7 a6 a5 a4
    have := dComp_map (vs := [4, 5, 6]) (it := iAnyD (dVar 3)) (b := bTup 3 (bsCons (bName 4) (bsCons (bName 5) (bsCons (bName 6) bsNil)))) (tt := Kr.ret true) (te := dVar 4)
      (s := ⟨[some mk, some e.toD, some od, some (.lst ((e.rows [] []).map rowD)), a4, a5, a6, a7, a8, a9], H⟩) (H := H) rowD (fun r => pathD r.path) (e.rows [] []) (by simp [sSeq, sNil, sIf, sRet, sAsg, Kr.finish, o2, oV, oSlot, oOb, oOwn, bnd, Kr.ret, opt, dVar, dC, qVal, qTru, qNot, qAnd, qOr, dTup, aCons, aNil, dLst, dIf, dAnd, dOr, dNot, dB, oCons, oNil, derefL, deref, dCall, bName, bTup, bsCons, bsNil, dSl, dPart, sOwn, sRetOwn, sMV, sMO, sSet, sPop2, sPar, sObj, sPutO, sFor, iAnyD, iRng1D, iRng2D, iEnumD, itemsD, dComp, wipeD, sExpr, dIsi, bd, truD, gTuple, gList, gLen, gInt, dSorts, gSorted2, gSorts, dRev, gRev, gAdd, Kr.gSub, gIsN, gNotN, gLt, gLe, gGt, gGe, gAbs, mAppend, mExtend, mUpdate, toKey, sl0, sl1, sl2, sl3, sl4, sl5, sl6, sl7, sl8, sl11]) (fun r _ => by simp [sSeq, sNil, sIf, sRet, sAsg, Kr.finish, o2, oV, oSlot, oOb, oOwn, bnd, Kr.ret, opt, dVar, dC, qVal, qTru, qNot, qAnd, qOr, dTup, aCons, aNil, dLst, dIf, dAnd, dOr, dNot, dB, oCons, oNil, derefL, deref, dCall, bName, bTup, bsCons, bsNil, dSl, dPart, sOwn, sRetOwn, sMV, sMO, sSet, sPop2, sPar, sObj, sPutO, sFor, iAnyD, iRng1D, iRng2D, iEnumD, itemsD, dComp, wipeD, sExpr, dIsi, bd, truD, gTuple, gList, gLen, gInt, dSorts, gSorted2, gSorts, dRev, gRev, gAdd, Kr.gSub, gIsN, gNotN, gLt, gLe, gGt, gGe, gAbs, mAppend, mExtend, mUpdate, toKey, sl0, sl1, sl2, sl3, sl4, sl5, sl6, sl7, sl8, sl11, cEl, rowD])
    have e1 : (e.rows [] []).map (fun r => pathD r.path) = e.pths.map pathD := by rw [← rows_paths0 w, List.map_map]; rfl
    rw [e1] at this
    exact this
  have hC1 : ∀ a9 a8 a7 a6 a5 a4, C23_1 (runF T k) ⟨[some mk, some e.toD, some od, some (.lst ((e.rows [] []).map rowD)), a4, a5, a6, a7, a8, a9], H⟩ = .ok (.lst ((e.rows [] []).map fun r => .int (r.path.length : Int)), H) := by
    intro a9 a8 a7 a6 a5 a4
    exact dComp_map (vs := [4, 5, 6]) (it := iAnyD (dVar 3)) (b := bTup 3 (bsCons (bName 4) (bsCons (bName 5) (bsCons (bName 6) bsNil)))) (tt := Kr.ret true) (te := dB gLen (oCons (oV (dVar 4)) oNil))
      (s := ⟨[some mk, some e.toD, some od, some (.lst ((e.rows [] []).map rowD)), a4, a5, a6, a7, a8, a9], H⟩) (H := H) rowD (fun r => .int (r.path.length : Int)) (e.rows [] []) (by simp [sSeq, sNil, sIf, sRet, sAsg, Kr.finish, o2, oV, oSlot, oOb, oOwn, bnd, Kr.ret, opt, dVar, dC, qVal, qTru, qNot, qAnd, qOr, dTup, aCons, aNil, dLst, dIf, dAnd, dOr, dNot, dB, oCons, oNil, derefL, deref, dCall, bName, bTup, bsCons, bsNil, dSl, dPart, sOwn, sRetOwn, sMV, sMO, sSet, sPop2, sPar, sObj, sPutO, sFor, iAnyD, iRng1D, iRng2D, iEnumD, itemsD, dComp, wipeD, sExpr, dIsi, bd, truD, gTuple, gList, gLen, gInt, dSorts, gSorted2, gSorts, dRev, gRev, gAdd, Kr.gSub, gIsN, gNotN, gLt, gLe, gGt, gGe, gAbs, mAppend, mExtend, mUpdate, toKey, sl0, sl1, sl2, sl3, sl4, sl5, sl6, sl7, sl8, sl11]) (fun r _ => by simp [sSeq, sNil, sIf, sRet, sAsg, Kr.finish, o2, oV, oSlot, oOb, oOwn, bnd, Kr.ret, opt, dVar, dC, qVal, qTru, qNot, qAnd, qOr, dTup, aCons, aNil, dLst, dIf, dAnd, dOr, dNot, dB, oCons, oNil, derefL, deref, dCall, bName, bTup, bsCons, bsNil, dSl, dPart, sOwn, sRetOwn, sMV, sMO, sSet, sPop2, sPar, sObj, sPutO, sFor, iAnyD, iRng1D, iRng2D, iEnumD, itemsD, dComp, wipeD, sExpr, dIsi, bd, truD, gTuple, gList, gLen, gInt, dSorts, gSorted2, gSorts, dRev, gRev, gAdd, Kr.gSub, gIsN, gNotN, gLt, gLe, gGt, gGe, gAbs, mAppend, mExtend, mUpdate, toKey, sl0, sl1, sl2, sl3, sl4, sl5, sl6, sl7, sl8, sl11, cEl, rowD, pathD])
  have hmax : gMax [.lst ((e.rows [] []).map fun r => D.int (r.path.length : Int))] = some (.int (maxI ((e.rows [] []).map fun r => (r.path.length : Int)))) := by
    have h1 := asInts_map ((e.rows [] []).map fun r => (r.path.length : Int))
    rw [List.map_map] at h1
    have e1 : (e.rows [] []).map (fun r => D.int (r.path.length : Int)) = (e.rows [] []).map (D.int ∘ fun r => (r.path.length : Int)) := rfl
    rw [e1]
    cases e2 : (e.rows [] []).map (D.int ∘ fun r => (r.path.length : Int)) with
    | nil => rw [rows_eq] at e2; cases e2
    | cons a b =>
      rw [e2] at h1
      show (asInts (a :: b)).map _ = _
      rw [h1]; rfl
  have hdm := dpt_max w
  -- each row
  have loop : ∀ (rs : List Rw) (a4 a5 a6 a7 a8 a9 : Option D), (∀ r ∈ rs, r ∈ e.rows [] []) → ∃ a4' a5' a6' a7' a8' a9', fLoop (bTup 3 (bsCons (bName 4) (bsCons (bName 5) (bsCons (bName 6) bsNil)))) (Y23_4 (runF T k)) (rs.map rowD) ⟨[some mk, some e.toD, some od, some (.lst ((e.rows [] []).map rowD)), a4, a5, a6, a7, a8, a9], H⟩ =
      .ok (.nx, ⟨[some mk, some e.toD, some od, some (.lst ((e.rows [] []).map rowD)), a4', a5', a6', a7', a8', a9'], H⟩) := by
    intro rs
    induction rs with
    | nil => intro a4 a5 a6 a7 a8 a9 _; exact ⟨a4, a5, a6, a7, a8, a9, rfl⟩
    | cons r rs ih =>
      intro a4 a5 a6 a7 a8 a9 hr
      obtain ⟨q, h1, h2, h3, h4, h5⟩ := rows_at n e [] [] r w (hr r List.mem_cons_self)
      rw [List.nil_append] at h1
      obtain ⟨kk, rfl⟩ : ∃ kk, k = kk + 2 := ⟨k - 2, by omega⟩
      have hat := at_run kk H w h2 (by omega)
      have hp := parts_run (kk + 1) r.one H h3
      have hlp := lparts_run (kk + 1) r.one H h3
      have i1 := is_refl (n + 3) r.one.toD (kk + 2) H h3.pl (by omega)
      have hfew := h3.few
      have i2 := is_refl (n + 4) (.tup (r.one.kids.map E.toD)) (kk + 2) H (.tup _ _ (fun d hd => by
        obtain ⟨z, hz, rfl⟩ := List.mem_map.mp hd
        obtain ⟨n', rfl⟩ := h3.pos
        exact (h3.kid z hz).pl.up (by omega)) (by rw [List.length_map]; omega)) (by omega)
      obtain ⟨fd, f1, f2, f3⟩ := free_both r.one (kk + 2) H h3 (by omega) (by omega) (by omega)
      have i3 := is_refl 2 fd (kk + 2) H f1 (by omega)
      obtain ⟨ud, u1, u2, u3⟩ := up_run H od mo ho n e r.one q (kk + 2) h2 w (by omega)
      have i4 := is_refl _ ud (kk + 2) H u1 (by omega)
      obtain ⟨td, a9', t1, t2, t3⟩ := turn_run r.one kk H h3 (some mk) (some e.toD) (some od) (some (.lst ((e.rows [] []).map rowD))) (some (pathD q)) (some r.one.toD) (some (strsD r.kn)) a9
      have i5 := is_refl _ td (kk + 2) H t1 (by omega)
      obtain ⟨b4, b5, b6, b7, b8, b9, hh⟩ := ih (some (pathD q)) (some r.one.toD) (some (strsD r.kn)) (some (.tup (r.one.kids.map E.toD).reverse)) (some td) a9' fun y hy => hr y (List.mem_cons_of_mem _ hy)
      have hb : bTup 3 (bsCons (bName 4) (bsCons (bName 5) (bsCons (bName 6) bsNil))) (rowD r) ⟨[some mk, some e.toD, some od, some (.lst ((e.rows [] []).map rowD)), a4, a5, a6, a7, a8, a9], H⟩ = .ok ⟨[some mk, some e.toD, some od, some (.lst ((e.rows [] []).map rowD)), some (pathD q), some r.one.toD, some (strsD r.kn), a7, a8, a9], H⟩ := by
        simp [sSeq, sNil, sIf, sRet, sAsg, Kr.finish, o2, oV, oSlot, oOb, oOwn, bnd, Kr.ret, opt, dVar, dC, qVal, qTru, qNot, qAnd, qOr, dTup, aCons, aNil, dLst, dIf, dAnd, dOr, dNot, dB, oCons, oNil, derefL, deref, dCall, bName, bTup, bsCons, bsNil, dSl, dPart, sOwn, sRetOwn, sMV, sMO, sSet, sPop2, sPar, sObj, sPutO, sFor, iAnyD, iRng1D, iRng2D, iEnumD, itemsD, dComp, wipeD, sExpr, dIsi, bd, truD, gTuple, gList, gLen, gInt, dSorts, gSorted2, gSorts, dRev, gRev, gAdd, Kr.gSub, gIsN, gNotN, gLt, gLe, gGt, gGe, gAbs, mAppend, mExtend, mUpdate, toKey, sl0, sl1, sl2, sl3, sl4, sl5, sl6, sl7, sl8, sl11, rowD, h1]
      have hY : Y23_4 (runF T (kk + 2)) ⟨[some mk, some e.toD, some od, some (.lst ((e.rows [] []).map rowD)), some (pathD q), some r.one.toD, some (strsD r.kn), a7, a8, a9], H⟩ = .ok (.nx, ⟨[some mk, some e.toD, some od, some (.lst ((e.rows [] []).map rowD)), some (pathD q), some r.one.toD, some (strsD r.kn), some (.tup (r.one.kids.map E.toD).reverse), some td, a9'], H⟩) := by
        simp [sSeq, sNil, sIf, sRet, sAsg, Kr.finish, o2, oV, oSlot, oOb, oOwn, bnd, Kr.ret, opt, dVar, dC, qVal, qTru, qNot, qAnd, qOr, dTup, aCons, aNil, dLst, dIf, dAnd, dOr, dNot, dB, oCons, oNil, derefL, deref, dCall, bName, bTup, bsCons, bsNil, dSl, dPart, sOwn, sRetOwn, sMV, sMO, sSet, sPop2, sPar, sObj, sPutO, sFor, iAnyD, iRng1D, iRng2D, iEnumD, itemsD, dComp, wipeD, sExpr, dIsi, bd, truD, gTuple, gList, gLen, gInt, dSorts, gSorted2, gSorts, dRev, gRev, gAdd, Kr.gSub, gIsN, gNotN, gLt, gLe, gGt, gGe, gAbs, mAppend, mExtend, mUpdate, toKey, sl0, sl1, sl2, sl3, sl4, sl5, sl6, sl7, sl8, sl11, Y23_4, hat, hp, hlp, i1, i2, f2, f3, i3, u2, u3, i4, t3, t2, i5]
      refine ⟨b4, b5, b6, b7, b8, b9, ?_⟩
      rw [List.map_cons, fLoop, hb]
      dsimp only
      rw [hY]
      exact hh
  obtain ⟨b4, b5, b6, b7, b8, b9, hloop⟩ := loop (e.rows [] []) none none none none none none fun r h => h
  have hL : L23_5 (runF T k) ⟨[some mk, some e.toD, some od, some (.lst ((e.rows [] []).map rowD)), none, none, none, none, none, none], H⟩ = .ok (.nx, ⟨[some mk, some e.toD, some od, some (.lst ((e.rows [] []).map rowD)), b4, b5, b6, b7, b8, b9], H⟩) := by
    unfold L23_5 sFor
    have hi : (iAnyD (dVar 3)) ⟨[some mk, some e.toD, some od, some (.lst ((e.rows [] []).map rowD)), none, none, none, none, none, none], H⟩ = .ok ((e.rows [] []).map rowD, H) := by simp [sSeq, sNil, sIf, sRet, sAsg, Kr.finish, o2, oV, oSlot, oOb, oOwn, bnd, Kr.ret, opt, dVar, dC, qVal, qTru, qNot, qAnd, qOr, dTup, aCons, aNil, dLst, dIf, dAnd, dOr, dNot, dB, oCons, oNil, derefL, deref, dCall, bName, bTup, bsCons, bsNil, dSl, dPart, sOwn, sRetOwn, sMV, sMO, sSet, sPop2, sPar, sObj, sPutO, sFor, iAnyD, iRng1D, iRng2D, iEnumD, itemsD, dComp, wipeD, sExpr, dIsi, bd, truD, gTuple, gList, gLen, gInt, dSorts, gSorted2, gSorts, dRev, gRev, gAdd, Kr.gSub, gIsN, gNotN, gLt, gLe, gGt, gGe, gAbs, mAppend, mExtend, mUpdate, toKey, sl0, sl1, sl2, sl3, sl4, sl5, sl6, sl7, sl8, sl11]
    rw [hi]
    exact hloop
  have i1 := is_refl (n + 4) (.tup (e.pths.map pathD)) k H (.tup _ _ (fun d hd => by
    obtain ⟨p, hp, rfl⟩ := List.mem_map.mp hd
    have := pths_short n e w p hp
    exact (Pl.ints 0 p (by omega)).up (by omega)) (by rw [List.length_map, hpl]; omega)) (by omega)
  have i2 := is_refl 1 (.int e.siz) k H (.int _ _) (by omega)
  have i3 := is_refl 1 (.int e.dpt) k H (.int _ _) (by omega)
  have hsz := siz_cnt n e w
  have hrows' := hrows
  simp only [pathD, strsD, List.map_nil] at hrows'
  rw [runF]
  simp [sSeq, sNil, sIf, sRet, sAsg, Kr.finish, o2, oV, oSlot, oOb, oOwn, bnd, Kr.ret, opt, dVar, dC, qVal, qTru, qNot, qAnd, qOr, dTup, aCons, aNil, dLst, dIf, dAnd, dOr, dNot, dB, oCons, oNil, derefL, deref, dCall, bName, bTup, bsCons, bsNil, dSl, dPart, sOwn, sRetOwn, sMV, sMO, sSet, sPop2, sPar, sObj, sPutO, sFor, iAnyD, iRng1D, iRng2D, iEnumD, itemsD, dComp, wipeD, sExpr, dIsi, bd, truD, gTuple, gList, gLen, gInt, dSorts, gSorted2, gSorts, dRev, gRev, gAdd, Kr.gSub, gIsN, gNotN, gLt, gLe, gGt, gGe, gAbs, mAppend, mExtend, mUpdate, toKey, sl0, sl1, sl2, sl3, sl4, sl5, sl6, sl7, sl8, sl11, T, F23, B23, hrows', hpaths, hsize, hdepth, hC0, hC1, hL, i1, hlen, ← hsz, i2, hmax, hdm, i3]
end Gk03

namespace Gk03
open PySem Kr
open L2 (Key)

/-! ### the draws -/
theorem o2e {g : D → D → Option D} {a b : DE} {s : S} {x y z : D} {h h2 : List D} (ha : a s = .ok (x, h)) (hb : b ⟨s.σ, h⟩ = .ok (y, h2)) (hg : g x y = some z) : o2 g (oV a) (oV b) s = .ok (z, h2) := by
  unfold o2 oV bnd Kr.ret
  rw [ha]
  dsimp only
  rw [hb]
  dsimp only [deref]
  rw [hg]
  rfl
theorem dBe {g : List D → Option D} {a : DE} {s : S} {x z : D} {h : List D} (ha : a s = .ok (x, h)) (hg : g [x] = some z) : dB g (oCons (oV a) oNil) s = .ok (z, h) := by
  unfold dB oCons oNil oV bnd Kr.ret
  rw [ha]
  dsimp only [derefL, deref]
  rw [hg]
  rfl
theorem sAsge {d : DE} {i : Nat} {s : S} {x : D} {h : List D} (ha : d s = .ok (x, h)) : sAsg d (bName i) s = .ok (.nx, ⟨s.σ.set i (some x), h⟩) := by
  unfold sAsg
  rw [ha]
  rfl
theorem sSeqe {a b : DS} {s s1 : S} (ha : a s = .ok (.nx, s1)) : sSeq a b s = b s1 := by
  unfold sSeq
  rw [ha]
theorem sMVe {i : Nat} {m : D → D → Option D} {a : DE} {s : S} {x c c' : D} {h : List D} (ha : a s = .ok (x, h)) (hs : s.σ[i]? = some (some c)) (hm : m c x = some c') : sMV i m a s = .ok (.nx, ⟨s.σ.set i (some c'), h⟩) := by
  unfold sMV
  rw [ha]
  dsimp only
  rw [hs]
  dsimp only
  rw [hm]
theorem addI (a b : Int) : gAdd (.int a) (.int b) = some (.int (a + b)) := rfl
theorem modc (a c : Int) (h : 0 < c) : gMod (.int a) (.int c) = some (.int (a % c)) := by simp [gMod, bd, h]
theorem divc (a c : Int) (h : 0 < c ∧ c < 1073741824) : gDiv (.int a) (.int c) = some (.int (a / c)) := by simp [gDiv, bd, h]
theorem mulr (a c : Int) (h : -18446744073709551616 < c ∧ c < 18446744073709551616) : gMul (.int a) (.int c) = some (.int (a * c)) := by
  have h' : -(2 ^ 64) < c ∧ c < 2 ^ 64 := by omega
  simp only [gMul, bd]
  rw [if_pos (.inr h')]
theorem mull (a c : Int) (h : -18446744073709551616 < a ∧ a < 18446744073709551616) : gMul (.int a) (.int c) = some (.int (a * c)) := by
  have h' : -(2 ^ 64) < a ∧ a < 2 ^ 64 := by omega
  simp only [gMul, bd]
  rw [if_pos (.inl h')]
theorem m1 (a : Int) : gMul (.int a) (.int 48271) = some (.int (a * 48271)) := mulr _ _ (by omega)
theorem m2 (a : Int) : gMul (.int a) (.int 69621) = some (.int (a * 69621)) := mulr _ _ (by omega)
theorem m3 (a : Int) : gMul (.int 40692) (.int a) = some (.int (40692 * a)) := mull _ _ (by omega)
theorem d1 (a : Int) : gMod (.int a) (.int 5040) = some (.int (a % 5040)) := modc _ _ (by omega)
theorem d2 (a : Int) : gMod (.int a) (.int 2147483647) = some (.int (a % 2147483647)) := modc _ _ (by omega)
theorem d3 (a : Int) : gMod (.int a) (.int 2147483399) = some (.int (a % 2147483399)) := modc _ _ (by omega)
theorem d4 (a : Int) : gDiv (.int a) (.int 5040) = some (.int (a / 5040)) := divc _ _ (by omega)
theorem d5 (a : Int) : gDiv (.int a) (.int 64) = some (.int (a / 64)) := divc _ _ (by omega)
theorem p18 : gPow (.int 10) (.int 18) = some (.int 1000000000000000000) := by kernel_rfl
theorem cell_run (k : Nat) (ns : List Int) (i : Nat) (H : List D) : ∃ c : Int, runF T (k + 1) 10 [.scr ns, .int (i : Int)] H = .ok (.int c, H) := by
  by_cases h : i < ns.length
  · have hx : gIx (.scr ns) (.int (i : Int)) = some (.int ns[i]) := by
      show (L2.atI ns (i : Int)).map D.int = _
      rw [L2.atI_nat (List.getElem?_eq_getElem h)]; rfl
    have hd : decide ((i : Int) < (ns.length : Int)) = true := by simp; omega
    refine ⟨ns[i], ?_⟩
    rw [runF]
    simp only [sSeq, sNil, sIf, sRet, sAsg, Kr.finish, o2, oV, oSlot, oOb, oOwn, bnd, Kr.ret, opt, dVar, dC, qVal, qTru, qNot, qAnd, qOr, dTup, aCons, aNil, dLst, dIf, dAnd, dOr, dNot, dB, oCons, oNil, derefL, deref, dCall, bName, bTup, bsCons, bsNil, dSl, dPart, sOwn, sRetOwn, sMV, sMO, sSet, sPop2, sPar, sObj, sPutO, sFor, iAnyD, iRng1D, iRng2D, iEnumD, itemsD, dComp, wipeD, sExpr, dIsi, bd, truD, gTuple, gList, gLen, gInt, dSorts, gSorted2, gSorts, dRev, gRev, gAdd, Kr.gSub, gIsN, gNotN, gLt, gLe, gGt, gGe, gAbs, mAppend, mExtend, mUpdate, toKey, sl0, sl1, sl2, sl3, sl4, sl5, sl6, sl7, sl8, sl11, T, F10, B10]
    simp [sSeq, sNil, sIf, sRet, sAsg, Kr.finish, o2, oV, oSlot, oOb, oOwn, bnd, Kr.ret, opt, dVar, dC, qVal, qTru, qNot, qAnd, qOr, dTup, aCons, aNil, dLst, dIf, dAnd, dOr, dNot, dB, oCons, oNil, derefL, deref, dCall, bName, bTup, bsCons, bsNil, dSl, dPart, sOwn, sRetOwn, sMV, sMO, sSet, sPop2, sPar, sObj, sPutO, sFor, iAnyD, iRng1D, iRng2D, iEnumD, itemsD, dComp, wipeD, sExpr, dIsi, bd, truD, gTuple, gList, gLen, gInt, dSorts, gSorted2, gSorts, dRev, gRev, gAdd, Kr.gSub, gIsN, gNotN, gLt, gLe, gGt, gGe, gAbs, mAppend, mExtend, mUpdate, toKey, sl0, sl1, sl2, sl3, sl4, sl5, sl6, sl7, sl8, sl11, hx, hd, h]
  · have hd : ¬ ((i : Int) < (ns.length : Int)) := by omega
    have hm : gMul (.int 5) (.int (i : Int)) = some (.int (5 * (i : Int))) := mull _ _ (by omega)
    refine ⟨5 * (i : Int) + 3, ?_⟩
    rw [runF]
    simp [sSeq, sNil, sIf, sRet, sAsg, Kr.finish, o2, oV, oSlot, oOb, oOwn, bnd, Kr.ret, opt, dVar, dC, qVal, qTru, qNot, qAnd, qOr, dTup, aCons, aNil, dLst, dIf, dAnd, dOr, dNot, dB, oCons, oNil, derefL, deref, dCall, bName, bTup, bsCons, bsNil, dSl, dPart, sOwn, sRetOwn, sMV, sMO, sSet, sPop2, sPar, sObj, sPutO, sFor, iAnyD, iRng1D, iRng2D, iEnumD, itemsD, dComp, wipeD, sExpr, dIsi, bd, truD, gTuple, gList, gLen, gInt, dSorts, gSorted2, gSorts, dRev, gRev, gAdd, Kr.gSub, gIsN, gNotN, gLt, gLe, gGt, gGe, gAbs, mAppend, mExtend, mUpdate, toKey, sl0, sl1, sl2, sl3, sl4, sl5, sl6, sl7, sl8, sl11, T, F10, B10, hd, hm, h]
theorem draws_loop (k : Nat) (c cnt : Int) (H : List D) : ∀ (xs : List Nat) (rest seed : Int) (b : Bool) (acc : List Int) (a6 a7 : Option D), acc.length + xs.length ≤ 1000 →
      ∃ (rest' : Int) (acc' : List Int) (a6' a7' : Option D), acc'.length = acc.length + xs.length ∧ fLoop (bName 6) (Y11_0 (runF T k)) (xs.map fun (i : Nat) => D.int (i : Int)) ⟨[some (.int c), some (.int cnt), some (.int rest), some (.bl b), some (.int seed), some (.lst (acc.map .int)), a6, a7], H⟩ =
        .ok (.nx, ⟨[some (.int c), some (.int cnt), some (.int rest'), some (.bl b), some (.int seed), some (.lst (acc'.map .int)), a6', a7'], H⟩) := by
    intro xs
    induction xs with
    | nil => intro rest seed b acc a6 a7 _; exact ⟨rest, acc, a6, a7, rfl, rfl⟩
    | cons x xs ih =>
      intro rest seed b acc a6 a7 hl
      rw [List.length_cons] at hl
      have hz : acc.length < sizeLine := sl (acc.length + 1) (by omega)
      have step : ∃ (rest' v : Int) (a7' : Option D), Y11_0 (runF T k) ⟨[some (.int c), some (.int cnt), some (.int rest), some (.bl b), some (.int seed), some (.lst (acc.map .int)), some (.int (x : Int)), a7], H⟩ = .ok (.nx, ⟨[some (.int c), some (.int cnt), some (.int rest'), some (.bl b), some (.int seed), some (.lst ((acc ++ [v]).map .int)), some (.int (x : Int)), a7'], H⟩) := by
        by_cases hb : b = true ∧ 0 < rest
        · obtain ⟨rfl, h2⟩ := hb
          refine ⟨rest / 5040, rest % 5040, a7, ?_⟩
          rw [List.map_append]
          simp [sSeq, sNil, sIf, sRet, sAsg, Kr.finish, o2, oV, oSlot, oOb, oOwn, bnd, Kr.ret, opt, dVar, dC, qVal, qTru, qNot, qAnd, qOr, dTup, aCons, aNil, dLst, dIf, dAnd, dOr, dNot, dB, oCons, oNil, derefL, deref, dCall, bName, bTup, bsCons, bsNil, dSl, dPart, sOwn, sRetOwn, sMV, sMO, sSet, sPop2, sPar, sObj, sPutO, sFor, iAnyD, iRng1D, iRng2D, iEnumD, itemsD, dComp, wipeD, sExpr, dIsi, bd, truD, gTuple, gList, gLen, gInt, dSorts, gSorted2, gSorts, dRev, gRev, gAdd, Kr.gSub, gIsN, gNotN, gLt, gLe, gGt, gGe, gAbs, mAppend, mExtend, mUpdate, toKey, sl0, sl1, sl2, sl3, sl4, sl5, sl6, sl7, sl8, sl11, Y11_0, h2, d1, d4, hz]
        · obtain ⟨A, hA⟩ : ∃ A, gMul (.int seed) (.int 48271) = some (.int A) := ⟨_, m1 _⟩
          obtain ⟨B, hB⟩ : ∃ B, gMul (.int ((x : Int) + 1)) (.int 69621) = some (.int B) := ⟨_, m2 _⟩
          obtain ⟨M, hM, hM1, hM2⟩ : ∃ M, gMod (.int (A + B + 11)) (.int 2147483647) = some (.int M) ∧ 0 ≤ M ∧ M < 2147483647 := ⟨_, d2 _, by omega, by omega⟩
          obtain ⟨Q, hQ⟩ : ∃ Q, gMul (.int M) (.int M) = some (.int Q) := ⟨_, mull _ _ (by omega)⟩
          obtain ⟨R, hR⟩ : ∃ R, gMul (.int 40692) (.int ((x : Int) + 3)) = some (.int R) := ⟨_, m3 _⟩
          obtain ⟨M2, hM2'⟩ : ∃ M2, gMod (.int (Q + R)) (.int 2147483399) = some (.int M2) := ⟨_, d3 _⟩
          obtain ⟨V, hV⟩ : ∃ V, gDiv (.int M2) (.int 64) = some (.int V) := ⟨_, d5 _⟩
          obtain ⟨Wd, hW⟩ : ∃ Wd, gMod (.int V) (.int 5040) = some (.int Wd) := ⟨_, d1 _⟩
          refine ⟨rest, Wd, some (.int M2), ?_⟩
          rw [List.map_append]
          have hc : (qAnd (qTru (oV (dVar 3))) (qVal (o2 gGt (oV (dVar 2)) (oV (dC (.int 0)))))) ⟨[some (.int c), some (.int cnt), some (.int rest), some (.bl b), some (.int seed), some (.lst (acc.map .int)), some (.int (x : Int)), a7], H⟩ = .ok (false, H) := by
            cases b with
            | false => simp [sSeq, sNil, sIf, sRet, sAsg, Kr.finish, o2, oV, oSlot, oOb, oOwn, bnd, Kr.ret, opt, dVar, dC, qVal, qTru, qNot, qAnd, qOr, dTup, aCons, aNil, dLst, dIf, dAnd, dOr, dNot, dB, oCons, oNil, derefL, deref, dCall, bName, bTup, bsCons, bsNil, dSl, dPart, sOwn, sRetOwn, sMV, sMO, sSet, sPop2, sPar, sObj, sPutO, sFor, iAnyD, iRng1D, iRng2D, iEnumD, itemsD, dComp, wipeD, sExpr, dIsi, bd, truD, gTuple, gList, gLen, gInt, dSorts, gSorted2, gSorts, dRev, gRev, gAdd, Kr.gSub, gIsN, gNotN, gLt, gLe, gGt, gGe, gAbs, mAppend, mExtend, mUpdate, toKey, sl0, sl1, sl2, sl3, sl4, sl5, sl6, sl7, sl8, sl11]
            | true =>
              have h2 : ¬ 0 < rest := fun z => hb ⟨rfl, z⟩
              simp [sSeq, sNil, sIf, sRet, sAsg, Kr.finish, o2, oV, oSlot, oOb, oOwn, bnd, Kr.ret, opt, dVar, dC, qVal, qTru, qNot, qAnd, qOr, dTup, aCons, aNil, dLst, dIf, dAnd, dOr, dNot, dB, oCons, oNil, derefL, deref, dCall, bName, bTup, bsCons, bsNil, dSl, dPart, sOwn, sRetOwn, sMV, sMO, sSet, sPop2, sPar, sObj, sPutO, sFor, iAnyD, iRng1D, iRng2D, iEnumD, itemsD, dComp, wipeD, sExpr, dIsi, bd, truD, gTuple, gList, gLen, gInt, dSorts, gSorted2, gSorts, dRev, gRev, gAdd, Kr.gSub, gIsN, gNotN, gLt, gLe, gGt, gGe, gAbs, mAppend, mExtend, mUpdate, toKey, sl0, sl1, sl2, sl3, sl4, sl5, sl6, sl7, sl8, sl11, h2]
          unfold Y11_0 sIf
          rw [hc]
          dsimp only
          have hap : mAppend (.lst (acc.map .int)) (.int Wd) = some (.lst (acc.map .int ++ [.int Wd])) := by
            have hz' : (acc.map D.int).length < sizeLine := by rw [List.length_map]; exact hz
            simp only [mAppend, bd]
            rw [if_pos hz']
          rw [sSeqe (sAsge (o2e (dBe (o2e (o2e (o2e rfl rfl hA) (o2e (o2e rfl rfl rfl) rfl hB) rfl) rfl rfl) rfl) rfl hM))]
          rw [sSeqe (sAsge (o2e (dBe (o2e (o2e rfl rfl hQ) (o2e rfl (o2e rfl rfl rfl) hR) rfl) rfl) rfl hM2'))]
          rw [sMVe (o2e (dBe (o2e rfl rfl hV) rfl) rfl hW) rfl hap]
          rfl
      obtain ⟨rest', v, a7', hY⟩ := step
      obtain ⟨rest'', acc'', b6, b7, h1, h2⟩ := ih rest' seed b (acc ++ [v]) (some (.int (x : Int))) a7' (by rw [List.length_append, List.length_singleton]; omega)
      refine ⟨rest'', acc'', b6, b7, by rw [h1, List.length_append, List.length_singleton, List.length_cons]; omega, ?_⟩
      rw [List.map_cons, fLoop]
      show (match Y11_0 (runF T k) ⟨[some (.int c), some (.int cnt), some (.int rest), some (.bl b), some (.int seed), some (.lst (acc.map .int)), some (.int (x : Int)), a7], H⟩ with
        | .ok (.nx, s2) => fLoop (bName 6) (Y11_0 (runF T k)) _ s2
        | .ok (.ct, s2) => fLoop (bName 6) (Y11_0 (runF T k)) _ s2
        | .ok (.bk, s2) => .ok (.nx, s2)
        | .ok (.rt r, s2) => .ok (.rt r, s2)
        | .error e => .error e) = _
      rw [hY]
      exact h2
theorem draws_any (k : Nat) (c : Int) (n : Nat) (hn : n ≤ 1000) (H : List D) : ∃ ds : List Int, ds.length = n ∧ runF T (k + 1) 11 [.int c, .int (n : Int)] H = .ok (.lst (ds.map .int), H) := by
  obtain ⟨r, hr⟩ : ∃ r : Int, r = if c < 0 then -c else c := ⟨_, rfl⟩
  obtain ⟨b, hb⟩ : ∃ b : Bool, gGe (.int r) (.int 1000000000000000000) = some (.bl b) := ⟨_, rfl⟩
  obtain ⟨rest', acc', a6', a7', h1, h2⟩ := draws_loop k c (n : Int) H (List.range n) r r b [] none none (by rw [List.length_range, List.length_nil]; omega)
  refine ⟨acc', by rw [h1, List.length_range]; simp, ?_⟩
  have hrng : -16777216 ≤ (n : Int) ∧ (n : Int) ≤ 16777216 := by omega
  have hL : L11_1 (runF T k) ⟨[some (.int c), some (.int (n : Int)), some (.int r), some (.bl b), some (.int r), some (.lst []), none, none], H⟩ = .ok (.nx, ⟨[some (.int c), some (.int (n : Int)), some (.int rest'), some (.bl b), some (.int r), some (.lst (acc'.map .int)), a6', a7'], H⟩) := by
    unfold L11_1 sFor
    have hi : (iRng1D (dVar 1)) ⟨[some (.int c), some (.int (n : Int)), some (.int r), some (.bl b), some (.int r), some (.lst []), none, none], H⟩ = .ok ((List.range n).map fun (i : Nat) => D.int (i : Int), H) := by
      simp [sSeq, sNil, sIf, sRet, sAsg, Kr.finish, o2, oV, oSlot, oOb, oOwn, bnd, Kr.ret, opt, dVar, dC, qVal, qTru, qNot, qAnd, qOr, dTup, aCons, aNil, dLst, dIf, dAnd, dOr, dNot, dB, oCons, oNil, derefL, deref, dCall, bName, bTup, bsCons, bsNil, dSl, dPart, sOwn, sRetOwn, sMV, sMO, sSet, sPop2, sPar, sObj, sPutO, sFor, iAnyD, iRng1D, iRng2D, iEnumD, itemsD, dComp, wipeD, sExpr, dIsi, bd, truD, gTuple, gList, gLen, gInt, dSorts, gSorted2, gSorts, dRev, gRev, gAdd, Kr.gSub, gIsN, gNotN, gLt, gLe, gGt, gGe, gAbs, mAppend, mExtend, mUpdate, toKey, sl0, sl1, sl2, sl3, sl4, sl5, sl6, sl7, sl8, sl11, rng_map, hrng]
    rw [hi]
    exact h2
  rw [runF]
  simp [sSeq, sNil, sIf, sRet, sAsg, Kr.finish, o2, oV, oSlot, oOb, oOwn, bnd, Kr.ret, opt, dVar, dC, qVal, qTru, qNot, qAnd, qOr, dTup, aCons, aNil, dLst, dIf, dAnd, dOr, dNot, dB, oCons, oNil, derefL, deref, dCall, bName, bTup, bsCons, bsNil, dSl, dPart, sOwn, sRetOwn, sMV, sMO, sSet, sPop2, sPar, sObj, sPutO, sFor, iAnyD, iRng1D, iRng2D, iEnumD, itemsD, dComp, wipeD, sExpr, dIsi, bd, truD, gTuple, gList, gLen, gInt, dSorts, gSorted2, gSorts, dRev, gRev, gAdd, Kr.gSub, gIsN, gNotN, gLt, gLe, gGt, gGe, gAbs, mAppend, mExtend, mUpdate, toKey, sl0, sl1, sl2, sl3, sl4, sl5, sl6, sl7, sl8, sl11, T, F11, B11, p18, ← hr, -gGe, hb, hL]
theorem draws_run (k : Nat) (c : Int) (H : List D) : ∃ ds : List Int, ds.length = 200 ∧ runF T (k + 1) 11 [.int c, .int 200] H = .ok (.lst (ds.map .int), H) := draws_any k c 200 (by omega) H
end Gk03

namespace Gk03
open PySem Kr
open L2 (Key)

theorem obe {g : D → D → Option D} {a b : DE} {s : S} {x y z : D} {h h2 : List D} {j : Nat} (ha : a s = .ok (.obj j, h)) (hb : b ⟨s.σ, h⟩ = .ok (y, h2)) (hj : h2[j]? = some x) (hg : g x y = some z) : o2 g (oOb a) (oV b) s = .ok (z, h2) := by
  unfold o2 oOb oV bnd Kr.ret
  rw [ha]
  dsimp only
  rw [hb]
  dsimp only [deref]
  rw [hj]
  dsimp only
  rw [hg]
  rfl
theorem pute {de oa dk : DE} {s : S} {v y : D} {h1 h2 h3 : List D} {n : Nat} {kvs : List (Key × D)} {k : Key} (hv : de s = .ok (v, h1)) (ho : oa ⟨s.σ, h1⟩ = .ok (.obj n, h2)) (hk : dk ⟨s.σ, h2⟩ = .ok (y, h3)) (hg : h3[n]? = some (.dic kvs)) (hy : toKey y = some k) (hz : kvs.length < sizeLine) :
    sPutO de oa dk s = .ok (.nx, ⟨s.σ, h3.set n (.dic (dPut kvs k v))⟩) := by
  unfold sPutO
  rw [hv]
  dsimp only
  rw [ho]
  dsimp only
  rw [hk]
  dsimp only
  rw [hg, hy]
  dsimp only
  rw [if_pos hz]
theorem rete {d : DE} {s : S} {x : D} {h : List D} (ha : d s = .ok (x, h)) : sRet d s = .ok (.rt x, ⟨s.σ, h⟩) := by
  unfold sRet
  rw [ha]
theorem call1 {cf : CallF} {f : Nat} {a : DE} {s : S} {x : D} {h : List D} (ha : a s = .ok (x, h)) : dCall cf f (aCons a aNil) s = cf f [x] h := by
  simp only [dCall, aCons, aNil, bnd, Kr.ret, ha]
theorem call2 {cf : CallF} {f : Nat} {a b : DE} {s : S} {x y : D} {h h2 : List D} (ha : a s = .ok (x, h)) (hb : b ⟨s.σ, h⟩ = .ok (y, h2)) : dCall cf f (aCons a (aCons b aNil)) s = cf f [x, y] h2 := by
  simp only [dCall, aCons, aNil, bnd, Kr.ret, ha, hb]
theorem run_step {k f : Nat} {fn : Fn} {args H : List D} (hT : T f = some fn) (hl : args.length = fn.np) : runF T (k + 1) f args H = Kr.finish fn.fr (fn.body (runF T k) ⟨args.map some ++ List.replicate (fn.n - fn.np) none, H⟩) := by
  rw [runF, hT]
  dsimp only
  rw [if_pos hl]
/-! ### the draws' state -/
def mdD (ds : List Int) (n : Nat) : D := .dic [(.inr "draws", .lst (ds.map .int)), (.inr "at", .int (n : Int))]
def hs (H : List D) (j : Nat) (ds : List Int) (n : Nat) : List D := H.set j (mdD ds n)
theorem hs_get {H : List D} {j : Nat} (hj : j < H.length) (ds : List Int) (n : Nat) : (hs H j ds n)[j]? = some (mdD ds n) := List.getElem?_set_self hj
theorem hs_set (H : List D) (j : Nat) (ds : List Int) (n m : Nat) : (hs H j ds n).set j (mdD ds m) = hs H j ds m := List.set_set ..
theorem md_at (ds : List Int) (n : Nat) : gIx (mdD ds n) (.str "at") = some (.int (n : Int)) := by
  have h : ¬ (Str.ofString "draws" = Str.ofString "at") := by decide
  simp [mdD, gIx, dGet, h]
theorem md_draws (ds : List Int) (n : Nat) : gIx (mdD ds n) (.str "draws") = some (.lst (ds.map .int)) := by
  simp [mdD, gIx, dGet]
theorem md_put (ds : List Int) (n m : Nat) : D.dic (dPut [(.inr "draws", .lst (ds.map .int)), (.inr "at", .int (n : Int))] (.inr "at") (.int (m : Int))) = mdD ds m := by
  have h : ¬ (Str.ofString "draws" = Str.ofString "at") := by decide
  simp [mdD, dPut, h]
theorem four (i : Nat) (h : i < 4) : ∃ c : Int, gIx (.tup [.int 1, .int 7, .int 59, .int 211]) (.int (i : Int)) = some (.int c) ∧ 0 < c ∧ c < 1073741824 := by
  match i, h with
  | 0, _ => exact ⟨1, rfl, by omega, by omega⟩
  | 1, _ => exact ⟨7, rfl, by omega, by omega⟩
  | 2, _ => exact ⟨59, rfl, by omega, by omega⟩
  | 3, _ => exact ⟨211, rfl, by omega, by omega⟩
theorem take_run {H : List D} {j : Nat} {ds : List Int} (hj : j < H.length) (hl : ds.length = 200) (n : Nat) (k : Nat) (most : Nat) (hm : 0 < most) : ∃ r : Nat, r < most ∧ runF T (k + 1) 14 [.obj j, .int (most : Int)] (hs H j ds n) = .ok (.int (r : Int), hs H j ds (n + 1)) := by
  have hlen : gLen [.lst (ds.map .int)] = some (.int 200) := by simp [gLen, hl]
  have e1 : gMod (.int (n : Int)) (.int 200) = some (.int ((n % 200 : Nat) : Int)) := by rw [modc _ _ (by omega)]; congr 2
  obtain ⟨v, hv⟩ : ∃ v : Int, gIx (.lst (ds.map .int)) (.int ((n % 200 : Nat) : Int)) = some (.int v) := by
    have h : n % 200 < ds.length := by rw [hl]; exact Nat.mod_lt _ (by omega)
    exact ⟨ds[n % 200], ixL _ _ (by rw [List.getElem?_map, List.getElem?_eq_getElem h]; rfl)⟩
  have e2 : gDiv (.int (n : Int)) (.int 200) = some (.int ((n / 200 : Nat) : Int)) := by rw [divc _ _ (by omega)]; congr 2
  have e3 : gMod (.int ((n / 200 : Nat) : Int)) (.int 4) = some (.int ((n / 200 % 4 : Nat) : Int)) := by rw [modc _ _ (by omega)]; congr 2
  obtain ⟨c, hc, hc2⟩ := four (n / 200 % 4) (Nat.mod_lt _ (by omega))
  obtain ⟨q, hq⟩ : ∃ q, gDiv (.int v) (.int c) = some (.int q) := ⟨_, divc _ _ hc2⟩
  have e4 : gMul (.int 4) (.int 200) = some (.int 800) := by rw [mull _ _ (by omega)]; rfl
  obtain ⟨u, hu⟩ : ∃ u, gDiv (.int (n : Int)) (.int 800) = some (.int u) := ⟨_, divc _ _ (by omega)⟩
  obtain ⟨r, hr, hr2⟩ : ∃ r : Nat, gMod (.int (q + u)) (.int (most : Int)) = some (.int (r : Int)) ∧ r < most := by
    refine ⟨((q + u) % (most : Int)).toNat, ?_, ?_⟩
    · rw [modc _ _ (by omega)]
      have := Int.emod_nonneg (q + u) (by omega : (most : Int) ≠ 0)
      congr 2
      omega
    · have := Int.emod_nonneg (q + u) (by omega : (most : Int) ≠ 0)
      have := Int.emod_lt_of_pos (q + u) (by omega : (0 : Int) < (most : Int))
      omega
  refine ⟨r, hr2, ?_⟩
  have hG := hs_get hj ds n
  have hG' := hs_get hj ds (n + 1)
  have htup : ∀ s : S, (dTup (aCons (dC (.int 1)) (aCons (dC (.int 7)) (aCons (dC (.int 59)) (aCons (dC (.int 211)) aNil))))) s = .ok (.tup [.int 1, .int 7, .int 59, .int 211], s.h) := fun s => by simp [sSeq, sNil, sIf, sRet, sAsg, Kr.finish, o2, oV, oSlot, oOb, oOwn, bnd, Kr.ret, opt, dVar, dC, qVal, qTru, qNot, qAnd, qOr, dTup, aCons, aNil, dLst, dIf, dAnd, dOr, dNot, dB, oCons, oNil, derefL, deref, dCall, bName, bTup, bsCons, bsNil, dSl, dPart, sOwn, sRetOwn, sMV, sMO, sSet, sPop2, sPar, sObj, sPutO, sFor, iAnyD, iRng1D, iRng2D, iEnumD, itemsD, dComp, wipeD, sExpr, dIsi, bd, truD, gTuple, gList, gLen, gInt, dSorts, gSorted2, gSorts, dRev, gRev, gAdd, Kr.gSub, gIsN, gNotN, gLt, gLe, gGt, gGe, gAbs, mAppend, mExtend, mUpdate, toKey, sl0, sl1, sl2, sl3, sl4, sl5, sl6, sl7, sl8, sl11]
  have hput : (hs H j ds n).set j (.dic (dPut [(.inr "draws", .lst (ds.map .int)), (.inr "at", .int (n : Int))] (.inr "at") (.int ((n : Int) + 1)))) = hs H j ds (n + 1) := by
    have := md_put ds n (n + 1)
    rw [show (n : Int) + 1 = ((n + 1 : Nat) : Int) by omega, this, hs_set]
  rw [run_step T14_eq rfl]
  show Kr.finish false (B14 (runF T k) ⟨[some (.obj j), some (.int (most : Int)), none, none], hs H j ds n⟩) = _
  unfold B14
  rw [sSeqe (sAsge (obe rfl rfl hG (md_at ds n)))]
  rw [sSeqe (pute (o2e rfl rfl rfl) rfl rfl hG rfl (by show 2 < sizeLine; decide))]
  rw [hput]
  rw [sSeqe (sAsge (obe rfl rfl hG' (md_draws ds (n + 1))))]
  rw [rete (o2e (o2e (o2e (dBe (o2e rfl (o2e rfl (dBe rfl hlen) e1) hv) rfl) (o2e (htup _) (o2e (o2e rfl (dBe rfl hlen) e2) rfl e3) hc) hq) (o2e rfl (o2e rfl (dBe rfl hlen) e4) hu) rfl) rfl hr)]
  rfl
end Gk03

namespace Gk03
open PySem Kr
open L2 (Key)

def w11 : List Str := ["a", "b", "c", "d", "e", "f", "x1", "0", "1", "12", "ab"]
def w7 : List Str := ["a", "b", "c", "d", "e", "f", "x1"]
theorem strIx (l : List Str) (r : Nat) (h : r < l.length) : gIx (.tup (l.map .str)) (.int (r : Int)) = some (.str l[r]) := ixT r _ (by rw [List.getElem?_map, List.getElem?_eq_getElem h]; rfl)
theorem strIxL (l : List Str) (r : Nat) (h : r < l.length) : gIx (strsD l) (.int (r : Int)) = some (.str l[r]) := ixL r _ (by rw [List.getElem?_map, List.getElem?_eq_getElem h]; rfl)
theorem cgt {i : Nat} {s : S} {w : Int} (c : Int) (hs : s.σ[i]? = some (some (.int w))) : (qVal (o2 gGt (oV (dVar i)) (oV (dC (.int c))))) s = .ok (decide (c < w), s.h) := by simp [sSeq, sNil, sIf, sRet, sAsg, Kr.finish, o2, oV, oSlot, oOb, oOwn, bnd, Kr.ret, opt, dVar, dC, qVal, qTru, qNot, qAnd, qOr, dTup, aCons, aNil, dLst, dIf, dAnd, dOr, dNot, dB, oCons, oNil, derefL, deref, dCall, bName, bTup, bsCons, bsNil, dSl, dPart, sOwn, sRetOwn, sMV, sMO, sSet, sPop2, sPar, sObj, sPutO, sFor, iAnyD, iRng1D, iRng2D, iEnumD, itemsD, dComp, wipeD, sExpr, dIsi, bd, truD, gTuple, gList, gLen, gInt, dSorts, gSorted2, gSorts, dRev, gRev, gAdd, Kr.gSub, gIsN, gNotN, gLt, gLe, gGt, gGe, gAbs, mAppend, mExtend, mUpdate, toKey, sl0, sl1, sl2, sl3, sl4, sl5, sl6, sl7, sl8, sl11, hs]
theorem clt {i : Nat} {s : S} {w : Int} (c : Int) (hs : s.σ[i]? = some (some (.int w))) : (qVal (o2 gLt (oV (dVar i)) (oV (dC (.int c))))) s = .ok (decide (w < c), s.h) := by simp [sSeq, sNil, sIf, sRet, sAsg, Kr.finish, o2, oV, oSlot, oOb, oOwn, bnd, Kr.ret, opt, dVar, dC, qVal, qTru, qNot, qAnd, qOr, dTup, aCons, aNil, dLst, dIf, dAnd, dOr, dNot, dB, oCons, oNil, derefL, deref, dCall, bName, bTup, bsCons, bsNil, dSl, dPart, sOwn, sRetOwn, sMV, sMO, sSet, sPop2, sPar, sObj, sPutO, sFor, iAnyD, iRng1D, iRng2D, iEnumD, itemsD, dComp, wipeD, sExpr, dIsi, bd, truD, gTuple, gList, gLen, gInt, dSorts, gSorted2, gSorts, dRev, gRev, gAdd, Kr.gSub, gIsN, gNotN, gLt, gLe, gGt, gGe, gAbs, mAppend, mExtend, mUpdate, toKey, sl0, sl1, sl2, sl3, sl4, sl5, sl6, sl7, sl8, sl11, hs]
theorem ceq {i : Nat} {s : S} {w : Int} (c : Int) (hs : s.σ[i]? = some (some (.int w))) : (qVal (o2 gEq (oV (dVar i)) (oV (dC (.int c))))) s = .ok (decide (w = c), s.h) := by simp [sSeq, sNil, sIf, sRet, sAsg, Kr.finish, o2, oV, oSlot, oOb, oOwn, bnd, Kr.ret, opt, dVar, dC, qVal, qTru, qNot, qAnd, qOr, dTup, aCons, aNil, dLst, dIf, dAnd, dOr, dNot, dB, oCons, oNil, derefL, deref, dCall, bName, bTup, bsCons, bsNil, dSl, dPart, sOwn, sRetOwn, sMV, sMO, sSet, sPop2, sPar, sObj, sPutO, sFor, iAnyD, iRng1D, iRng2D, iEnumD, itemsD, dComp, wipeD, sExpr, dIsi, bd, truD, gTuple, gList, gLen, gInt, dSorts, gSorted2, gSorts, dRev, gRev, gAdd, Kr.gSub, gIsN, gNotN, gLt, gLe, gGt, gGe, gAbs, mAppend, mExtend, mUpdate, toKey, sl0, sl1, sl2, sl3, sl4, sl5, sl6, sl7, sl8, sl11, hs, eqI]
theorem ifF {c : DB} {a : DS} {s : S} {b : Bool} (hc : c s = .ok (b, s.h)) (hb : b = false) : sIf c a sNil s = .ok (.nx, s) := by
  subst hb
  unfold sIf
  rw [hc]
  rfl
theorem ifT {c : DB} {a rest : DS} {s s' : S} {x : D} {b : Bool} (hc : c s = .ok (b, s.h)) (hb : b = true) (ha : a s = .ok (.rt x, s')) : sSeq (sIf c a sNil) rest s = .ok (.rt x, s') := by
  subst hb
  have : sIf c a sNil s = .ok (.rt x, s') := by
    unfold sIf
    rw [hc]
    exact ha
  unfold sSeq
  rw [this]
section
variable {H : List D} {j : Nat} {ds : List Int}
theorem word_run (hj : j < H.length) (hl : ds.length = 200) (n k : Nat) : ∃ w : Str, runF T (k + 2) 15 [.obj j] (hs H j ds n) = .ok (.str w, hs H j ds (n + 1)) := by
  obtain ⟨r, hr, ht⟩ := take_run hj hl n k 11 (by omega)
  have ht : runF T (k + 1) 14 [.obj j, .int 11] (hs H j ds n) = .ok (.int (r : Int), hs H j ds (n + 1)) := ht
  have hx := strIx w11 r hr
  obtain ⟨w, hw⟩ : ∃ w : Str, gIx (.tup (w11.map .str)) (.int (r : Int)) = some (.str w) := ⟨_, hx⟩
  refine ⟨w, ?_⟩
  rw [run_step T15_eq rfl]
  show Kr.finish false (B15 (runF T (k + 1)) ⟨[some (.obj j)], hs H j ds n⟩) = _
  unfold B15
  rw [rete (o2e (x := .tup (w11.map .str)) (by simp [sSeq, sNil, sIf, sRet, sAsg, Kr.finish, o2, oV, oSlot, oOb, oOwn, bnd, Kr.ret, opt, dVar, dC, qVal, qTru, qNot, qAnd, qOr, dTup, aCons, aNil, dLst, dIf, dAnd, dOr, dNot, dB, oCons, oNil, derefL, deref, dCall, bName, bTup, bsCons, bsNil, dSl, dPart, sOwn, sRetOwn, sMV, sMO, sSet, sPop2, sPar, sObj, sPutO, sFor, iAnyD, iRng1D, iRng2D, iEnumD, itemsD, dComp, wipeD, sExpr, dIsi, bd, truD, gTuple, gList, gLen, gInt, dSorts, gSorted2, gSorts, dRev, gRev, gAdd, Kr.gSub, gIsN, gNotN, gLt, gLe, gGt, gGe, gAbs, mAppend, mExtend, mUpdate, toKey, sl0, sl1, sl2, sl3, sl4, sl5, sl6, sl7, sl8, sl11, w11, hs]) ((call2 rfl rfl).trans ht) hw)]
  rfl
theorem words_loop (hj : j < H.length) (hl : ds.length = 200) (k : Nat) (m : D) : ∀ (xs : List Nat) (n : Nat), ∃ ws : List Str, ws.length = xs.length ∧
    cLoop (cEl [2] (bName 2) (Kr.ret true) (dCall (runF T (k + 2)) 15 (aCons (dVar 0) aNil)) [some (.obj j), some m, none]) (xs.map fun (i : Nat) => D.int (i : Int)) (hs H j ds n) = .ok (ws.map .str, hs H j ds (n + xs.length))
  | [], n => ⟨[], rfl, rfl⟩
  | x :: xs, n => by
    obtain ⟨w, hw⟩ := word_run hj hl n k
    obtain ⟨ws, h1, h2⟩ := words_loop hj hl k m xs (n + 1)
    refine ⟨w :: ws, by simp [h1], ?_⟩
    have he : cEl [2] (bName 2) (Kr.ret true) (dCall (runF T (k + 2)) 15 (aCons (dVar 0) aNil)) [some (.obj j), some m, none] (.int (x : Int)) (hs H j ds n) = .ok (some (.str w), hs H j ds (n + 1)) := by
      simp [sSeq, sNil, sIf, sRet, sAsg, Kr.finish, o2, oV, oSlot, oOb, oOwn, bnd, Kr.ret, opt, dVar, dC, qVal, qTru, qNot, qAnd, qOr, dTup, aCons, aNil, dLst, dIf, dAnd, dOr, dNot, dB, oCons, oNil, derefL, deref, dCall, bName, bTup, bsCons, bsNil, dSl, dPart, sOwn, sRetOwn, sMV, sMO, sSet, sPop2, sPar, sObj, sPutO, sFor, iAnyD, iRng1D, iRng2D, iEnumD, itemsD, dComp, wipeD, sExpr, dIsi, bd, truD, gTuple, gList, gLen, gInt, dSorts, gSorted2, gSorts, dRev, gRev, gAdd, Kr.gSub, gIsN, gNotN, gLt, gLe, gGt, gGe, gAbs, mAppend, mExtend, mUpdate, toKey, sl0, sl1, sl2, sl3, sl4, sl5, sl6, sl7, sl8, sl11, cEl, hw]
    rw [List.map_cons, cLoop, he]
    dsimp only
    rw [h2]
    dsimp only
    rw [List.length_cons, show n + (xs.length + 1) = n + 1 + xs.length by omega]
    rfl
theorem words_run (hj : j < H.length) (hl : ds.length = 200) (n k : Nat) : ∃ (ws : List Str) (m : Nat), ws.length ≤ 3 ∧ runF T (k + 3) 16 [.obj j, .int 3] (hs H j ds n) = .ok (.tup (ws.map .str), hs H j ds m) := by
  obtain ⟨r, hr, ht⟩ := take_run hj hl n (k + 1) 4 (by omega)
  have ht : runF T (k + 2) 14 [.obj j, .int 4] (hs H j ds n) = .ok (.int (r : Int), hs H j ds (n + 1)) := ht
  obtain ⟨ws, h1, h2⟩ := words_loop hj hl k (.int 3) (List.range r) (n + 1)
  rw [List.length_range] at h1
  refine ⟨ws, n + 1 + (List.range r).length, by omega, ?_⟩
  have hi : (iRng1D (dCall (runF T (k + 2)) 14 (aCons (dVar 0) (aCons (o2 gAdd (oV (dVar 1)) (oV (dC (.int 1)))) aNil)))) ⟨[some (.obj j), some (.int 3), none], hs H j ds n⟩ = .ok ((List.range r).map fun (i : Nat) => D.int (i : Int), hs H j ds (n + 1)) := by
    have hc : (dCall (runF T (k + 2)) 14 (aCons (dVar 0) (aCons (o2 gAdd (oV (dVar 1)) (oV (dC (.int 1)))) aNil))) ⟨[some (.obj j), some (.int 3), none], hs H j ds n⟩ = .ok (.int (r : Int), hs H j ds (n + 1)) := (call2 rfl (o2e rfl rfl rfl)).trans ht
    have hrng : -16777216 ≤ (r : Int) ∧ (r : Int) ≤ 16777216 := by omega
    unfold iRng1D bnd
    rw [hc]
    simp [sSeq, sNil, sIf, sRet, sAsg, Kr.finish, o2, oV, oSlot, oOb, oOwn, bnd, Kr.ret, opt, dVar, dC, qVal, qTru, qNot, qAnd, qOr, dTup, aCons, aNil, dLst, dIf, dAnd, dOr, dNot, dB, oCons, oNil, derefL, deref, dCall, bName, bTup, bsCons, bsNil, dSl, dPart, sOwn, sRetOwn, sMV, sMO, sSet, sPop2, sPar, sObj, sPutO, sFor, iAnyD, iRng1D, iRng2D, iEnumD, itemsD, dComp, wipeD, sExpr, dIsi, bd, truD, gTuple, gList, gLen, gInt, dSorts, gSorted2, gSorts, dRev, gRev, gAdd, Kr.gSub, gIsN, gNotN, gLt, gLe, gGt, gGe, gAbs, mAppend, mExtend, mUpdate, toKey, sl0, sl1, sl2, sl3, sl4, sl5, sl6, sl7, sl8, sl11, hrng, rng_map]
  have hC : C16_0 (runF T (k + 2)) ⟨[some (.obj j), some (.int 3), none], hs H j ds n⟩ = .ok (.lst (ws.map .str), hs H j ds (n + 1 + (List.range r).length)) := by
    unfold C16_0 dComp
    rw [hi]
    dsimp only
    rw [h2]
  rw [run_step T16_eq rfl]
  show Kr.finish false (B16 (runF T (k + 2)) ⟨[some (.obj j), some (.int 3), none], hs H j ds n⟩) = _
  unfold B16
  rw [rete (dBe hC rfl)]
  rfl
theorem hd_read : Hd "read" none := ⟨by decide, by decide⟩
theorem atom_run (hj : j < H.length) (hl : ds.length = 200) (kn : List Str) (hkn : kn.length ≤ 1000) (n k : Nat) : ∃ (e : E) (m : Nat), Wf 2 e ∧ e.cnt ≤ 2 ∧ runF T (k + 4) 17 [.obj j, strsD kn] (hs H j ds n) = .ok (e.toD, hs H j ds m) := by
  obtain ⟨r, hr, ht⟩ := take_run hj hl n (k + 2) 6 (by omega)
  have ht : runF T (k + 3) 14 [.obj j, .int 6] (hs H j ds n) = .ok (.int (r : Int), hs H j ds (n + 1)) := ht
  have hA : (dCall (runF T (k + 3)) 14 (aCons (dVar 0) (aCons (dC (.int 6)) aNil))) ⟨[some (.obj j), some (strsD kn), none], hs H j ds n⟩ = .ok (.int (r : Int), hs H j ds (n + 1)) := (call2 rfl rfl).trans ht
  have hB : ∀ (x : D) (h : List D), B17 (runF T (k + 3)) ⟨[some (.obj j), some (strsD kn), none], hs H j ds n⟩ = .ok (.rt x, ⟨[some (.obj j), some (strsD kn), some (.int (r : Int))], h⟩) → runF T (k + 4) 17 [.obj j, strsD kn] (hs H j ds n) = .ok (x, h) := by
    intro x h hh
    rw [run_step T17_eq rfl]
    show Kr.finish false (B17 (runF T (k + 3)) ⟨[some (.obj j), some (strsD kn), none], hs H j ds n⟩) = _
    rw [hh]
    rfl
  have hlen : gLen [strsD kn] = some (.int (kn.length : Int)) := by simp [gLen, strsD]
  have hcond : (qAnd (qVal (o2 gLt (oV (dVar 2)) (oV (dC (.int 2))))) (qVal (o2 gGt (oV (dB gLen (oCons (oV (dVar 1)) oNil))) (oV (dC (.int 0)))))) ⟨[some (.obj j), some (strsD kn), some (.int (r : Int))], hs H j ds (n + 1)⟩ = .ok (decide ((r : Int) < 2) && decide (0 < (kn.length : Int)), hs H j ds (n + 1)) := by
    have h1 := clt (i := 2) (s := ⟨[some (.obj j), some (strsD kn), some (.int (r : Int))], hs H j ds (n + 1)⟩) (w := (r : Int)) 2 rfl
    have h2 : (qVal (o2 gGt (oV (dB gLen (oCons (oV (dVar 1)) oNil))) (oV (dC (.int 0))))) ⟨[some (.obj j), some (strsD kn), some (.int (r : Int))], hs H j ds (n + 1)⟩ = .ok (decide (0 < (kn.length : Int)), hs H j ds (n + 1)) := by
      unfold qVal bnd
      rw [o2e (dBe rfl hlen) rfl rfl]
      rfl
    unfold qAnd bnd
    rw [h1]
    dsimp only
    cases decide ((r : Int) < 2) with
    | true => rw [if_pos rfl, h2, Bool.true_and]
    | false => rw [if_neg (by simp)]; rfl
  by_cases hc : (decide ((r : Int) < 2) && decide (0 < (kn.length : Int))) = true
  · have hk0 : 0 < kn.length := by simp at hc; omega
    obtain ⟨r2, hr2, ht2⟩ := take_run hj hl (n + 1) (k + 2) kn.length hk0
    refine ⟨.name kn[r2], n + 1 + 1, .name _ _, by simp [E.cnt], hB _ _ ?_⟩
    unfold B17
    rw [sSeqe (sAsge hA)]
    refine ifT hcond hc (rete ?_)
    have h3 : (o2 gIx (oV (dVar 1)) (oV (dCall (runF T (k + 3)) 14 (aCons (dVar 0) (aCons (dB gLen (oCons (oV (dVar 1)) oNil)) aNil))))) ⟨[some (.obj j), some (strsD kn), some (.int (r : Int))], hs H j ds (n + 1)⟩ = .ok (.str kn[r2], hs H j ds (n + 1 + 1)) := o2e rfl ((call2 rfl (dBe rfl hlen)).trans ht2) (strIxL kn r2 hr2)
    show (dTup (aCons (dC (.str "name")) (aCons (o2 gIx (oV (dVar 1)) (oV (dCall (runF T (k + 3)) 14 (aCons (dVar 0) (aCons (dB gLen (oCons (oV (dVar 1)) oNil)) aNil))))) aNil))) ⟨[some (.obj j), some (strsD kn), some (.int (r : Int))], hs H j ds (n + 1)⟩ = _
    generalize (o2 gIx (oV (dVar 1)) (oV (dCall (runF T (k + 3)) 14 (aCons (dVar 0) (aCons (dB gLen (oCons (oV (dVar 1)) oNil)) aNil))))) = dd at h3
    simp [dTup, aCons, aNil, bnd, Kr.ret, dC, h3, opt, bd, sl2, E.toD]
  · have hc : (decide ((r : Int) < 2) && decide (0 < (kn.length : Int))) = false := by simpa using hc
    by_cases h5 : (r : Int) < 5
    · obtain ⟨r2, hr2, ht2⟩ := take_run hj hl (n + 1) (k + 2) 7 (by omega)
      have ht2 : runF T (k + 3) 14 [.obj j, .int 7] (hs H j ds (n + 1)) = .ok (.int (r2 : Int), hs H j ds (n + 1 + 1)) := ht2
      have hx := strIx w7 r2 hr2
      obtain ⟨w, hw⟩ : ∃ w : Str, gIx (.tup (w7.map .str)) (.int (r2 : Int)) = some (.str w) := ⟨_, hx⟩
      refine ⟨.node "read" none [.text [w]], n + 1 + 1, .node 1 _ _ _ hd_read (by simp) (fun e he => ?_), by simp [E.cnt], hB _ _ ?_⟩
      · rw [List.mem_singleton] at he; subst he; exact .text 0 [w] (by simp)
      · unfold B17
        rw [sSeqe (sAsge hA)]
        show sSeq _ _ ⟨[some (.obj j), some (strsD kn), some (.int (r : Int))], hs H j ds (n + 1)⟩ = _
        rw [sSeqe (ifF hcond hc)]
        refine ifT (clt 5 rfl) (by simpa using h5) (rete ?_)
        have h3 : ∀ s : S, s.σ = [some (.obj j), some (strsD kn), some (.int (r : Int))] → s.h = hs H j ds (n + 1) → (o2 gIx (oV (dTup (aCons (dC (.str "a")) (aCons (dC (.str "b")) (aCons (dC (.str "c")) (aCons (dC (.str "d")) (aCons (dC (.str "e")) (aCons (dC (.str "f")) (aCons (dC (.str "x1")) aNil))))))))) (oV (dCall (runF T (k + 3)) 14 (aCons (dVar 0) (aCons (dC (.int 7)) aNil))))) s = .ok (.str w, hs H j ds (n + 1 + 1)) := by
          intro s e1 e2
          obtain ⟨σ, h⟩ := s
          dsimp only at e1 e2
          subst e1 e2
          exact o2e (x := .tup (w7.map .str)) (by simp [sSeq, sNil, sIf, sRet, sAsg, Kr.finish, o2, oV, oSlot, oOb, oOwn, bnd, Kr.ret, opt, dVar, dC, qVal, qTru, qNot, qAnd, qOr, dTup, aCons, aNil, dLst, dIf, dAnd, dOr, dNot, dB, oCons, oNil, derefL, deref, dCall, bName, bTup, bsCons, bsNil, dSl, dPart, sOwn, sRetOwn, sMV, sMO, sSet, sPop2, sPar, sObj, sPutO, sFor, iAnyD, iRng1D, iRng2D, iEnumD, itemsD, dComp, wipeD, sExpr, dIsi, bd, truD, gTuple, gList, gLen, gInt, dSorts, gSorted2, gSorts, dRev, gRev, gAdd, Kr.gSub, gIsN, gNotN, gLt, gLe, gGt, gGe, gAbs, mAppend, mExtend, mUpdate, toKey, sl0, sl1, sl2, sl3, sl4, sl5, sl6, sl7, sl8, sl11, w7, hs]) ((call2 rfl rfl).trans ht2) hw
        have h4 := h3 ⟨[some (.obj j), some (strsD kn), some (.int (r : Int))], hs H j ds (n + 1)⟩ rfl rfl
        show (dTup (aCons (dC (.str "read")) (aCons (dTup (aCons (dC (.str "text")) (aCons (dTup (aCons (o2 gIx (oV (dTup (aCons (dC (.str "a")) (aCons (dC (.str "b")) (aCons (dC (.str "c")) (aCons (dC (.str "d")) (aCons (dC (.str "e")) (aCons (dC (.str "f")) (aCons (dC (.str "x1")) aNil))))))))) (oV (dCall (runF T (k + 3)) 14 (aCons (dVar 0) (aCons (dC (.int 7)) aNil))))) aNil)) aNil))) aNil))) ⟨[some (.obj j), some (strsD kn), some (.int (r : Int))], hs H j ds (n + 1)⟩ = _
        generalize (o2 gIx (oV (dTup (aCons (dC (.str "a")) (aCons (dC (.str "b")) (aCons (dC (.str "c")) (aCons (dC (.str "d")) (aCons (dC (.str "e")) (aCons (dC (.str "f")) (aCons (dC (.str "x1")) aNil))))))))) (oV (dCall (runF T (k + 3)) 14 (aCons (dVar 0) (aCons (dC (.int 7)) aNil))))) = dd at h4
        simp [dTup, aCons, aNil, bnd, Kr.ret, dC, h4, opt, bd, sl1, sl2, E.toD, pre]
    · obtain ⟨ws, m, hw1, hw2⟩ := words_run hj hl (n + 1) k
      refine ⟨.text ws, m, .text _ _ (by omega), by simp [E.cnt], hB _ _ ?_⟩
      unfold B17
      rw [sSeqe (sAsge hA)]
      show sSeq _ _ ⟨[some (.obj j), some (strsD kn), some (.int (r : Int))], hs H j ds (n + 1)⟩ = _
      rw [sSeqe (ifF hcond hc), sSeqe (ifF (clt (w := (r : Int)) 5 rfl) (by simpa using h5))]
      refine rete ?_
      have h4 : (dCall (runF T (k + 3)) 16 (aCons (dVar 0) (aCons (dC (.int 3)) aNil))) ⟨[some (.obj j), some (strsD kn), some (.int (r : Int))], hs H j ds (n + 1)⟩ = .ok (.tup (ws.map .str), hs H j ds m) := (call2 rfl rfl).trans hw2
      show (dTup (aCons (dC (.str "text")) (aCons (dCall (runF T (k + 3)) 16 (aCons (dVar 0) (aCons (dC (.int 3)) aNil))) aNil))) ⟨[some (.obj j), some (strsD kn), some (.int (r : Int))], hs H j ds (n + 1)⟩ = _
      generalize (dCall (runF T (k + 3)) 16 (aCons (dVar 0) (aCons (dC (.int 3)) aNil))) = dd at h4
      simp [dTup, aCons, aNil, bnd, Kr.ret, dC, h4, opt, bd, sl1, sl2, E.toD]
end
end Gk03

namespace Gk03
open PySem Kr
open L2 (Key)

theorem dVare {i : Nat} {s : S} {d : D} (h : s.σ[i]? = some (some d)) : dVar i s = .ok (d, s.h) := by
  unfold dVar
  rw [h]
theorem aCe {a : DE} {r : DA} {s : S} {x : D} {xs : List D} {h h2 : List D} (ha : a s = .ok (x, h)) (hr : r ⟨s.σ, h⟩ = .ok (xs, h2)) : aCons a r s = .ok (x :: xs, h2) := by
  simp only [aCons, bnd, Kr.ret, ha, hr]
theorem aCe1 {a : DE} {s : S} {x : D} {h : List D} (ha : a s = .ok (x, h)) : aCons a aNil s = .ok ([x], h) := aCe ha rfl
theorem tupe {a : DA} {s : S} {xs : List D} {h : List D} (ha : a s = .ok (xs, h)) (hz : xs.length ≤ sizeLine) : dTup a s = .ok (.tup xs, h) := by
  simp only [dTup, bnd, ha, bd]
  rw [if_pos hz]
  rfl
theorem lste {a : DA} {s : S} {xs : List D} {h : List D} (ha : a s = .ok (xs, h)) (hz : xs.length ≤ sizeLine) : dLst a s = .ok (.lst xs, h) := by
  simp only [dLst, bnd, ha, bd]
  rw [if_pos hz]
  rfl
theorem pare {i j : Nat} {a : DA} {s : S} {x y : D} {h : List D} (ha : a s = .ok ([x, y], h)) : sPar i j a s = .ok (.nx, ⟨(s.σ.set i (some x)).set j (some y), h⟩) := by
  unfold sPar
  rw [ha]
theorem qvale {d : DE} {s : S} {b : Bool} {h : List D} (hd : d s = .ok (.bl b, h)) : qVal d s = .ok (b, h) := by
  unfold qVal bnd
  rw [hd]
  rfl
theorem dife {c : DB} {a b : DE} {s : S} {k : Bool} {h : List D} (hc : c s = .ok (k, h)) : dIf c a b s = (if k = true then a else b) ⟨s.σ, h⟩ := by
  unfold dIf bnd
  rw [hc]
theorem call4 {cf : CallF} {f : Nat} {a b c d : DE} {s : S} {x y z u : D} {h : List D} (ha : a s = .ok (x, h)) (hb : b ⟨s.σ, h⟩ = .ok (y, h)) (hc : c ⟨s.σ, h⟩ = .ok (z, h)) (hd : d ⟨s.σ, h⟩ = .ok (u, h)) : dCall cf f (aCons a (aCons b (aCons c (aCons d aNil)))) s = cf f [x, y, z, u] h := by
  simp only [dCall, aCons, aNil, bnd, Kr.ret, ha, hb, hc, hd]
theorem addT {a b : List D} (h : a.length + b.length ≤ sizeLine) : gAdd (.tup a) (.tup b) = some (.tup (a ++ b)) := by
  simp only [gAdd, bd]
  rw [if_pos h]
theorem addL {a b : List D} (h : a.length + b.length ≤ sizeLine) : gAdd (.lst a) (.lst b) = some (.lst (a ++ b)) := by
  simp only [gAdd, bd]
  rw [if_pos h]
theorem vname : ∀ n : Nat, n ≤ 5 → ∃ x y : Str, gStr [.int (n : Int)] = some (.str x) ∧ gAdd (.str "v") (.str x) = some (.str y) := by
  intro n h
  match n, h with
  | 0, _ => exact ⟨"0", "v0", by kernel_rfl, by kernel_rfl⟩
  | 1, _ => exact ⟨"1", "v1", by kernel_rfl, by kernel_rfl⟩
  | 2, _ => exact ⟨"2", "v2", by kernel_rfl, by kernel_rfl⟩
  | 3, _ => exact ⟨"3", "v3", by kernel_rfl, by kernel_rfl⟩
  | 4, _ => exact ⟨"4", "v4", by kernel_rfl, by kernel_rfl⟩
  | 5, _ => exact ⟨"5", "v5", by kernel_rfl, by kernel_rfl⟩
def R18 (cf : CallF) : DS := (sSeq (sIf (qVal (o2 gGt (oV (dVar 4)) (oV (dC (.int 11))))) (sRet (dCall cf 17 (aCons (dVar 0) (aCons (dVar 1) aNil)))) sNil)
    (sSeq (sIf (qVal (o2 gLt (oV (dVar 4)) (oV (dC (.int 4))))) (sSeq (sPar 5 6 (aCons (dCall cf 18 (aCons (dVar 0) (aCons (dVar 1) (aCons (o2 Kr.gSub (oV (dVar 2)) (oV (dC (.int 1)))) (aCons (dVar 3) aNil))))) (aCons (dCall cf 17 (aCons (dVar 0) (aCons (dVar 1) aNil))) aNil)))
    (sSeq (sAsg (dIf (qVal (o2 gEq (oV (dCall cf 14 (aCons (dVar 0) (aCons (dC (.int 2)) aNil)))) (oV (dC (.int 0))))) (dTup (aCons (dVar 5) (aCons (dVar 6) aNil))) (dTup (aCons (dVar 6) (aCons (dVar 5) aNil)))) (bName 7))
    (sRet (o2 gAdd (oV (dTup (aCons (dIf (qVal (o2 gLt (oV (dVar 4)) (oV (dC (.int 3))))) (dC (.str "join")) (dC (.str "glue"))) aNil))) (oV (dVar 7)))))) sNil)
    (sSeq (sIf (qVal (o2 gLt (oV (dVar 4)) (oV (dC (.int 6))))) (sSeq (sAsg (dCall cf 18 (aCons (dVar 0) (aCons (dVar 1) (aCons (o2 Kr.gSub (oV (dVar 2)) (oV (dC (.int 1)))) (aCons (dVar 3) aNil))))) (bName 8))
    (sRet (dTup (aCons (dC (.str "if")) (aCons (dVar 8) (aCons (dCall cf 17 (aCons (dVar 0) (aCons (dVar 1) aNil))) (aCons (dCall cf 18 (aCons (dVar 0) (aCons (dVar 1) (aCons (o2 Kr.gSub (oV (dVar 2)) (oV (dC (.int 1)))) (aCons (dVar 3) aNil))))) (aCons (dCall cf 17 (aCons (dVar 0) (aCons (dVar 1) aNil))) aNil)))))))) sNil)
    (sSeq (sIf (qVal (o2 gEq (oV (dVar 4)) (oV (dC (.int 6))))) (sRet (dTup (aCons (dC (.str "read")) (aCons (dTup (aCons (dC (.str "first")) (aCons (dCall cf 18 (aCons (dVar 0) (aCons (dVar 1) (aCons (o2 Kr.gSub (oV (dVar 2)) (oV (dC (.int 1)))) (aCons (dVar 3) aNil))))) aNil))) aNil)))) sNil)
    (sSeq (sIf (qVal (o2 gLt (oV (dVar 4)) (oV (dC (.int 9))))) (sRet (dTup (aCons (o2 gIx (oV (dTup (aCons (dC (.str "first")) (aCons (dC (.str "rest")) (aCons (dC (.str "count")) (aCons (dC (.str "order")) aNil)))))) (oV (dCall cf 14 (aCons (dVar 0) (aCons (dC (.int 4)) aNil))))) (aCons (dCall cf 18 (aCons (dVar 0) (aCons (dVar 1) (aCons (o2 Kr.gSub (oV (dVar 2)) (oV (dC (.int 1)))) (aCons (dVar 3) aNil))))) aNil)))) sNil)
    (sSeq (sAsg (o2 gAdd (oV (dC (.str "v"))) (oV (dB gStr (oCons (oV (dB gLen (oCons (oV (dVar 1)) oNil))) oNil)))) (bName 9))
    (sSeq (sIf (qOr (qVal (o2 gEq (oV (dVar 4)) (oV (dC (.int 9))))) (qVal (o2 gEq (oV (dVar 3)) (oV (dC (.int 0)))))) (sRet (dTup (aCons (dC (.str "let")) (aCons (dVar 9) (aCons (dCall cf 18 (aCons (dVar 0) (aCons (dVar 1) (aCons (o2 Kr.gSub (oV (dVar 2)) (oV (dC (.int 1)))) (aCons (dVar 3) aNil))))) (aCons (dCall cf 18 (aCons (dVar 0) (aCons (o2 gAdd (oV (dVar 1)) (oV (dLst (aCons (dVar 9) aNil)))) (aCons (o2 Kr.gSub (oV (dVar 2)) (oV (dC (.int 1)))) (aCons (dVar 3) aNil))))) aNil)))))) sNil)
    (sSeq (sIf (qVal (o2 gEq (oV (dVar 4)) (oV (dC (.int 10))))) (sRet (dTup (aCons (dC (.str "each")) (aCons (dVar 9) (aCons (dCall cf 17 (aCons (dVar 0) (aCons (dVar 1) aNil))) (aCons (dCall cf 18 (aCons (dVar 0) (aCons (o2 gAdd (oV (dVar 1)) (oV (dLst (aCons (dVar 9) aNil)))) (aCons (o2 Kr.gSub (oV (dVar 2)) (oV (dC (.int 1)))) (aCons (o2 Kr.gSub (oV (dVar 3)) (oV (dC (.int 1)))) aNil))))) aNil)))))) sNil)
    (sRet (dTup (aCons (dC (.str "each")) (aCons (dVar 9) (aCons (dCall cf 18 (aCons (dVar 0) (aCons (dVar 1) (aCons (o2 Kr.gSub (oV (dVar 2)) (oV (dC (.int 1)))) (aCons (dVar 3) aNil))))) (aCons (dTup (aCons (dC (.str "read")) (aCons (dTup (aCons (dC (.str "name")) (aCons (dVar 9) aNil))) aNil))) aNil))))))))))))))
def cb : Nat → Nat
  | 0 => 2
  | d + 1 => 2 * cb d + 5
theorem cb2 : ∀ d, 2 ≤ cb d
  | 0 => Nat.le_refl _
  | d + 1 => by unfold cb; omega
def w4 : List Str := ["first", "rest", "count", "order"]
theorem w4_hd : ∀ (r : Nat) (h : r < w4.length), Hd w4[r] none := by
  intro r h
  match r, h with
  | 0, _ => exact (⟨by decide, by decide⟩ : Hd "first" none)
  | 1, _ => exact (⟨by decide, by decide⟩ : Hd "rest" none)
  | 2, _ => exact (⟨by decide, by decide⟩ : Hd "count" none)
  | 3, _ => exact (⟨by decide, by decide⟩ : Hd "order" none)
theorem node1 {n C : Nat} {h : Str} {a : E} (hd : Hd h none) (wa : Wf n a) (ca : a.cnt ≤ C) : Wf (n + 1) (.node h none [a]) ∧ (E.node h none [a]).cnt ≤ 1 + C ∧ (E.node h none [a]).toD = .tup [.str h, a.toD] :=
  ⟨.node _ _ _ _ hd (by simp) (fun k hk => by rw [List.mem_singleton] at hk; subst hk; exact wa), by simp [E.cnt]; omega, by simp [E.toD, pre]⟩
section
variable {H : List D} {j : Nat} {ds : List Int}
theorem tree_run (hj : j < H.length) (hl : ds.length = 200) : ∀ (d : Nat) (kn : List Str) (l : Int) (n k : Nat), kn.length + d ≤ 5 →
    ∃ (e : E) (m : Nat), Wf (2 * d + 2) e ∧ e.cnt ≤ cb d ∧ runF T (k + d + 5) 18 [.obj j, strsD kn, .int (d : Int), .int l] (hs H j ds n) = .ok (e.toD, hs H j ds m) := by
  intro d
  induction d with
  | zero =>
    intro kn l n k hk
    obtain ⟨e, m, we, ce, hr⟩ := atom_run hj hl kn (by omega) n k
    refine ⟨e, m, we, ce, ?_⟩
    rw [run_step T18_eq rfl]
    show Kr.finish false (B18 (runF T (k + 4)) ⟨[some (.obj j), some (strsD kn), some (.int ((0 : Nat) : Int)), some (.int l), none, none, none, none, none, none], hs H j ds n⟩) = _
    unfold B18
    have hw : (dIf (qVal (o2 gGt (oV (dVar 2)) (oV (dC (.int 0))))) (dCall (runF T (k + 4)) 14 (aCons (dVar 0) (aCons (dC (.int 14)) aNil))) (dC (.int 14))) ⟨[some (.obj j), some (strsD kn), some (.int ((0 : Nat) : Int)), some (.int l), none, none, none, none, none, none], hs H j ds n⟩ = .ok (.int 14, hs H j ds n) := by
      rw [dife (cgt (w := ((0 : Nat) : Int)) 0 rfl)]
      rfl
    rw [sSeqe (sAsge hw)]
    have h1 : (dCall (runF T (k + 4)) 17 (aCons (dVar 0) (aCons (dVar 1) aNil))) ⟨[some (.obj j), some (strsD kn), some (.int ((0 : Nat) : Int)), some (.int l), some (.int 14), none, none, none, none, none], hs H j ds n⟩ = .ok (e.toD, hs H j ds m) := (call2 rfl rfl).trans hr
    exact congrArg (Kr.finish false) (ifT (s := ⟨[some (.obj j), some (strsD kn), some (.int ((0 : Nat) : Int)), some (.int l), some (.int 14), none, none, none, none, none], hs H j ds n⟩) (cgt (w := 14) 11 rfl) (by decide) (rete h1))
  | succ d ih =>
    intro kn l n k hk
    have hsub : Kr.gSub (.int ((d + 1 : Nat) : Int)) (.int 1) = some (.int (d : Int)) := by
      show some (D.int (((d + 1 : Nat) : Int) - 1)) = _
      congr 2
      omega
    have hc2 := cb2 d
    have hcb : cb (d + 1) = 2 * cb d + 5 := rfl
    obtain ⟨r, hr, ht⟩ := take_run hj hl n (k + d + 4) 14 (by omega)
    have ht : runF T (k + d + 5) 14 [.obj j, .int 14] (hs H j ds n) = .ok (.int (r : Int), hs H j ds (n + 1)) := ht
    rw [show k + (d + 1) + 5 = k + d + 5 + 1 by omega]
    have hw : (dIf (qVal (o2 gGt (oV (dVar 2)) (oV (dC (.int 0))))) (dCall (runF T (k + d + 5)) 14 (aCons (dVar 0) (aCons (dC (.int 14)) aNil))) (dC (.int 14))) ⟨[some (.obj j), some (strsD kn), some (.int ((d + 1 : Nat) : Int)), some (.int l), none, none, none, none, none, none], hs H j ds n⟩ = .ok (.int (r : Int), hs H j ds (n + 1)) := by
      rw [dife (cgt (w := ((d + 1 : Nat) : Int)) 0 rfl), if_pos (decide_eq_true (by omega))]
      exact (call2 rfl rfl).trans ht
    -- the slots behind the first draw
    obtain ⟨σ, hσ⟩ : ∃ σ : List (Option D), σ = [some (.obj j), some (strsD kn), some (.int ((d + 1 : Nat) : Int)), some (.int l), some (.int (r : Int)), none, none, none, none, none] := ⟨_, rfl⟩
    have fin : ∀ (e : E) (m : Nat) (σ' : List (Option D)), Wf (2 * (d + 1) + 2) e → e.cnt ≤ cb (d + 1) → R18 (runF T (k + d + 5)) ⟨σ, hs H j ds (n + 1)⟩ = .ok (.rt e.toD, ⟨σ', hs H j ds m⟩) →
        ∃ (e : E) (m : Nat), Wf (2 * (d + 1) + 2) e ∧ e.cnt ≤ cb (d + 1) ∧ runF T (k + d + 5 + 1) 18 [.obj j, strsD kn, .int ((d + 1 : Nat) : Int), .int l] (hs H j ds n) = .ok (e.toD, hs H j ds m) := by
      intro e m σ' we ce hh
      refine ⟨e, m, we, ce, ?_⟩
      rw [run_step T18_eq rfl]
      show Kr.finish false (B18 (runF T (k + d + 5)) ⟨[some (.obj j), some (strsD kn), some (.int ((d + 1 : Nat) : Int)), some (.int l), none, none, none, none, none, none], hs H j ds n⟩) = _
      unfold B18
      rw [sSeqe (sAsge hw)]
      subst hσ
      exact congrArg (Kr.finish false) hh
    have pass : ∀ {c : DB} {a rest : DS} {b : Bool} {x : R (O × S)}, c ⟨σ, hs H j ds (n + 1)⟩ = .ok (b, hs H j ds (n + 1)) → b = false → rest ⟨σ, hs H j ds (n + 1)⟩ = x → sSeq (sIf c a sNil) rest ⟨σ, hs H j ds (n + 1)⟩ = x := fun hc hb hr => (sSeqe (ifF hc hb)).trans hr
    -- calls
    have atom : ∀ (σ2 : List (Option D)) (n2 : Nat), σ2[0]? = some (some (.obj j)) → σ2[1]? = some (some (strsD kn)) → ∃ (e : E) (m : Nat), Wf 2 e ∧ e.cnt ≤ 2 ∧ (dCall (runF T (k + d + 5)) 17 (aCons (dVar 0) (aCons (dVar 1) aNil))) ⟨σ2, hs H j ds n2⟩ = .ok (e.toD, hs H j ds m) := by
      intro σ2 n2 e0 e1
      obtain ⟨e, m, we, ce, hr⟩ := atom_run hj hl kn (by omega) n2 (k + d + 1)
      exact ⟨e, m, we, ce, (call2 (dVare e0) (dVare e1)).trans hr⟩
    have tree : ∀ (σ2 : List (Option D)) (n2 : Nat), σ2[0]? = some (some (.obj j)) → σ2[1]? = some (some (strsD kn)) → σ2[2]? = some (some (.int ((d + 1 : Nat) : Int))) → σ2[3]? = some (some (.int l)) → ∃ (e : E) (m : Nat), Wf (2 * d + 2) e ∧ e.cnt ≤ cb d ∧
        (dCall (runF T (k + d + 5)) 18 (aCons (dVar 0) (aCons (dVar 1) (aCons (o2 Kr.gSub (oV (dVar 2)) (oV (dC (.int 1)))) (aCons (dVar 3) aNil))))) ⟨σ2, hs H j ds n2⟩ = .ok (e.toD, hs H j ds m) := by
      intro σ2 n2 e0 e1 e2 e3
      obtain ⟨e, m, we, ce, hr⟩ := ih kn l n2 k (by omega)
      exact ⟨e, m, we, ce, (call4 (dVare e0) (dVare e1) (o2e (dVare e2) rfl hsub) (dVare e3)).trans hr⟩
    have take : ∀ (σ2 : List (Option D)) (n2 : Nat) (c : Nat), 0 < c → σ2[0]? = some (some (.obj j)) → ∃ r : Nat, r < c ∧ (dCall (runF T (k + d + 5)) 14 (aCons (dVar 0) (aCons (dC (.int (c : Int))) aNil))) ⟨σ2, hs H j ds n2⟩ = .ok (.int (r : Int), hs H j ds (n2 + 1)) := by
      intro σ2 n2 c h0 e0
      obtain ⟨r, hr, ht⟩ := take_run hj hl n2 (k + d + 4) c h0
      exact ⟨r, hr, (call2 (dVare e0) rfl).trans ht⟩
    have s0 : σ[0]? = some (some (.obj j)) := by rw [hσ]; rfl
    have s1 : σ[1]? = some (some (strsD kn)) := by rw [hσ]; rfl
    have s2 : σ[2]? = some (some (.int ((d + 1 : Nat) : Int))) := by rw [hσ]; rfl
    have s3 : σ[3]? = some (some (.int l)) := by rw [hσ]; rfl
    have s4 : σ[4]? = some (some (.int (r : Int))) := by rw [hσ]; rfl
    by_cases h11 : (11 : Int) < (r : Int)
    · obtain ⟨e, m, we, ce, hA⟩ := atom σ (n + 1) s0 s1
      exact fin e m σ (we.up (by omega)) (by omega) (by unfold R18; exact ifT (cgt 11 s4) (decide_eq_true h11) (rete hA))
    by_cases h4 : (r : Int) < 4
    · obtain ⟨e1, m1, w1, c1, hT1⟩ := tree σ (n + 1) s0 s1 s2 s3
      obtain ⟨e2, m2, w2, c2, hA2⟩ := atom σ m1 s0 s1
      obtain ⟨r3, hr3, ht3⟩ := take ((σ.set 5 (some e1.toD)).set 6 (some e2.toD)) m2 2 (by omega) (by rw [hσ]; rfl)
      have ht3 : (dCall (runF T (k + d + 5)) 14 (aCons (dVar 0) (aCons (dC (.int 2)) aNil))) ⟨(σ.set 5 (some e1.toD)).set 6 (some e2.toD), hs H j ds m2⟩ = .ok (.int (r3 : Int), hs H j ds (m2 + 1)) := ht3
      have hpar : sPar 5 6 (aCons (dCall (runF T (k + d + 5)) 18 (aCons (dVar 0) (aCons (dVar 1) (aCons (o2 Kr.gSub (oV (dVar 2)) (oV (dC (.int 1)))) (aCons (dVar 3) aNil))))) (aCons (dCall (runF T (k + d + 5)) 17 (aCons (dVar 0) (aCons (dVar 1) aNil))) aNil)) ⟨σ, hs H j ds (n + 1)⟩ = .ok (.nx, ⟨(σ.set 5 (some e1.toD)).set 6 (some e2.toD), hs H j ds m2⟩) := pare (aCe hT1 (aCe hA2 rfl))
      obtain ⟨a, b, hab, hpair⟩ : ∃ a b : E, ((a = e1 ∧ b = e2) ∨ (a = e2 ∧ b = e1)) ∧ (dIf (qVal (o2 gEq (oV (dCall (runF T (k + d + 5)) 14 (aCons (dVar 0) (aCons (dC (.int 2)) aNil)))) (oV (dC (.int 0))))) (dTup (aCons (dVar 5) (aCons (dVar 6) aNil))) (dTup (aCons (dVar 6) (aCons (dVar 5) aNil)))) ⟨(σ.set 5 (some e1.toD)).set 6 (some e2.toD), hs H j ds m2⟩ = .ok (.tup [a.toD, b.toD], hs H j ds (m2 + 1)) := by
        rw [dife (qvale (o2e ht3 rfl (eqI _ _)))]
        have g5 : ((σ.set 5 (some e1.toD)).set 6 (some e2.toD))[5]? = some (some e1.toD) := by rw [hσ]; rfl
        have g6 : ((σ.set 5 (some e1.toD)).set 6 (some e2.toD))[6]? = some (some e2.toD) := by rw [hσ]; rfl
        by_cases hz : (r3 : Int) = 0
        · exact ⟨e1, e2, .inl ⟨rfl, rfl⟩, by rw [decide_eq_true hz, if_pos rfl]; exact tupe (aCe (dVare g5) (aCe (dVare g6) rfl)) sl2⟩
        · exact ⟨e2, e1, .inr ⟨rfl, rfl⟩, by rw [decide_eq_false hz, if_neg (by simp)]; exact tupe (aCe (dVare g6) (aCe (dVare g5) rfl)) sl2⟩
      obtain ⟨σ3, hσ3⟩ : ∃ σ3, σ3 = ((σ.set 5 (some e1.toD)).set 6 (some e2.toD)).set 7 (some (D.tup [a.toD, b.toD])) := ⟨_, rfl⟩
      have q4 : σ3[4]? = some (some (.int (r : Int))) := by rw [hσ3, hσ]; rfl
      have q7 : σ3[7]? = some (some (.tup [a.toD, b.toD])) := by rw [hσ3, hσ]; rfl
      obtain ⟨hd, hhd, hhead⟩ : ∃ hd : Str, Hd hd none ∧ (dIf (qVal (o2 gLt (oV (dVar 4)) (oV (dC (.int 3))))) (dC (.str "join")) (dC (.str "glue"))) ⟨σ3, hs H j ds (m2 + 1)⟩ = .ok (.str hd, hs H j ds (m2 + 1)) := by
        rw [dife (clt 3 q4)]
        by_cases hz : (r : Int) < 3
        · exact ⟨"join", ⟨by decide, by decide⟩, by rw [decide_eq_true hz]; rfl⟩
        · exact ⟨"glue", ⟨by decide, by decide⟩, by rw [decide_eq_false hz]; rfl⟩
      have hab2 : Wf (2 * d + 2) a ∧ Wf (2 * d + 2) b ∧ a.cnt + b.cnt ≤ cb d + 2 := by
        rcases hab with ⟨rfl, rfl⟩ | ⟨rfl, rfl⟩
        · exact ⟨w1, w2.up (by omega), by omega⟩
        · exact ⟨w2.up (by omega), w1, by omega⟩
      refine fin (.node hd none [a, b]) (m2 + 1) σ3 (.node _ _ _ _ hhd (by simp) (fun x hx => ?_)) (by simp [E.cnt]; omega) ?_
      · simp only [List.mem_cons, List.not_mem_nil, or_false] at hx
        rcases hx with rfl | rfl
        · exact hab2.1.up (by omega)
        · exact hab2.2.1.up (by omega)
      · unfold R18
        refine pass (cgt 11 s4) (decide_eq_false h11) ?_
        refine ifT (clt 4 s4) (decide_eq_true h4) ((sSeqe hpar).trans ((sSeqe (sAsge hpair)).trans ?_))
        show sRet _ ⟨((σ.set 5 (some e1.toD)).set 6 (some e2.toD)).set 7 (some (D.tup [a.toD, b.toD])), hs H j ds (m2 + 1)⟩ = _
        rw [← hσ3]
        refine (rete (o2e (tupe (aCe1 hhead) sl1) (dVare q7) (addT (a := [.str hd]) (b := [a.toD, b.toD]) sl3))).trans ?_
        simp [E.toD, pre]
    by_cases h6 : (r : Int) < 6
    · obtain ⟨e1, m1, w1, c1, hT1⟩ := tree σ (n + 1) s0 s1 s2 s3
      obtain ⟨σ8, hσ8⟩ : ∃ σ8, σ8 = σ.set 8 (some e1.toD) := ⟨_, rfl⟩
      have q0 : σ8[0]? = some (some (.obj j)) := by rw [hσ8, hσ]; rfl
      have q1 : σ8[1]? = some (some (strsD kn)) := by rw [hσ8, hσ]; rfl
      have q2 : σ8[2]? = some (some (.int ((d + 1 : Nat) : Int))) := by rw [hσ8, hσ]; rfl
      have q3 : σ8[3]? = some (some (.int l)) := by rw [hσ8, hσ]; rfl
      have q8 : σ8[8]? = some (some e1.toD) := by rw [hσ8, hσ]; rfl
      obtain ⟨e2, m2, w2, c2, hA2⟩ := atom σ8 m1 q0 q1
      obtain ⟨e3, m3, w3, c3, hT3⟩ := tree σ8 m2 q0 q1 q2 q3
      obtain ⟨e4, m4, w4', c4, hA4⟩ := atom σ8 m3 q0 q1
      refine fin (.node "if" none [e1, e2, e3, e4]) m4 σ8 (.node _ _ _ _ ⟨by decide, by decide⟩ (by simp) (fun x hx => ?_)) (by simp [E.cnt]; omega) ?_
      · simp only [List.mem_cons, List.not_mem_nil, or_false] at hx
        rcases hx with rfl | rfl | rfl | rfl
        · exact w1.up (by omega)
        · exact w2.up (by omega)
        · exact w3.up (by omega)
        · exact w4'.up (by omega)
      · unfold R18
        refine pass (cgt 11 s4) (decide_eq_false h11) (pass (clt 4 s4) (decide_eq_false h4) ?_)
        refine ifT (clt 6 s4) (decide_eq_true h6) ((sSeqe (sAsge hT1)).trans ?_)
        show sRet _ ⟨σ.set 8 (some e1.toD), hs H j ds m1⟩ = _
        rw [← hσ8]
        refine (rete (tupe (aCe rfl (aCe (dVare q8) (aCe hA2 (aCe hT3 (aCe1 hA4))))) sl5)).trans ?_
        simp [E.toD, pre]
    by_cases h7 : (r : Int) = 6
    · obtain ⟨e1, m1, w1, c1, hT1⟩ := tree σ (n + 1) s0 s1 s2 s3
      have g1 := node1 (h := "first") ⟨by decide, by decide⟩ w1 c1
      have g2 := node1 hd_read g1.1 g1.2.1
      refine fin _ m1 σ (g2.1.up (by omega)) (by omega) ?_
      unfold R18
      refine pass (cgt 11 s4) (decide_eq_false h11) (pass (clt 4 s4) (decide_eq_false h4) (pass (clt 6 s4) (decide_eq_false h6) ?_))
      refine ifT (ceq 6 s4) (decide_eq_true h7) (rete ?_)
      rw [g2.2.2, g1.2.2]
      exact tupe (aCe rfl (aCe (tupe (aCe rfl (aCe hT1 rfl)) sl2) rfl)) sl2
    by_cases h9 : (r : Int) < 9
    · obtain ⟨r4, hr4, ht4⟩ := take σ (n + 1) 4 (by omega) s0
      have ht4 : (dCall (runF T (k + d + 5)) 14 (aCons (dVar 0) (aCons (dC (.int 4)) aNil))) ⟨σ, hs H j ds (n + 1)⟩ = .ok (.int (r4 : Int), hs H j ds (n + 1 + 1)) := ht4
      obtain ⟨e1, m1, w1, c1, hT1⟩ := tree σ (n + 1 + 1) s0 s1 s2 s3
      have hx := strIx w4 r4 hr4
      have g1 := node1 (w4_hd r4 hr4) w1 c1
      refine fin _ m1 σ (g1.1.up (by omega)) (by omega) ?_
      unfold R18
      refine pass (cgt 11 s4) (decide_eq_false h11) (pass (clt 4 s4) (decide_eq_false h4) (pass (clt 6 s4) (decide_eq_false h6) (pass (ceq 6 s4) (decide_eq_false h7) ?_)))
      refine ifT (clt 9 s4) (decide_eq_true h9) (rete ?_)
      rw [g1.2.2]
      exact tupe (aCe (o2e (tupe (xs := w4.map .str) (aCe rfl (aCe rfl (aCe rfl (aCe rfl rfl)))) sl4) ht4 hx) (aCe hT1 rfl)) sl2
    -- a name is bound
    obtain ⟨sx, nm, hv1, hv2⟩ := vname kn.length (by omega)
    have hlen : gLen [strsD kn] = some (.int (kn.length : Int)) := by simp [gLen, strsD]
    have hname : (o2 gAdd (oV (dC (.str "v"))) (oV (dB gStr (oCons (oV (dB gLen (oCons (oV (dVar 1)) oNil))) oNil)))) ⟨σ, hs H j ds (n + 1)⟩ = .ok (.str nm, hs H j ds (n + 1)) := o2e rfl (dBe (dBe (dVare s1) hlen) hv1) hv2
    obtain ⟨σ9, hσ9⟩ : ∃ σ9, σ9 = σ.set 9 (some (D.str nm)) := ⟨_, rfl⟩
    have q0 : σ9[0]? = some (some (.obj j)) := by rw [hσ9, hσ]; rfl
    have q1 : σ9[1]? = some (some (strsD kn)) := by rw [hσ9, hσ]; rfl
    have q2 : σ9[2]? = some (some (.int ((d + 1 : Nat) : Int))) := by rw [hσ9, hσ]; rfl
    have q3 : σ9[3]? = some (some (.int l)) := by rw [hσ9, hσ]; rfl
    have q4 : σ9[4]? = some (some (.int (r : Int))) := by rw [hσ9, hσ]; rfl
    have q9 : σ9[9]? = some (some (.str nm)) := by rw [hσ9, hσ]; rfl
    have hkn : gAdd (strsD kn) (.lst [.str nm]) = some (strsD (kn ++ [nm])) := by
      unfold strsD
      rw [List.map_append]
      exact addL (sl _ (by simp; omega))
    have tree2 : ∀ (n2 : Nat) (le : DE) (l' : Int), (∀ h, le ⟨σ9, h⟩ = .ok (.int l', h)) → ∃ (e : E) (m : Nat), Wf (2 * d + 2) e ∧ e.cnt ≤ cb d ∧
        (dCall (runF T (k + d + 5)) 18 (aCons (dVar 0) (aCons (o2 gAdd (oV (dVar 1)) (oV (dLst (aCons (dVar 9) aNil)))) (aCons (o2 Kr.gSub (oV (dVar 2)) (oV (dC (.int 1)))) (aCons le aNil))))) ⟨σ9, hs H j ds n2⟩ = .ok (e.toD, hs H j ds m) := by
      intro n2 le l' hle
      obtain ⟨e, m, we, ce, hr⟩ := ih (kn ++ [nm]) l' n2 k (by rw [List.length_append, List.length_singleton]; omega)
      exact ⟨e, m, we, ce, (call4 (dVare q0) (o2e (dVare q1) (lste (aCe1 (dVare q9)) sl1) hkn) (o2e (dVare q2) rfl hsub) (hle _)).trans hr⟩
    have hlet : ∀ h : Str, isLeaf h = false → isBind h = true → ∀ a b : E, Wf (2 * d + 3) a → Wf (2 * d + 3) b → Wf (2 * (d + 1) + 2) (.node h (some nm) [a, b]) ∧ (E.node h (some nm) [a, b]).toD = .tup [.str h, .str nm, a.toD, b.toD] := by
      intro h i1 i2 a b wa wb
      refine ⟨.node _ _ _ _ ⟨i1, i2⟩ (by simp) (fun x hx => ?_), by simp [E.toD, pre]⟩
      simp only [List.mem_cons, List.not_mem_nil, or_false] at hx
      rcases hx with rfl | rfl
      · exact wa.up (by omega)
      · exact wb.up (by omega)
    have hpre : ∀ {rest : DS} {x : R (O × S)}, rest ⟨σ9, hs H j ds (n + 1)⟩ = x → sSeq (sAsg (o2 gAdd (oV (dC (.str "v"))) (oV (dB gStr (oCons (oV (dB gLen (oCons (oV (dVar 1)) oNil))) oNil)))) (bName 9)) rest ⟨σ, hs H j ds (n + 1)⟩ = x := by
      intro rest x hx
      rw [sSeqe (sAsge hname)]
      rw [hσ9] at hx
      exact hx
    have hor : (qOr (qVal (o2 gEq (oV (dVar 4)) (oV (dC (.int 9))))) (qVal (o2 gEq (oV (dVar 3)) (oV (dC (.int 0)))))) ⟨σ9, hs H j ds (n + 1)⟩ = .ok (decide ((r : Int) = 9) || decide (l = 0), hs H j ds (n + 1)) := by
      unfold qOr bnd
      rw [ceq (s := ⟨σ9, hs H j ds (n + 1)⟩) 9 q4]
      dsimp only
      cases decide ((r : Int) = 9) with
      | true => rfl
      | false =>
        rw [if_neg (by simp), ceq (s := ⟨σ9, hs H j ds (n + 1)⟩) 0 q3]
        rfl
    by_cases hb : (decide ((r : Int) = 9) || decide (l = 0)) = true
    · obtain ⟨e1, m1, w1, c1, hT1⟩ := tree σ9 (n + 1) q0 q1 q2 q3
      obtain ⟨e2, m2, w2, c2, hT2⟩ := tree2 m1 (dVar 3) l (fun h => dVare q3)
      have g := hlet "let" (by decide) (by decide) e1 e2 (w1.up (by omega)) (w2.up (by omega))
      refine fin _ m2 σ9 g.1 (by simp [E.cnt]; omega) ?_
      unfold R18
      refine pass (cgt 11 s4) (decide_eq_false h11) (pass (clt 4 s4) (decide_eq_false h4) (pass (clt 6 s4) (decide_eq_false h6) (pass (ceq 6 s4) (decide_eq_false h7) (pass (clt 9 s4) (decide_eq_false h9) (hpre ?_)))))
      refine ifT hor hb (rete ?_)
      rw [g.2]
      exact tupe (aCe rfl (aCe (dVare q9) (aCe hT1 (aCe hT2 rfl)))) sl4
    have hb : (decide ((r : Int) = 9) || decide (l = 0)) = false := by simpa using hb
    by_cases h10 : (r : Int) = 10
    · obtain ⟨e1, m1, w1, c1, hA1⟩ := atom σ9 (n + 1) q0 q1
      obtain ⟨e2, m2, w2, c2, hT2⟩ := tree2 m1 (o2 Kr.gSub (oV (dVar 3)) (oV (dC (.int 1)))) (l - 1) (fun h => o2e (dVare q3) rfl rfl)
      have g := hlet "each" (by decide) (by decide) e1 e2 (w1.up (by omega)) (w2.up (by omega))
      refine fin _ m2 σ9 g.1 (by simp [E.cnt]; omega) ?_
      unfold R18
      refine pass (cgt 11 s4) (decide_eq_false h11) (pass (clt 4 s4) (decide_eq_false h4) (pass (clt 6 s4) (decide_eq_false h6) (pass (ceq 6 s4) (decide_eq_false h7) (pass (clt 9 s4) (decide_eq_false h9) (hpre ?_)))))
      refine (sSeqe (ifF hor hb)).trans (ifT (ceq 10 q4) (decide_eq_true h10) (rete ?_))
      rw [g.2]
      exact tupe (aCe rfl (aCe (dVare q9) (aCe hA1 (aCe hT2 rfl)))) sl4
    · obtain ⟨e1, m1, w1, c1, hT1⟩ := tree σ9 (n + 1) q0 q1 q2 q3
      have g2 := node1 (n := 1) (C := 1) (a := .name nm) hd_read (.name 0 nm) (by simp [E.cnt])
      have g := hlet "each" (by decide) (by decide) e1 _ (w1.up (by omega)) (g2.1.up (by omega))
      refine fin _ m1 σ9 g.1 (by simp [E.cnt]; omega) ?_
      unfold R18
      refine pass (cgt 11 s4) (decide_eq_false h11) (pass (clt 4 s4) (decide_eq_false h4) (pass (clt 6 s4) (decide_eq_false h6) (pass (ceq 6 s4) (decide_eq_false h7) (pass (clt 9 s4) (decide_eq_false h9) (hpre ?_)))))
      refine (sSeqe (ifF hor hb)).trans ((sSeqe (ifF (ceq 10 q4) (decide_eq_false h10))).trans (rete ?_))
      rw [g.2, g2.2.2]
      have hnm : (E.name nm).toD = .tup [.str "name", .str nm] := by rw [E.toD]
      rw [hnm]
      exact tupe (aCe rfl (aCe (dVare q9) (aCe hT1 (aCe (tupe (aCe rfl (aCe (tupe (aCe rfl (aCe (dVare q9) rfl)) sl2) rfl)) sl2) rfl)))) sl4
end
end Gk03

namespace Gk03
open PySem Kr
open L2 (Key)

def depth : Nat := 40
theorem one_ok (H : List D) : runF T 40 24 [] H = .ok (.bl true, H) := by kernel_rfl
theorem two_ok (H : List D) : runF T 40 25 [] H = .ok (.bl true, H) := by kernel_rfl
theorem three_ok (H : List D) : runF T 40 3 [.tup [.str "let", .str "x", .tup [.str "name", .str "x"], .tup [.str "each", .str "y", .tup [.str "name", .str "y"], .tup [.str "name", .str "x"]]]] H = .ok (.tup [.str "x", .str "y"], H) := by kernel_rfl
theorem four_ok (H : List D) : runF T 40 13 [.tup [.str "x", .str "y"], .tup [.str "x", .str "y"]] H = .ok (.bl true, H) := by kernel_rfl
theorem notV {c : DE} {s : S} {h : List D} (hc : c s = .ok (.bl true, h)) : qNot (qVal c) s = .ok (false, h) := by
  unfold qNot qVal bnd Kr.ret
  rw [hc]
  rfl
theorem orF {a b : DB} {s : S} {h h2 : List D} {x : Bool} (ha : a s = .ok (false, h)) (hb : b ⟨s.σ, h⟩ = .ok (x, h2)) : qOr a b s = .ok (x, h2) := by
  unfold qOr bnd
  rw [ha]
  dsimp only
  rw [if_neg (by simp)]
  exact hb
theorem call0 {cf : CallF} {f : Nat} {s : S} : dCall cf f aNil s = cf f [] s.h := rfl
theorem call3 {cf : CallF} {f : Nat} {a b c : DE} {s : S} {x y z : D} {h : List D} (ha : a s = .ok (x, h)) (hb : b ⟨s.σ, h⟩ = .ok (y, h)) (hc : c ⟨s.σ, h⟩ = .ok (z, h)) : dCall cf f (aCons a (aCons b (aCons c aNil))) s = cf f [x, y, z] h := by
  simp only [dCall, aCons, aNil, bnd, Kr.ret, ha, hb, hc]
theorem ifNF {c : DE} {a : DS} {s : S} (hc : c s = .ok (.bl true, s.h)) : sIf (qNot (qVal c)) a sNil s = .ok (.nx, s) := by
  unfold sIf qNot qVal bnd Kr.ret
  rw [hc]
  rfl
section
variable {H : List D} {j : Nat} {ds : List Int}
theorem turn_loop (hj : j < H.length) (hl : ds.length = 200) (sc kk : Option D) : ∀ (xs : List Nat) (n : Nat) (a3 a4 a5 : Option D), ∃ (n' : Nat) (a3' a4' a5' : Option D),
    fLoop (bName 3) (Y26_0 (runF T 40)) (xs.map fun (i : Nat) => D.int (i : Int)) ⟨[sc, kk, some (.obj j), a3, a4, a5], hs H j ds n⟩ = .ok (.nx, ⟨[sc, kk, some (.obj j), a3', a4', a5'], hs H j ds n'⟩)
  | [], n, a3, a4, a5 => ⟨n, a3, a4, a5, rfl⟩
  | x :: xs, n, a3, a4, a5 => by
    obtain ⟨e1, m1, w1, c1, r1⟩ := tree_run hj hl 3 [] 2 n 32 (by simp)
    obtain ⟨e2, m2, w2, c2, r2⟩ := tree_run hj hl 1 ["v0", "w"] 1 m1 34 (by simp)
    have c1 : e1.cnt ≤ 51 := c1
    have hf := fine_run (n := 8) e1 e2.toD 7 39 (hs H j ds m2) (.obj j) w1 w2.pl (by omega) (by omega) (by omega)
    obtain ⟨n', b3, b4, b5, hrest⟩ := turn_loop hj hl sc kk xs m2 (some (.int (x : Int))) (some e1.toD) (some e2.toD)
    refine ⟨n', b3, b4, b5, ?_⟩
    have hY : Y26_0 (runF T 40) ⟨[sc, kk, some (.obj j), some (.int (x : Int)), a4, a5], hs H j ds n⟩ = .ok (.nx, ⟨[sc, kk, some (.obj j), some (.int (x : Int)), some e1.toD, some e2.toD], hs H j ds m2⟩) := by
      unfold Y26_0
      have h1 : (dCall (runF T 40) 18 (aCons (dVar 2) (aCons (dLst aNil) (aCons (dC (.int 3)) (aCons (dC (.int 2)) aNil))))) ⟨[sc, kk, some (.obj j), some (.int (x : Int)), a4, a5], hs H j ds n⟩ = .ok (e1.toD, hs H j ds m1) :=
        (call4 rfl (lste (xs := []) rfl sl0) rfl rfl).trans r1
      have h2 : (dCall (runF T 40) 18 (aCons (dVar 2) (aCons (dLst (aCons (dC (.str "v0")) (aCons (dC (.str "w")) aNil))) (aCons (dC (.int 1)) (aCons (dC (.int 1)) aNil))))) ⟨[sc, kk, some (.obj j), some (.int (x : Int)), a4, a5], hs H j ds m1⟩ = .ok (e2.toD, hs H j ds m2) :=
        (call4 rfl (lste (xs := [.str "v0", .str "w"]) rfl sl2) rfl rfl).trans r2
      rw [sSeqe (pare (aCe h1 (aCe h2 rfl)))]
      show sIf _ _ _ ⟨[sc, kk, some (.obj j), some (.int (x : Int)), some e1.toD, some e2.toD], hs H j ds m2⟩ = _
      exact ifNF ((call3 rfl rfl rfl).trans hf)
    rw [List.map_cons, fLoop]
    show (match Y26_0 (runF T 40) ⟨[sc, kk, some (.obj j), some (.int (x : Int)), a4, a5], hs H j ds n⟩ with
      | .ok (.nx, s2) => fLoop (bName 3) (Y26_0 (runF T 40)) _ s2
      | .ok (.ct, s2) => fLoop (bName 3) (Y26_0 (runF T 40)) _ s2
      | .ok (.bk, s2) => .ok (.nx, s2)
      | .ok (.rt r, s2) => .ok (.rt r, s2)
      | .error e => .error e) = _
    rw [hY]
    exact hrest
end
theorem cell_loop (ns : List Int) : ∀ (xs : List Nat) (H : List D) (a1 a2 a3 a4 a5 : Option D), ∃ (H' : List D) (a1' a2' a3' a4' a5' : Option D),
    fLoop (bName 1) (Y26_2 (runF T 40)) (xs.map fun (i : Nat) => D.int (i : Int)) ⟨[some (.scr ns), a1, a2, a3, a4, a5], H⟩ = .ok (.nx, ⟨[some (.scr ns), a1', a2', a3', a4', a5'], H'⟩)
  | [], H, a1, a2, a3, a4, a5 => ⟨H, a1, a2, a3, a4, a5, rfl⟩
  | x :: xs, H, a1, a2, a3, a4, a5 => by
    obtain ⟨c, hc⟩ := cell_run 39 ns x H
    obtain ⟨ds, hl, hd⟩ := draws_run 39 c H
    have hj : H.length < (H ++ [mdD ds 0]).length := by simp
    have hset : hs (H ++ [mdD ds 0]) H.length ds 0 = H ++ [mdD ds 0] := by
      unfold hs
      rw [List.set_append_right _ _ (Nat.le_refl _), Nat.sub_self]
      rfl
    obtain ⟨n', b3, b4, b5, ht⟩ := turn_loop hj hl (some (.scr ns)) (some (.int (x : Int))) (List.range 3) 0 a3 a4 a5
    rw [hset] at ht
    obtain ⟨H', b1', b2', b3', b4', b5', hrest⟩ := cell_loop ns xs (hs (H ++ [mdD ds 0]) H.length ds n') (some (.int (x : Int))) (some (.obj H.length)) b3 b4 b5
    refine ⟨H', b1', b2', b3', b4', b5', ?_⟩
    have hdr : (dCall (runF T 40) 11 (aCons (dCall (runF T 40) 10 (aCons (dVar 0) (aCons (dVar 1) aNil))) (aCons (dC (.int 200)) aNil))) ⟨[some (.scr ns), some (.int (x : Int)), a2, a3, a4, a5], H⟩ = .ok (.lst (ds.map .int), H) :=
      (call2 ((call2 rfl rfl).trans hc) rfl).trans hd
    have hobj : sObj 2 (dDisp (psCons (dC (.str "draws")) (dCall (runF T 40) 11 (aCons (dCall (runF T 40) 10 (aCons (dVar 0) (aCons (dVar 1) aNil))) (aCons (dC (.int 200)) aNil))) (psCons (dC (.str "at")) (dC (.int 0)) psNil))) ⟨[some (.scr ns), some (.int (x : Int)), a2, a3, a4, a5], H⟩ =
        .ok (.nx, ⟨[some (.scr ns), some (.int (x : Int)), some (.obj H.length), a3, a4, a5], H ++ [mdD ds 0]⟩) := by
      have hne : ¬ (Str.ofString "draws" = Str.ofString "at") := by decide
      generalize (dCall (runF T 40) 11 (aCons (dCall (runF T 40) 10 (aCons (dVar 0) (aCons (dVar 1) aNil))) (aCons (dC (.int 200)) aNil))) = dd at hdr
      simp [sObj, dDisp, psCons, psNil, bnd, Kr.ret, opt, dC, hdr, toKey, bd, dMerge, dPut, hne, mdD]
    have hL : L26_1 (runF T 40) ⟨[some (.scr ns), some (.int (x : Int)), some (.obj H.length), a3, a4, a5], H ++ [mdD ds 0]⟩ = .ok (.nx, ⟨[some (.scr ns), some (.int (x : Int)), some (.obj H.length), b3, b4, b5], hs (H ++ [mdD ds 0]) H.length ds n'⟩) := by
      unfold L26_1 sFor
      have hi : (iRng1D (dC (.int 3))) ⟨[some (.scr ns), some (.int (x : Int)), some (.obj H.length), a3, a4, a5], H ++ [mdD ds 0]⟩ = .ok ((List.range 3).map fun (i : Nat) => D.int (i : Int), H ++ [mdD ds 0]) := by rfl
      rw [hi]
      exact ht
    rw [List.map_cons, fLoop]
    show (match Y26_2 (runF T 40) ⟨[some (.scr ns), some (.int (x : Int)), a2, a3, a4, a5], H⟩ with
      | .ok (.nx, s2) => fLoop (bName 1) (Y26_2 (runF T 40)) _ s2
      | .ok (.ct, s2) => fLoop (bName 1) (Y26_2 (runF T 40)) _ s2
      | .ok (.bk, s2) => .ok (.nx, s2)
      | .ok (.rt r, s2) => .ok (.rt r, s2)
      | .error e => .error e) = _
    unfold Y26_2
    rw [sSeqe hobj, hL]
    exact hrest
set_option maxHeartbeats 2000000 in
theorem plain (ns : List Int) (h : ns.length ≤ 63) : ∃ h', runF T (depth + 1) 26 [.scr ns] [] = .ok (.bl true, h') := by
  obtain ⟨H', b1, b2, b3, b4, b5, hl⟩ := cell_loop ns (List.range 5) [] none none none none none
  refine ⟨H', ?_⟩
  show runF T (40 + 1) 26 [.scr ns] [] = _
  rw [run_step T26_eq rfl]
  show Kr.finish false (B26 (runF T 40) ⟨[some (.scr ns), none, none, none, none, none], []⟩) = _
  have hL : L26_3 (runF T 40) ⟨[some (.scr ns), none, none, none, none, none], []⟩ = .ok (.nx, ⟨[some (.scr ns), b1, b2, b3, b4, b5], H'⟩) := by
    unfold L26_3 sFor
    have hi : (iRng1D (dC (.int 5))) ⟨[some (.scr ns), none, none, none, none, none], []⟩ = .ok ((List.range 5).map fun (i : Nat) => D.int (i : Int), []) := by rfl
    rw [hi]
    exact hl
  unfold B26
  rw [sSeqe hL]
  have h1 : (qOr (qNot (qVal (dCall (runF T 40) 24 aNil))) (qNot (qVal (dCall (runF T 40) 25 aNil)))) ⟨[some (.scr ns), b1, b2, b3, b4, b5], H'⟩ = .ok (false, H') := by
    have e1 : (dCall (runF T 40) 24 aNil) ⟨[some (.scr ns), b1, b2, b3, b4, b5], H'⟩ = .ok (.bl true, H') := call0.trans (one_ok H')
    have e2 : (dCall (runF T 40) 25 aNil) ⟨[some (.scr ns), b1, b2, b3, b4, b5], H'⟩ = .ok (.bl true, H') := call0.trans (two_ok H')
    exact orF (notV e1) (notV e2)
  rw [sSeqe (ifF h1 rfl)]
  have h2 : ∀ σ : List (Option D), (dTup (aCons (dC (.str "let")) (aCons (dC (.str "x")) (aCons (dTup (aCons (dC (.str "name")) (aCons (dC (.str "x")) aNil))) (aCons (dTup (aCons (dC (.str "each")) (aCons (dC (.str "y")) (aCons (dTup (aCons (dC (.str "name")) (aCons (dC (.str "y")) aNil))) (aCons (dTup (aCons (dC (.str "name")) (aCons (dC (.str "x")) aNil))) aNil))))) aNil))))) ⟨σ, H'⟩ =
      .ok (.tup [.str "let", .str "x", .tup [.str "name", .str "x"], .tup [.str "each", .str "y", .tup [.str "name", .str "y"], .tup [.str "name", .str "x"]]], H') := fun σ => by kernel_rfl
  have h3 : ∀ σ : List (Option D), (dTup (aCons (dC (.str "x")) (aCons (dC (.str "y")) aNil))) ⟨σ, H'⟩ = .ok (.tup [.str "x", .str "y"], H') := fun σ => by kernel_rfl
  have h4 : (dCall (runF T 40) 13 (aCons (dCall (runF T 40) 3 (aCons (dTup (aCons (dC (.str "let")) (aCons (dC (.str "x")) (aCons (dTup (aCons (dC (.str "name")) (aCons (dC (.str "x")) aNil))) (aCons (dTup (aCons (dC (.str "each")) (aCons (dC (.str "y")) (aCons (dTup (aCons (dC (.str "name")) (aCons (dC (.str "y")) aNil))) (aCons (dTup (aCons (dC (.str "name")) (aCons (dC (.str "x")) aNil))) aNil))))) aNil))))) aNil)) (aCons (dTup (aCons (dC (.str "x")) (aCons (dC (.str "y")) aNil))) aNil))) ⟨[some (.scr ns), b1, b2, b3, b4, b5], H'⟩ = .ok (.bl true, H') :=
    (call2 ((call1 (h2 _)).trans (three_ok H')) (h3 _)).trans (four_ok H')
  exact congrArg (Kr.finish false) (rete h4)
end Gk03

open PySem PySem.W PyProof.Rows
set_option maxHeartbeats 0 in
theorem PySem.Challenge.cw_kilnrow_k03_whole_parts_and_paths_holds : PySem.Challenge.rw_kilnrow_k03_whole_parts_and_paths.Holds := by
  w_on; o_law; k_head; (case hw => w_witness2)
  k_fill
  refine L2.walk_of (l := PySem.Challenge.rw_kilnrow_k03_whole_parts_and_paths) (n := 63) (k := Gk03.depth + 1) (x := "script") (CX := fun _ => L2.CX0) (sp := fun w => Kr.spRun _ Gk03.T (Gk03.depth + 1) 26) rfl (by decide) rfl ⟨rfl, by decide, by decide⟩ (fun w h Y => PySem.W.kIn_of Y) ?F (fun w H a ns hl _ hS => Kr.law_start hl hS Gk03.T26_eq rfl rfl (Gk03.plain ns hl)) (fun _ _ _ _ _ h => h)
  case F =>
    intro w mg fa h KX G hmg
    refine' Gk03.all_mk KX G hmg ?a0 ?l0 ?c0 ?k0 ?a1 ?l1 ?c1 ?k1 ?a2 ?l2 ?c2 ?k2 ?a3 ?l3 ?c3 ?k3 ?a4 ?l4 ?c4 ?k4 ?a5 ?l5 ?c5 ?k5 ?a6 ?l6 ?c6 ?k6 ?a7 ?l7 ?c7 ?k7 ?a8 ?l8 ?c8 ?k8 ?a9 ?l9 ?c9 ?k9 ?a10 ?l10 ?c10 ?k10 ?a11 ?l11 ?c11 ?k11 ?a12 ?l12 ?c12 ?k12 ?a13 ?l13 ?c13 ?k13 ?a14 ?l14 ?c14 ?k14 ?a15 ?l15 ?c15 ?k15 ?a16 ?l16 ?c16 ?k16 ?a17 ?l17 ?c17 ?k17 ?a18 ?l18 ?c18 ?k18 ?a19 ?l19 ?c19 ?k19 ?a20 ?l20 ?c20 ?k20 ?a21 ?l21 ?c21 ?k21 ?a22 ?l22 ?c22 ?k22 ?a23 ?l23 ?c23 ?k23 ?a24 ?l24 ?c24 ?k24 ?a25 ?l25 ?c25 ?k25 ?a26 ?l26 ?c26 ?k26 ?z_abs ?z_all ?z_bool ?z_enumerate ?z_int ?z_isinstance ?z_len ?z_list ?z_max ?z_range ?z_set ?z_sorted ?z_str ?z_sum ?z_tuple Gk03.depth
    (case a0 => k_is); (case l0 => k_is); (case c0 => k_is); (case k0 => k_is); (case a1 => k_is); (case l1 => k_is); (case c1 => k_is); (case k1 => k_is); (case a2 => k_is); (case l2 => k_is); (case c2 => k_is); (case k2 => k_is); (case a3 => k_is); (case l3 => k_is); (case c3 => k_is); (case k3 => k_is); (case a4 => k_is); (case l4 => k_is); (case c4 => k_is); (case k4 => k_is); (case a5 => k_is); (case l5 => k_is); (case c5 => k_is); (case k5 => k_is); (case a6 => k_is); (case l6 => k_is); (case c6 => k_is); (case k6 => k_is); (case a7 => k_is); (case l7 => k_is); (case c7 => k_is); (case k7 => k_is); (case a8 => k_is); (case l8 => k_is); (case c8 => k_is); (case k8 => k_is); (case a9 => k_is); (case l9 => k_is); (case c9 => k_is); (case k9 => k_is); (case a10 => k_is); (case l10 => k_is); (case c10 => k_is); (case k10 => k_is); (case a11 => k_is); (case l11 => k_is); (case c11 => k_is); (case k11 => k_is); (case a12 => k_is); (case l12 => k_is); (case c12 => k_is); (case k12 => k_is); (case a13 => k_is); (case l13 => k_is); (case c13 => k_is); (case k13 => k_is); (case a14 => k_is); (case l14 => k_is); (case c14 => k_is); (case k14 => k_is); (case a15 => k_is); (case l15 => k_is); (case c15 => k_is); (case k15 => k_is); (case a16 => k_is); (case l16 => k_is); (case c16 => k_is); (case k16 => k_is); (case a17 => k_is); (case l17 => k_is); (case c17 => k_is); (case k17 => k_is); (case a18 => k_is); (case l18 => k_is); (case c18 => k_is); (case k18 => k_is); (case a19 => k_is); (case l19 => k_is); (case c19 => k_is); (case k19 => k_is); (case a20 => k_is); (case l20 => k_is); (case c20 => k_is); (case k20 => k_is); (case a21 => k_is); (case l21 => k_is); (case c21 => k_is); (case k21 => k_is); (case a22 => k_is); (case l22 => k_is); (case c22 => k_is); (case k22 => k_is); (case a23 => k_is); (case l23 => k_is); (case c23 => k_is); (case k23 => k_is); (case a24 => k_is); (case l24 => k_is); (case c24 => k_is); (case k24 => k_is); (case a25 => k_is); (case l25 => k_is); (case c25 => k_is); (case k25 => k_is); (case a26 => k_is); (case l26 => k_is); (case c26 => k_is); (case k26 => k_is); (case z_abs => k_is); (case z_all => k_is); (case z_bool => k_is); (case z_enumerate => k_is); (case z_int => k_is); (case z_isinstance => k_is); (case z_len => k_is); (case z_list => k_is); (case z_max => k_is); (case z_range => k_is); (case z_set => k_is); (case z_sorted => k_is); (case z_str => k_is); (case z_sum => k_is); (case z_tuple => k_is)
