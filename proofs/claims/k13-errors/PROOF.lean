import PyProof.Rows.All
import Wide.All
import OpenK.AllK
import Wide.FinOn
import HandS.ForMost
import HandS.HeadHook2
import PyProof.StrBlock2
import KE.SortData
import KE.SortKeyHeap
import HandS.Style
import HandS.TupAny
import HandS.Deep
import HandS.IsInst
import HandS.Flow
import HandS.CallSlots
import HandS.ExcOwn
import KE.GoesEnum
import HandS.Zip
import HandS.Comp
import HandS.Iter
import HandS.Small
import KE.KExcSuper
import HandS.ExcInit
import HandS.ExcSuper
import HandS.TryMany
import HandS.ExcField
import KE.KExcIs
import HandS.Head2
import HandS.HeadEnd
import PySem.Challenge.RW_pawnkept_k13_errors
set_option Elab.async false
set_option linter.all false
set_option maxRecDepth 100000
/-! Eng 1: data, what represents it, what stays -/
namespace Eng
open PySem PySem.Spec PyProof.Rows L2

/-- plain data; obj n: the n-th object of the store (it may change); fn x: a def of the module -/
inductive D where
  | non | bl (b : Bool) | int (i : Int) | str (x : Str)
  | tup (ds : List D) | lst (ds : List D)
  | dic (ks : List Key) (ds : List D)
  | ins (c : Str) (ks : List Str) (ds : List D)
  | obj (n : Nat)
  | fn (x : Str)
  | scr (ns : List Int)
  deriving Inhabited
abbrev Store := List D

mutual
inductive Rep (K : PySem.W.Frag) (F : Hp) (T : List Addr) : V → D → Prop
  | non : Rep K F T .non .non
  | bl (b : Bool) : Rep K F T (.bl b) (.bl b)
  | int (i : Int) : Rep K F T (.int i) (.int i)
  | str (x : Str) : Rep K F T (.str x) (.str x)
  | tup {a : Addr} {xs : List V} {ds : List D} : SqT K F a xs → Reps K F T xs ds → Rep K F T (.ref a) (.tup ds)
  | lst {a : Addr} {xs : List V} {ds : List D} : F a = some (.lst xs) → Reps K F T xs ds → Rep K F T (.ref a) (.lst ds)
  | dic {a : Addr} {kvs : List (Key × V)} {ks : List Key} {ds : List D} : F a = some (.dK kvs) → kvs.map (·.1) = ks → Reps K F T (kvs.map (·.2)) ds → Rep K F T (.ref a) (.dic ks ds)
  | ins {a dx : Addr} {c : Str} {fs : List (Str × V)} {ks : List Str} {ds : List D} : F a = some (.ins (He.ga K c) dx fs) → fs.map (·.1) = ks → Reps K F T (fs.map (·.2)) ds → Rep K F T (.ref a) (.ins c ks ds)
  | obj {n : Nat} {a : Addr} : T[n]? = some a → Rep K F T (.ref a) (.obj n)
  | fn {x : Str} : Rep K F T (.ref (He.ga K x)) (.fn x)
  | scr {a : Addr} {ns : List Int} : SqL K F a (ns.map V.int) → Rep K F T (.ref a) (.scr ns)
inductive Reps (K : PySem.W.Frag) (F : Hp) (T : List Addr) : List V → List D → Prop
  | nil : Reps K F T [] []
  | cons {v : V} {vs : List V} {d : D} {ds : List D} : Rep K F T v d → Reps K F T vs ds → Reps K F T (v :: vs) (d :: ds)
end

def Pre (T T' : List Addr) : Prop := ∀ (n : Nat) (a : Addr), T[n]? = some a → T'[n]? = some a
theorem Pre.refl (T : List Addr) : Pre T T := fun _ _ h => h
theorem Pre.trans {A B C : List Addr} (h : Pre A B) (k : Pre B C) : Pre A C := fun n a e => k n a (h n a e)
theorem Pre.snoc (T : List Addr) (a : Addr) : Pre T (T ++ [a]) := fun n b e => by
  have h : n < T.length := (List.getElem?_eq_some_iff.mp e).1
  rw [List.getElem?_append_left h]; exact e
theorem Pre.mem {A B : List Addr} (h : Pre A B) {a : Addr} (m : a ∈ A) : a ∈ B := by
  obtain ⟨n, e⟩ := List.mem_iff_getElem?.mp m
  exact List.mem_iff_getElem?.mpr ⟨n, h n a e⟩
theorem Pre.len {A B : List Addr} (h : Pre A B) : A.length ≤ B.length := by
  by_cases q : A.length ≤ B.length
  · exact q
  · have e : A[B.length]? = some (A[B.length]'(by omega)) := by simp
    have := h _ _ e
    rw [List.getElem?_eq_none (Nat.le_refl _)] at this; cases this

theorem sqT_mono {K : PySem.W.Frag} {H H' : Hp} {a : Addr} {xs : List V} (e : Same H H') (h : SqT K H a xs) : SqT K H' a xs := by
  rcases h with (h | ⟨o, h⟩) | h
  · exact .inl (.inl (e _ _ h))
  · exact .inl (.inr ⟨o, e _ _ h⟩)
  · exact .inr h

mutual
theorem Rep.mono {K : PySem.W.Frag} {F F' : Hp} {T T' : List Addr} (hF : Same F F') (hT : Pre T T') : ∀ {v : V} {d : D}, Rep K F T v d → Rep K F' T' v d
  | _, .non, h => by cases h; exact .non
  | _, .bl _, h => by cases h; exact .bl _
  | _, .int _, h => by cases h; exact .int _
  | _, .str _, h => by cases h; exact .str _
  | _, .tup ds, h => by cases h with | tup q r => exact .tup (sqT_mono hF q) (Reps.mono hF hT r)
  | _, .lst ds, h => by cases h with | lst q r => exact .lst (hF _ _ q) (Reps.mono hF hT r)
  | _, .dic ks ds, h => by cases h with | dic q e r => exact .dic (hF _ _ q) e (Reps.mono hF hT r)
  | _, .ins c ks ds, h => by cases h with | ins q e r => exact .ins (hF _ _ q) e (Reps.mono hF hT r)
  | _, .obj n, h => by cases h with | obj q => exact .obj (hT _ _ q)
  | _, .fn x, h => by cases h; exact .fn
  | _, .scr ns, h => by cases h with | scr q => exact .scr (hF.seq q)
theorem Reps.mono {K : PySem.W.Frag} {F F' : Hp} {T T' : List Addr} (hF : Same F F') (hT : Pre T T') : ∀ {vs : List V} {ds : List D}, Reps K F T vs ds → Reps K F' T' vs ds
  | _, [], h => by cases h; exact .nil
  | _, d :: ds, h => by cases h with | cons a b => exact .cons (Rep.mono hF hT a) (Reps.mono hF hT b)
end

section
variable {K : PySem.W.Frag} {F : Hp} {T : List Addr}
theorem Reps.length : ∀ {vs : List V} {ds : List D}, Reps K F T vs ds → vs.length = ds.length
  | _, _, .nil => rfl
  | _, _, .cons _ r => congrArg Nat.succ r.length
theorem Reps.get : ∀ {vs : List V} {ds : List D} {i : Nat} {d : D}, Reps K F T vs ds → ds[i]? = some d → ∃ v, vs[i]? = some v ∧ Rep K F T v d
  | _, _, _, _, .nil, e => by simp at e
  | _, _, 0, _, .cons r _, e => by simp at e; subst e; exact ⟨_, rfl, r⟩
  | _, _, i + 1, d, .cons _ t, e => by
    obtain ⟨u, h1, h2⟩ := Reps.get (i := i) (d := d) t (by simpa using e)
    exact ⟨u, by simpa using h1, h2⟩
theorem Reps.get' : ∀ {vs : List V} {ds : List D} {i : Nat} {v : V}, Reps K F T vs ds → vs[i]? = some v → ∃ d, ds[i]? = some d ∧ Rep K F T v d
  | _, _, _, _, .nil, e => by simp at e
  | _, _, 0, _, .cons r _, e => by simp at e; subst e; exact ⟨_, rfl, r⟩
  | _, _, i + 1, d, .cons _ t, e => by
    obtain ⟨u, h1, h2⟩ := Reps.get' (i := i) (v := d) t (by simpa using e)
    exact ⟨u, by simpa using h1, h2⟩
theorem Reps.append : ∀ {vs ws : List V} {ds es : List D}, Reps K F T vs ds → Reps K F T ws es → Reps K F T (vs ++ ws) (ds ++ es)
  | _, _, _, _, .nil, s => s
  | _, _, _, _, .cons r t, s => .cons r (t.append s)
theorem Reps.take : ∀ {vs : List V} {ds : List D} (n : Nat), Reps K F T vs ds → Reps K F T (vs.take n) (ds.take n)
  | _, _, 0, _ => .nil
  | _, _, _ + 1, .nil => .nil
  | _, _, n + 1, .cons r t => .cons r (t.take n)
theorem Reps.drop : ∀ {vs : List V} {ds : List D} (n : Nat), Reps K F T vs ds → Reps K F T (vs.drop n) (ds.drop n)
  | _, _, 0, r => r
  | _, _, _ + 1, .nil => .nil
  | _, _, n + 1, .cons _ t => t.drop n
theorem Reps.set {v : V} {d : D} (r : Rep K F T v d) : ∀ {vs : List V} {ds : List D} (i : Nat), Reps K F T vs ds → Reps K F T (vs.set i v) (ds.set i d)
  | _, _, _, .nil => .nil
  | _, _, 0, .cons _ t => .cons r t
  | _, _, i + 1, .cons q t => .cons q (t.set r i)
theorem Reps.one {v : V} {d : D} (r : Rep K F T v d) : Reps K F T [v] [d] := .cons r .nil
theorem Reps.reverse : ∀ {vs : List V} {ds : List D}, Reps K F T vs ds → Reps K F T vs.reverse ds.reverse
  | _, _, .nil => .nil
  | _, _, .cons r t => by rw [List.reverse_cons, List.reverse_cons]; exact t.reverse.append (.one r)
theorem Reps.rep {vs : List V} {ds : List D} (h : Reps K F T vs ds) : ∀ k : Nat, Reps K F T (List.replicate k vs).flatten (List.replicate k ds).flatten
  | 0 => .nil
  | k + 1 => by rw [List.replicate_succ, List.replicate_succ, List.flatten_cons, List.flatten_cons]; exact h.append (h.rep k)
end

/-- an object that may change: at a stands d, its parts frozen -/
def RepTop (K : PySem.W.Frag) (F : Hp) (T : List Addr) (H : Hp) (a : Addr) : D → Prop
  | .lst ds => ∃ xs, H a = some (.lst xs) ∧ Reps K F T xs ds
  | .dic ks ds => ∃ kvs, H a = some (.dK kvs) ∧ kvs.map (·.1) = ks ∧ Reps K F T (kvs.map (·.2)) ds
  | .ins c ks ds => ∃ dx fs, H a = some (.ins (He.ga K c) dx fs) ∧ fs.map (·.1) = ks ∧ Reps K F T (fs.map (·.2)) ds
  | _ => False
theorem RepTop.there {K : PySem.W.Frag} {F : Hp} {T : List Addr} {H : Hp} {a : Addr} {d : D} (h : RepTop K F T H a d) : ∃ o, H a = some o := by
  cases d with
  | lst ds => obtain ⟨xs, e, _⟩ := h; exact ⟨_, e⟩
  | dic ks ds => obtain ⟨xs, e, _⟩ := h; exact ⟨_, e⟩
  | ins c ks ds => obtain ⟨dx, xs, e, _⟩ := h; exact ⟨_, e⟩
  | _ => exact h.elim
theorem RepTop.mono {K : PySem.W.Frag} {F F' : Hp} {T T' : List Addr} {H H' : Hp} {a : Addr} {d : D} (hF : Same F F') (hT : Pre T T') (hH : ∀ o, H a = some o → H' a = some o) (h : RepTop K F T H a d) : RepTop K F' T' H' a d := by
  cases d with
  | lst ds => obtain ⟨xs, e, r⟩ := h; exact ⟨xs, hH _ e, r.mono hF hT⟩
  | dic ks ds => obtain ⟨xs, e, k, r⟩ := h; exact ⟨xs, hH _ e, k, r.mono hF hT⟩
  | ins c ks ds => obtain ⟨dx, xs, e, k, r⟩ := h; exact ⟨dx, xs, hH _ e, k, r.mono hF hT⟩
  | _ => exact h.elim
/-- frozen now -/
theorem RepTop.rep {K : PySem.W.Frag} {F G : Hp} {T : List Addr} {H : Hp} {a : Addr} {d : D} (h : RepTop K F T H a d) (hF : Same F G) (hG : ∀ o, H a = some o → G a = some o) : Rep K G T (.ref a) d := by
  cases d with
  | lst ds => obtain ⟨xs, e, r⟩ := h; exact .lst (hG _ e) (r.mono hF (.refl _))
  | dic ks ds => obtain ⟨xs, e, k, r⟩ := h; exact .dic (hG _ e) k (r.mono hF (.refl _))
  | ins c ks ds => obtain ⟨dx, xs, e, k, r⟩ := h; exact .ins (hG _ e) k (r.mono hF (.refl _))
  | _ => exact h.elim

/-- the heap's ghost: F frozen, T the store's addresses -/
structure WF (K : PySem.W.Frag) (F : Hp) (T : List Addr) (st : Store) (H : Hp) : Prop where
  fr : Same F H
  len : st.length = T.length
  nd : T.Nodup
  nf : ∀ a ∈ T, F a = none
  at_ : ∀ (n : Nat) (d : D), st[n]? = some d → ∃ a, T[n]? = some a ∧ RepTop K F T H a d

/-- from (F, T, H) on -/
structure Ext (F : Hp) (T : List Addr) (H : Hp) (F' : Hp) (T' : List Addr) (H' : Hp) : Prop where
  fr : Same F F'
  pre : Pre T T'
  newF : ∀ b, F b = none → H b ≠ none → F' b = none
  newT : ∀ b ∈ T', b ∉ T → H b = none
  keep : ∀ b o, H b = some o → b ∉ T → H' b = some o
  there : ∀ b o, H b = some o → ∃ o', H' b = some o'
theorem Ext.refl (F : Hp) (T : List Addr) (H : Hp) : Ext F T H F T H := ⟨.refl _, .refl _, fun _ h _ => h, fun b h n => absurd h n, fun _ _ h _ => h, fun _ o h => ⟨o, h⟩⟩
theorem Ext.trans {F F1 F2 H H1 H2 : Hp} {T T1 T2 : List Addr} (a : Ext F T H F1 T1 H1) (b : Ext F1 T1 H1 F2 T2 H2) : Ext F T H F2 T2 H2 where
  fr := a.fr.trans b.fr
  pre := a.pre.trans b.pre
  newF := fun x h n => by
    obtain ⟨o, e⟩ := Option.ne_none_iff_exists'.mp n
    obtain ⟨o1, e1⟩ := a.there x o e
    exact b.newF x (a.newF x h n) (by rw [e1]; simp)
  newT := fun x h n => by
    by_cases h1 : x ∈ T1
    · exact a.newT x h1 n
    · have z := b.newT x h h1
      cases q : H x with
      | none => rfl
      | some o =>
        obtain ⟨o1, e1⟩ := a.there x o q
        rw [e1] at z; cases z
  keep := fun x o e n => by
    have e1 := a.keep x o e n
    refine b.keep x o e1 fun h1 => ?_
    have z := a.newT x h1 n
    rw [e] at z; cases z
  there := fun x o e => by
    obtain ⟨o1, e1⟩ := a.there x o e
    exact b.there x o1 e1

section
variable {K : PySem.W.Frag} {F F' H H' : Hp} {T T' : List Addr} {st : Store}
/-- a new object at p, frozen at once -/
theorem Ext.new (w : WF K F T st H) {p : Addr} {o : HO} (hp : H p = none) : Ext F T H (upd F p o) T (upd H p o) := by
  have fp : F p = none := by
    cases q : F p with
    | none => rfl
    | some u => rw [w.fr p u q] at hp; cases hp
  have np : ∀ {b : Addr} {u : HO}, H b = some u → b ≠ p := fun e => ne_of_none e hp
  exact ⟨fun b u e => by rw [upd_ne (ne_of_none e fp)]; exact e, .refl _, fun b e n => by
      by_cases q : b = p
      · subst q; exact absurd hp n
      · rw [upd_ne q]; exact e, fun b h n => absurd h n, fun b u e _ => by rw [upd_ne (np e)]; exact e, fun b u e => ⟨u, by rw [upd_ne (np e)]; exact e⟩⟩
theorem WF.new (w : WF K F T st H) {p : Addr} {o : HO} (hp : H p = none) : WF K (upd F p o) T st (upd H p o) := by
  have x := Ext.new w (o := o) hp
  have np : ∀ {b : Addr} {u : HO}, H b = some u → b ≠ p := fun e => ne_of_none e hp
  refine ⟨fun b u e => ?_, w.len, w.nd, fun a ha => ?_, fun n d e => ?_⟩
  · by_cases q : b = p
    · subst q; rw [upd_same] at e; rw [upd_same]; exact e
    · rw [upd_ne q] at e; rw [upd_ne q]; exact w.fr b u e
  · obtain ⟨n, hn⟩ := List.mem_iff_getElem?.mp ha
    have hl : n < T.length := (List.getElem?_eq_some_iff.mp hn).1
    obtain ⟨d, hd⟩ : ∃ d, st[n]? = some d := ⟨st[n]'(by rw [w.len]; exact hl), by simp [w.len, hl]⟩
    obtain ⟨a', h1, h2⟩ := w.at_ n d hd
    rw [hn] at h1; cases h1
    obtain ⟨o', ho⟩ := h2.there
    rw [upd_ne (np ho)]; exact w.nf a ha
  · obtain ⟨a, h1, h2⟩ := w.at_ n d e
    obtain ⟨o', ho⟩ := h2.there
    exact ⟨a, h1, h2.mono x.fr (.refl _) fun o'' e'' => by rw [upd_ne (np e'')]; exact e''⟩
/-- a new object at p that is not frozen -/
theorem Ext.newO {p : Addr} {o : HO} (hp : H p = none) : Ext F T H F T (upd H p o) := by
  have np : ∀ {b : Addr} {u : HO}, H b = some u → b ≠ p := fun e => ne_of_none e hp
  exact ⟨.refl _, .refl _, fun _ h _ => h, fun b h n => absurd h n, fun b u e _ => by rw [upd_ne (np e)]; exact e, fun b u e => ⟨u, by rw [upd_ne (np e)]; exact e⟩⟩
theorem WF.newO (w : WF K F T st H) {p : Addr} {o : HO} (hp : H p = none) : WF K F T st (upd H p o) := by
  have np : ∀ {b : Addr} {u : HO}, H b = some u → b ≠ p := fun e => ne_of_none e hp
  exact ⟨fun b u e => by rw [upd_ne (np (w.fr b u e))]; exact w.fr b u e, w.len, w.nd, w.nf, fun n d e => by
    obtain ⟨a, h1, h2⟩ := w.at_ n d e
    exact ⟨a, h1, h2.mono (.refl _) (.refl _) fun o'' e'' => by rw [upd_ne (np e'')]; exact e''⟩⟩
theorem WF.inT (w : WF K F T st H) {a : Addr} (h : a ∈ T) : ∃ o, H a = some o := by
  obtain ⟨n, hn⟩ := List.mem_iff_getElem?.mp h
  have hl : n < T.length := (List.getElem?_eq_some_iff.mp hn).1
  obtain ⟨d, hd⟩ : ∃ d, st[n]? = some d := ⟨st[n]'(by rw [w.len]; exact hl), by simp [w.len, hl]⟩
  obtain ⟨a', h1, h2⟩ := w.at_ n d hd
  rw [hn] at h1; cases h1
  exact h2.there
/-- an object that is tracked, not frozen, not of the store, is frozen -/
theorem Ext.freeze {p : Addr} {o : HO} (hp : H p = some o) (hF : F p = none) (hT : p ∉ T) {F0 H0 : Hp} {T0 : List Addr} (x : Ext F0 T0 H0 F T H) (h0 : H0 p = none) : Ext F0 T0 H0 (upd F p o) T H := by
  refine ⟨fun b u e => ?_, x.pre, fun b e n => ?_, x.newT, x.keep, x.there⟩
  · have := x.fr b u e
    rw [upd_ne (ne_of_none this hF)]; exact this
  · by_cases q : b = p
    · subst q; exact absurd h0 n
    · rw [upd_ne q]; exact x.newF b e n
theorem WF.freeze (w : WF K F T st H) {p : Addr} {o : HO} (hp : H p = some o) (hF : F p = none) (hT : p ∉ T) : WF K (upd F p o) T st H := by
  have sm : Same F (upd F p o) := fun b u e => by rw [upd_ne (ne_of_none e hF)]; exact e
  refine ⟨fun b u e => ?_, w.len, w.nd, fun a ha => ?_, fun n d e => ?_⟩
  · by_cases q : b = p
    · subst q; rw [upd_same] at e; rw [hp]; exact e
    · rw [upd_ne q] at e; exact w.fr b u e
  · rw [upd_ne (fun q : a = p => hT (by rw [← q]; exact ha))]; exact w.nf a ha
  · obtain ⟨a, h1, h2⟩ := w.at_ n d e
    exact ⟨a, h1, h2.mono sm (.refl _) fun _ z => z⟩
end
end Eng
set_option Elab.async false
set_option linter.all false
set_option maxRecDepth 100000
/-! Eng 2: the form of a program, and what it computes -/
namespace Eng
open PySem PySem.Spec PyProof.Rows L2

mutual
/-- an expression -/
inductive E where
  | var (i : Nat)
  | c (d : D)
  | gl (x : Str) (d : D)
  | fn (x : Str)
  | bin (op : Operator) (a b : E)
  | neg (a : E)
  | not (a : E)
  | cmp (op : CmpOp) (a b : E)
  | cmp2 (op op' : CmpOp) (a b c : E)
  | and (es : Es) | or (es : Es)
  | ife (c a b : E)
  | tup (es : Es) | lst (es : Es) | dnew
  | ix (a i : E)
  | sl (a : E) (lo hi : Op)
  | rev (a : E)
  | call (f : Nat) (es : Es)
  | callv (i : Nat) (fs : List (Str × Nat)) (es : Es)
  | attr (o : E) (c f : Str)
  | meth (o : E) (c m : Str) (f : Nat) (es : Es)
  | eqo (neg : Bool) (a : E) (c : Str) (f : Nat) (b : E)
  | xf (i : Nat) (al : List Str) (f : Str)
  | xkw (c : Str) (ks : List Str) (es : Es) (f : Str)
  | xis (i : Nat) (al cs : List Str)
  | bi (b : String) (es : Es)
  | sset (a : E)
  | isi (a : E) (ts : List String)
  | isc (a : E) (c : Str)
  | me (m : String) (o : E) (es : Es)
  | fmt (a : E)
  | lc (elt : E) (tg : Tg) (it : It) (ifs : Op) (ws : List Nat)
inductive Es where
  | nil | cons (e : E) (es : Es)
inductive Op where
  | no | so (e : E)
/-- what a for or a comprehension walks -/
inductive It where
  | seq (a : E)
  | rng (es : Es)
  | enum (a : E)
  | zip (a b : E)
  | keys (i : Nat)
inductive Tg where
  | v (i : Nat)
  | t (ts : Tgs)
inductive Tgs where
  | nil | cons (t : Tg) (ts : Tgs)
end

/-- parallel targets: fresh things of the frame's own, or values -/
inductive Ps where
  | nil | cons (own : Bool) (i : Nat) (e : E) (r : Ps)
mutual
inductive S where
  | asg (fz : List Nat) (tg : Tg) (e : E)
  | own (i : Nat) (e : E)
  | obj (i : Nat) (e : E)
  | par (fz : List Nat) (ps : Ps)
  | aug (i : Nat) (op : Operator) (e : E)
  | app (fz : List Nat) (i : Nat) (e : E)
  | setI (fz : List Nat) (i : Nat) (k e : E)
  | ex (e : E)
  | ret (fz : List Nat) (e : E)
  | ifs (c : E) (a b : Ss)
  | for_ (fz : List Nat) (tg : Tg) (it : It) (body : Ss)
  | whl (n : Nat) (c : E) (body : Ss)
  | fld (fz : List Nat) (i : Nat) (c f : Str) (e : E)
  | rais (c : Str) (ks : List Str) (es : Es)
  | try_ (ws : List Nat) (body : Ss) (hs : Hs)
  | pass | brk | cont
inductive Ss where
  | nil | cons (s : S) (ss : Ss)
/-- clauses: the classes that it takes, the slot of its name -/
inductive Hs where
  | nil | cons (al cs : List Str) (i : Option Nat) (suite : Ss) (hs : Hs)
end

/-! ### outcomes -/
inductive Out (α : Type) where
  | ok (a : α) (st : Store)
  | ex (c : Str) (ks : List Str) (ds : List D) (st : Store)
  | bad
  deriving Inhabited
def Out.bnd {α β : Type} (o : Out α) (f : α → Store → Out β) : Out β := match o with
  | .ok a st => f a st
  | .ex c ks ds st => .ex c ks ds st
  | .bad => .bad
@[simp] theorem Out.bnd_ok {α β : Type} (a : α) (st : Store) (f : α → Store → Out β) : (Out.ok a st).bnd f = f a st := rfl
@[simp] theorem Out.bnd_ex {α β : Type} (c : Str) (ks : List Str) (ds : List D) (st : Store) (f : α → Store → Out β) : (Out.ex c ks ds st).bnd f = .ex c ks ds st := rfl
@[simp] theorem Out.bnd_bad {α β : Type} (f : α → Store → Out β) : (Out.bad : Out α).bnd f = .bad := rfl
/-- a value that may fail -/
def ofO {α : Type} (o : Option α) (st : Store) : Out α := match o with
  | some a => .ok a st
  | none => .bad
@[simp] theorem ofO_some {α : Type} (a : α) (st : Store) : ofO (some a) st = .ok a st := rfl
@[simp] theorem ofO_none {α : Type} (st : Store) : ofO (none : Option α) st = .bad := rfl
/-- no exception may leave -/
def Out.nox {α : Type} (o : Out α) : Out α := match o with
  | .ex _ _ _ _ => .bad
  | o => o
def chkO {α : Type} (c : Bool) (o : Out α) : Out α := match c with
  | true => o
  | false => .bad
@[simp] theorem chkO_true {α : Type} (o : Out α) : chkO true o = o := rfl

inductive Sl where
  | no
  | val (d : D)
  | own (d : D)
  | xc (c : Str) (ks : List Str) (ds : List D)
  deriving Inhabited
abbrev Env := List Sl
/-- the defs by number -/
abbrev Calls := Nat → List D → Store → Out D

/-! ### operations on data -/
mutual
/-- data of depth below n -/
def dataD : Nat → D → Bool
  | _, .non => true
  | _, .bl _ => true
  | _, .int _ => true
  | _, .str x => PyData.strOk x
  | 0, .tup _ => false
  | 0, .lst _ => false
  | n + 1, .tup ds => dataDs n ds
  | n + 1, .lst ds => dataDs n ds
  | _, .dic _ _ => false
  | _, .ins _ _ _ => false
  | _, .obj _ => false
  | _, .fn _ => false
  | _, .scr _ => false
def dataDs : Nat → List D → Bool
  | _, [] => true
  | n, d :: ds => dataD n d && dataDs n ds
end
mutual
/-- data of depth below n, its texts of any signs -/
def dataF : Nat → D → Bool
  | _, .non => true
  | _, .bl _ => true
  | _, .int _ => true
  | _, .str _ => true
  | 0, .tup _ => false
  | 0, .lst _ => false
  | n + 1, .tup ds => dataFs n ds
  | n + 1, .lst ds => dataFs n ds
  | _, _ => false
def dataFs : Nat → List D → Bool
  | _, [] => true
  | n, d :: ds => dataF n d && dataFs n ds
end
mutual
def py : D → PyData
  | .non => .none
  | .bl b => .bool b
  | .int i => .int i
  | .str x => .str x
  | .tup ds => .tuple (pys ds)
  | .lst ds => .list (pys ds)
  | _ => .none
def pys : List D → List PyData
  | [] => []
  | d :: ds => py d :: pys ds
end
mutual
def eqD : D → D → Bool
  | .non, .non => true
  | .bl a, .bl b => a == b
  | .bl a, .int j => (if a then 1 else 0) == j
  | .int i, .bl b => i == (if b then 1 else 0)
  | .int i, .int j => decide (i = j)
  | .str x, .str y => decide (x = y)
  | .lst xs, .lst ys => eqDs xs ys
  | .tup xs, .tup ys => eqDs xs ys
  | _, _ => false
def eqDs : List D → List D → Bool
  | [], [] => true
  | x :: xs, y :: ys => eqD x y && eqDs xs ys
  | _, _ => false
end
def flatD : D → Bool
  | .non => true
  | .bl _ => true
  | .int _ => true
  | .str _ => true
  | _ => false
/-- the scalars that == tells apart -/
def scalD : D → D → Bool
  | .bl _, .int _ => false
  | .int _, .bl _ => false
  | x, y => flatD x && flatD y
def eqO : D → D → Option Bool
  | .lst xs, .lst [] => some xs.isEmpty
  | x, y => if scalD x y = true then some (eqD x y) else if (dataD 20 x && dataD 20 y) = true then some (eqD x y) else none
def lenD : D → Option Nat
  | .scr ns => some ns.length
  | .str x => if x.length ≤ sizeLine then some x.length else none
  | .tup ds => some ds.length
  | .lst ds => some ds.length
  | .dic ks _ => some ks.length
  | _ => none
def truthD : D → Option Bool
  | .non => some false
  | .bl b => some b
  | .int i => some (i != 0)
  | .str x => if x.length ≤ sizeLine then some (x.length != 0) else none
  | .tup ds => some (!ds.isEmpty)
  | .lst ds => some (!ds.isEmpty)
  | _ => none
/-- a key -/
def keyD : D → Option Key
  | .int i => some (.inl i)
  | .str x => some (.inr x)
  | _ => none
def dicGet (ks : List Key) (ds : List D) (k : Key) : Option D := ((ks.zip ds).find? fun kv => decide (kv.1 = k)).map (·.2)
def dicPut (ks : List Key) (ds : List D) (k : Key) (d : D) : List Key × List D :=
  if (ks.any fun q => decide (q = k)) = true then (ks, List.zipWith (fun q e => if q = k then d else e) ks ds) else (ks ++ [k], ds ++ [d])
def repStr (x : Str) (k : Nat) : Str := ⟨(List.replicate k x.cps.toList).flatten.toArray⟩
def binD : Operator → D → D → Option D
  | .Add, .int i, .int j => some (.int (i + j))
  | .Add, .str x, .str y => if x.length + y.length ≤ sizeLine then some (.str (x ++ y)) else none
  | .Add, .lst xs, .lst ys => if xs.length + ys.length ≤ sizeLine then some (.lst (xs ++ ys)) else none
  | .Add, .tup xs, .tup ys => if xs.length + ys.length ≤ sizeLine then some (.tup (xs ++ ys)) else none
  | .Sub, .int i, .int j => some (.int (i - j))
  | .Mult, .int i, .int j => if (-(2 ^ 64) < i ∧ i < 2 ^ 64) ∨ (-(2 ^ 64) < j ∧ j < 2 ^ 64) then some (.int (i * j)) else none
  | .Mult, .lst xs, .int k => if -(2 ^ 63) ≤ k ∧ k < 2 ^ 63 ∧ xs.length * k.toNat ≤ sizeLine then some (.lst (List.replicate k.toNat xs).flatten) else none
  | .Mult, .str x, .int k => if -(2 ^ 63) ≤ k ∧ k < 2 ^ 63 ∧ x.length * k.toNat ≤ sizeLine then some (.str (Txt.mul x k)) else none
  | .FloorDiv, .int i, .int j => if j ≠ 0 ∧ j.natAbs < 1073741824 then some (.int (i.fdiv j)) else none
  | .Mod, .int i, .int j => if j ≠ 0 then some (.int (i.fmod j)) else none
  | .Pow, .int i, .int j => if 0 ≤ j ∧ j ≤ 1000000 ∧ i.natAbs < 2 ^ 64 then some (.int (i ^ j.toNat)) else none
  | _, _, _ => none
def inD (x : D) : D → Option Bool
  | .str z => (match x with
    | .str y => (match y.cps.toList with
      | [c] => some (decide (c ∈ z.cps.toList))
      | _ => none)
    | _ => none)
  | .lst ds => if (flatD x && ds.all flatD) = true then some (ds.any fun z => eqD z x) else if (dataD 20 x && dataDs 20 ds) = true then some (ds.any fun z => eqD z x) else none
  | .tup ds => if (flatD x && ds.all flatD) = true then some (ds.any fun z => eqD z x) else none
  | .dic ks _ => (keyD x).map fun k => ks.any fun q => decide (q = k)
  | _ => none
def isNone : D → Bool
  | .non => true
  | _ => false
def cmpD : CmpOp → D → D → Option Bool
  | .Eq, x, y => eqO x y
  | .NotEq, x, y => (eqO x y).map (!·)
  | .Lt, .int i, .int j => some (decide (i < j))
  | .LtE, .int i, .int j => some (decide (i ≤ j))
  | .Gt, .int i, .int j => some (decide (j < i))
  | .GtE, .int i, .int j => some (decide (j ≤ i))
  | .In, x, y => inD x y
  | .NotIn, x, y => (inD x y).map (!·)
  | .Is, x, .non => some (isNone x)
  | .IsNot, x, .non => some (!isNone x)
  | .Is, .bl a, .bl b => some (decide (a = b))
  | .IsNot, .bl a, .bl b => some (!decide (a = b))
  | _, _, _ => none
/-- an index of any sign -/
def ixS (x : D) (i : D) : Option D := match i with
  | .int k => (match x with
    | .lst ds => atI ds k
    | .tup ds => atI ds k
    | .scr ns => (atI ns k).map .int
    | .str z => if z.length ≤ sizeLine then (atI z.cps.toList k).map fun c => .str ⟨#[c]⟩ else none
    | .dic ks ds => dicGet ks ds (.inl k)
    | _ => none)
  | .str z => (match x with
    | .dic ks ds => dicGet ks ds (.inr z)
    | _ => none)
  | _ => none
def cutD {α : Type} (xs : List α) (lo hi : Option Int) : List α := (xs.drop (HT.sIx xs.length 0 lo)).take (HT.sIx xs.length xs.length hi - HT.sIx xs.length 0 lo)
def slD (x : D) (lo hi : Option Int) : Option D := match x with
  | .lst ds => some (.lst (cutD ds lo hi))
  | .tup ds => some (.tup (cutD ds lo hi))
  | .str z => if z.length ≤ sizeLine then some (.str (cutS z lo hi)) else none
  | _ => none
def partD : D → Option Int
  | .int i => some i
  | _ => none
def revD : D → Option D
  | .lst ds => some (.lst ds.reverse)
  | .str z => if z.length ≤ sizeLine then some (.str ⟨z.cps.toList.reverse.toArray⟩) else none
  | _ => none
def intsD : List D → Option (List Int)
  | [] => some []
  | .int i :: ds => (intsD ds).map (i :: ·)
  | _ :: _ => none
def strsD : List D → Option (List Str)
  | [] => some []
  | .str i :: ds => (strsD ds).map (i :: ·)
  | _ :: _ => none
def blsD : List D → Option (List Bool)
  | [] => some []
  | .bl i :: ds => (blsD ds).map (i :: ·)
  | _ :: _ => none
def seqD : D → Option (List D)
  | .lst ds => some ds
  | .tup ds => some ds
  | _ => none
/-- the order of data of one kind -/
def leD : D → D → Bool := PySem.W.dataLe false py
def isTup1 : D → Bool
  | .tup (_ :: _) => true
  | _ => false
def isTupN : D → Bool
  | .tup _ => true
  | .non => true
  | _ => false
def sortOk (ds : List D) : Bool := ds.all (dataF 20) && (ds.all fun d => ds.all fun e => PySem.W.alike (py d) (py e)) && (ds.all isTup1 || ds.all fun d => !isTupN d)
def sortedD (ds : List D) : Option D := if sortOk ds = true then some (.lst (ds.mergeSort leD)) else none
def sortS (xs : List Str) : List Str := xs.mergeSort fun x y => decide (x.cps.toList ≤ y.cps.toList)
/-- the first of equal ones -/
def nubS (xs : List Str) : List Str := xs.eraseDups
/-- built-in functions of values -/
def biD (b : String) (ds : List D) : Option D := match b, ds with
  | "len", [x] => (lenD x).map fun (n : Nat) => .int (n : Int)
  | "sum", [.lst ds] => (intsD ds).map fun ns => .int ns.sum
  | "int", [.int i] => some (.int i)
  | "int", [.bl b] => some (.int (if b then 1 else 0))
  | "int", [.str x] => if x.length ≤ 640 then (PySem.intText? x).map .int else none
  | "str", [.int i] => if i.natAbs.log2 < 1920 then some (.str (toString i)) else none
  | "abs", [.int i] => some (.int (if i < 0 then -i else i))
  | "all", [.lst ds] => (blsD ds).map fun bs => .bl (bs.all id)
  | "any", [.lst ds] => (blsD ds).map fun bs => .bl (bs.any id)
  | "max2", [.int i, .int j] => some (.int (if j > i then j else i))
  | "min2", [.int i, .int j] => some (.int (if j < i then j else i))
  | "list", [x] => (seqD x).map .lst
  | "tuple", [x] => (seqD x).map .tup
  | "sorted", [.lst ds] => sortedD ds
  | _, _ => none
/-- the type's name by which isinstance finds a value; a bool is an int -/
def tyN : D → Option String
  | .non => some "NoneType"
  | .bl _ => some "bool"
  | .int _ => some "int"
  | .str _ => some "str"
  | .tup _ => some "tuple"
  | .lst _ => some "list"
  | .dic _ _ => some "dict"
  | _ => none
def tyIs (a t : String) : Bool := a == t || (a == "bool" && t == "int")
def isTys (ts : List String) (d : D) : Option Bool := (tyN d).map fun a => ts.any (tyIs a)
def isCls (c : Str) : D → Option Bool
  | .ins c' _ _ => some (decide (c' = c))
  | .obj _ => none
  | .fn _ => none
  | .scr _ => none
  | _ => some false
def meD (m : String) (o : D) (ds : List D) : Option D := match m, o, ds with
  | "join", .str s, [.lst xs] => (strsD xs).bind fun ys => if (Txt.join s ys).length ≤ 16777216 then some (.str (Txt.join s ys)) else none
  | _, _, _ => none
/-- an int's eight figures -/
def fmt8 (i : Int) : Str := ⟨(List.replicate (8 - (toString i : String).toList.length) 48 ++ (toString i : String).toList.map Char.toNat).toArray⟩
def fmtD : D → Option D
  | .int i => if 0 ≤ i ∧ i < 10 ^ 8 then some (.str (fmt8 i)) else none
  | _ => none

/-! ### environments -/
def getV (env : Env) (i : Nat) : Option D := match env[i]? with
  | some (.val d) => some d
  | _ => none
/-- to be looked at for a moment -/
def getB (env : Env) (i : Nat) : Option D := match env[i]? with
  | some (.val d) => some d
  | some (.own d) => some d
  | _ => none
def deref (st : Store) : D → Option D
  | .obj n => st[n]?
  | d => some d
def freeze1 : Sl → Sl
  | .own d => .val d
  | s => s
def freeze (env : Env) : List Nat → Env
  | [] => env
  | i :: is => (freeze env is).modify i freeze1
def wipeE (env : Env) : List Nat → Env
  | [] => env
  | i :: is => (wipeE env is).set i .no
mutual
def bind1 : Tg → D → Env → Option Env
  | .v i, d, env => some (env.set i (.val d))
  | .t ts, .tup ds, env => binds ts ds env
  | .t _, _, _ => none
def binds : Tgs → List D → Env → Option Env
  | .nil, [], env => some env
  | .cons t ts, d :: ds, env => (bind1 t d env).bind fun env' => binds ts ds env'
  | _, _, _ => none
end
def rngD : List D → Option (List D)
  | [.int n] => if -(2 ^ 62) ≤ n ∧ n ≤ sizeLine then some ((List.range n.toNat).map fun (k : Nat) => D.int (0 + k)) else none
  | [.int a, .int b] => if -(2 ^ 62) ≤ a ∧ a < 2 ^ 62 ∧ b - a ≤ sizeLine ∧ -(2 ^ 62) ≤ b ∧ b < 2 ^ 62 then some ((List.range (b - a).toNat).map fun (k : Nat) => D.int (a + k)) else none
  | _ => none
def itemsD : D → Option (List D)
  | .lst ds => some ds
  | .tup ds => some ds
  | .str z => if z.length ≤ sizeLine then some (z.cps.toList.map fun c => D.str ⟨#[c]⟩) else none
  | _ => none
def enumD : D → Option (List D)
  | x => (itemsD x).map fun ds => (List.range ds.length).zipWith (fun (k : Nat) d => D.tup [.int k, d]) ds
def zipD : D → D → Option (List D)
  | .lst xs, .lst ys => some (List.zipWith (fun a b => D.tup [a, b]) xs ys)
  | .tup xs, .tup ys => some (List.zipWith (fun a b => D.tup [a, b]) xs ys)
  | _, _ => none

/-! ### expressions -/
/-- a comprehension's turns -/
def lcGo (step : D → Store → Out (Option D)) : List D → Store → Out (List D)
  | [], st => .ok [] st
  | d :: ds, st => ((step d st).nox).bnd fun r st1 => (lcGo step ds st1).bnd fun acc st2 => .ok (match r with | some y => y :: acc | none => acc) st2
def callv (C : Calls) (fs : List (Str × Nat)) (d : D) (ds : List D) (st : Store) : Out D := match d with
  | .fn f => (match fs.lookup f with
    | some n => C n ds st
    | none => .bad)
  | _ => .bad
/-- the attribute f of an instance of the class c -/
def fldD (f : Str) : List Str → List D → Option D
  | k :: ks, d :: ds => if k = f then some d else fldD f ks ds
  | _, _ => none
def attrD (c f : Str) : D → Option D
  | .ins c' ks ds => if c' = c then fldD f ks ds else none
  | _ => none
/-- an instance of c without an attribute m -/
def insIs (c m : Str) : D → Bool
  | .ins c' ks _ => decide (c' = c) && !ks.contains m
  | _ => false
def putFld (f : Str) (d : D) : List Str → List D → List Str × List D
  | k :: ks, e :: es => if k = f then (k :: ks, d :: es) else (k :: (putFld f d ks es).1, e :: (putFld f d ks es).2)
  | _, _ => ([f], [d])
/-- an operand that is looked at only -/
def bor (env : Env) (e : E) (m : Store → Out D) : Store → Out D := fun st => match e with
  | .var i => ofO (getB env i) st
  | _ => m st
/-- as a test -/
def tst (m : Store → Out D) : Store → Out Bool := fun st => (m st).bnd fun d st => ofO (truthD d) st
abbrev Ev : Type := (Store → Out D) × (Store → Out Bool)
abbrev mkV (m : Store → Out D) : Ev := (m, tst m)
mutual
def evP (C : Calls) (env : Env) : E → Ev
  | .var i => mkV fun st => ofO (getV env i) st
  | .c d => mkV fun st => .ok d st
  | .gl _ d => mkV fun st => .ok d st
  | .fn x => mkV fun st => .ok (.fn x) st
  | .bin op a b => mkV fun st => (bor env a (evP C env a).1 st).bnd fun x st => (bor env b (evP C env b).1 st).bnd fun y st => ofO (binD op x y) st
  | .neg a => mkV fun st => ((evP C env a).1 st).bnd fun x st => (match x with | .int i => .ok (.int (-i)) st | _ => .bad)
  | .not a => (fun st => ((evP C env a).1 st).bnd fun d st => (ofO (truthD d) st).bnd fun b st => .ok (.bl (!b)) st, fun st => ((evP C env a).2 st).bnd fun b st => .ok (!b) st)
  | .cmp op a b => mkV fun st => (bor env a (evP C env a).1 st).bnd fun x st => (bor env b (evP C env b).1 st).bnd fun y st => ofO ((cmpD op x y).map .bl) st
  | .cmp2 op op' a b c => mkV fun st => ((evP C env a).1 st).bnd fun x st => ((evP C env b).1 st).bnd fun y st => (ofO (cmpD op x y) st).bnd fun r st => (match r with
    | true => ((evP C env c).1 st).bnd fun z st => ofO ((cmpD op' y z).map .bl) st
    | false => .ok (.bl false) st)
  | .and es => (evAnd C env es, evTAnd C env es)
  | .or es => (evOr C env es, evTOr C env es)
  | .ife c a b => mkV fun st => ((evP C env c).2 st).bnd fun r st => (match r with | true => (evP C env a).1 st | false => (evP C env b).1 st)
  | .tup es => mkV fun st => (evEs C env es st).bnd fun ds st => chkO (decide (ds.length ≤ sizeLine)) (.ok (.tup ds) st)
  | .lst es => mkV fun st => (evEs C env es st).bnd fun ds st => chkO (decide (ds.length ≤ sizeLine)) (.ok (.lst ds) st)
  | .dnew => mkV fun st => .ok (.dic [] []) st
  | .ix a i => mkV fun st => (bor env a (evP C env a).1 st).bnd fun x st => ((evP C env i).1 st).bnd fun k st => ofO ((deref st x).bind fun x => ixS x k) st
  | .sl a lo hi => mkV fun st => (bor env a (evP C env a).1 st).bnd fun x st => (evO C env lo st).bnd fun l st => (evO C env hi st).bnd fun h st => ofO (slD x l h) st
  | .rev a => mkV fun st => (bor env a (evP C env a).1 st).bnd fun x st => ofO (revD x) st
  | .call f es => mkV fun st => (evEs C env es st).bnd fun ds st => C f ds st
  | .callv i fs es => mkV fun st => (ofO (getV env i) st).bnd fun d st => (evEs C env es st).bnd fun ds st => callv C fs d ds st
  | .attr o c f => mkV fun st => (bor env o (evP C env o).1 st).bnd fun x st => ofO ((deref st x).bind (attrD c f)) st
  | .meth o c m f es => mkV fun st => ((evP C env o).1 st).bnd fun x st => (ofO (deref st x) st).bnd fun y st => chkO (insIs c m y) ((evEs C env es st).bnd fun ds st => C f (x :: ds) st)
  | .eqo neg a c f b => mkV fun st => ((evP C env a).1 st).bnd fun x st => ((evP C env b).1 st).bnd fun y st => chkO (insIs c "__eq__" x) ((C f [x, y] st).bnd fun r st => (match r with | .bl k => .ok (.bl (if neg = true then !k else k)) st | _ => .bad))
  | .xf i al f => mkV fun st => (match env[i]? with | some (.xc c ks ds) => chkO (decide (c ∈ al)) (ofO (fldD f ks ds) st) | _ => .bad)
  | .xkw _ ks es f => mkV fun st => (evEs C env es st).bnd fun ds st => ofO (fldD f ks ds) st
  | .xis i al cs => mkV fun st => (match env[i]? with | some (.xc c _ _) => chkO (decide (c ∈ al)) (.ok (.bl (decide (c ∈ cs))) st) | _ => .bad)
  | .bi b es => mkV fun st => (evBs C env es st).bnd fun ds st => ofO (biD b ds) st
  | .sset a => mkV fun st => (bor env a (evP C env a).1 st).bnd fun x st => ofO ((seqD x).bind fun ds => (strsD ds).map fun xs => .lst ((sortS (nubS xs)).map .str)) st
  | .isi a ts => mkV fun st => (bor env a (evP C env a).1 st).bnd fun x st => ofO ((isTys ts x).map .bl) st
  | .isc a c => mkV fun st => (bor env a (evP C env a).1 st).bnd fun x st => ofO ((isCls c x).map .bl) st
  | .me m o es => mkV fun st => (bor env o (evP C env o).1 st).bnd fun x st => (evBs C env es st).bnd fun ds st => ofO (meD m x ds) st
  | .fmt a => mkV fun st => ((evP C env a).1 st).bnd fun x st => ofO (fmtD x) st
  | .lc elt tg it ifs ws => mkV fun st => (evIt C env it st).bnd fun ds st => (lcGo (fun d st => (ofO (bind1 tg d (wipeE env ws)) st).bnd fun env' st => (evIf C env' ifs st).bnd fun r st => (match r with
      | true => ((evP C env' elt).1 st).bnd fun y st => .ok (some y) st
      | false => .ok none st)) ds st).bnd fun ys st => .ok (.lst ys) st
def evEs (C : Calls) (env : Env) : Es → Store → Out (List D)
  | .nil => fun st => .ok [] st
  | .cons e es => fun st => ((evP C env e).1 st).bnd fun d st => (evEs C env es st).bnd fun ds st => .ok (d :: ds) st
def evBs (C : Calls) (env : Env) : Es → Store → Out (List D)
  | .nil => fun st => .ok [] st
  | .cons e es => fun st => (bor env e (evP C env e).1 st).bnd fun d st => (evBs C env es st).bnd fun ds st => .ok (d :: ds) st
def evAnd (C : Calls) (env : Env) : Es → Store → Out D
  | .nil => fun _ => .bad
  | .cons e es => fun st => ((evP C env e).1 st).bnd fun d st => (match es with
    | .nil => .ok d st
    | .cons _ _ => (ofO (truthD d) st).bnd fun r st => (match r with | true => evAnd C env es st | false => .ok d st))
def evOr (C : Calls) (env : Env) : Es → Store → Out D
  | .nil => fun _ => .bad
  | .cons e es => fun st => ((evP C env e).1 st).bnd fun d st => (match es with
    | .nil => .ok d st
    | .cons _ _ => (ofO (truthD d) st).bnd fun r st => (match r with | true => .ok d st | false => evOr C env es st))
def evO (C : Calls) (env : Env) : Op → Store → Out (Option Int)
  | .no => fun st => .ok none st
  | .so e => fun st => ((evP C env e).1 st).bnd fun d st => (match d with | .int i => .ok (some i) st | _ => .bad)
def evIf (C : Calls) (env : Env) : Op → Store → Out Bool
  | .no => fun st => .ok true st
  | .so e => (evP C env e).2
def evIt (C : Calls) (env : Env) : It → Store → Out (List D)
  | .seq a => fun st => (bor env a (evP C env a).1 st).bnd fun x st => ofO (itemsD x) st
  | .rng es => fun st => (evEs C env es st).bnd fun ds st => ofO (rngD ds) st
  | .enum a => fun st => (bor env a (evP C env a).1 st).bnd fun x st => ofO (enumD x) st
  | .zip a b => fun st => (bor env a (evP C env a).1 st).bnd fun x st => (bor env b (evP C env b).1 st).bnd fun y st => ofO (zipD x y) st
  | .keys i => fun st => (match env[i]? with
    | some (.own (.dic ks _)) => .ok (ks.map fun k => match k with | .inl i => D.int i | .inr x => D.str x) st
    | _ => .bad)
def evTAnd (C : Calls) (env : Env) : Es → Store → Out Bool
  | .nil => fun _ => .bad
  | .cons e es => fun st => ((evP C env e).2 st).bnd fun r st => (match es with
    | .nil => .ok r st
    | .cons _ _ => (match r with | true => evTAnd C env es st | false => .ok false st))
def evTOr (C : Calls) (env : Env) : Es → Store → Out Bool
  | .nil => fun _ => .bad
  | .cons e es => fun st => ((evP C env e).2 st).bnd fun r st => (match es with
    | .nil => .ok r st
    | .cons _ _ => (match r with | true => .ok true st | false => evTOr C env es st))
end
abbrev evE (C : Calls) (env : Env) (e : E) : Store → Out D := (evP C env e).1
abbrev evT (C : Calls) (env : Env) (e : E) : Store → Out Bool := (evP C env e).2

/-- what a for goes through: things that stay -/
def evItV (C : Calls) (env : Env) : It → Store → Out (List D)
  | .seq a => fun st => (evE C env a st).bnd fun x st => ofO (itemsD x) st
  | .rng es => fun st => (evEs C env es st).bnd fun ds st => ofO (rngD ds) st
  | .enum a => fun st => (evE C env a st).bnd fun x st => ofO (enumD x) st
  | .zip a b => fun st => (evE C env a st).bnd fun x st => (evE C env b st).bnd fun y st => ofO (zipD x y) st
  | .keys _ => fun _ => .bad

/-! ### statements -/
inductive Fl where
  | nx (env : Env)
  | rt (d : D)
  | bk (env : Env)
  | ct (env : Env)
/-- the turns of a for -/
def forGo (turn : D → Env → Store → Out Fl) : List D → Env → Store → Out Fl
  | [], env, st => .ok (.nx env) st
  | d :: ds, env, st => (turn d env st).bnd fun f st1 => (match f with
    | .nx env1 => forGo turn ds env1 st1
    | .ct env1 => forGo turn ds env1 st1
    | .bk env1 => .ok (.nx env1) st1
    | .rt d => .ok (.rt d) st1)
/-- the turns of a while -/
def whlGo (c : Env → Store → Out Bool) (body : Env → Store → Out Fl) : Nat → Env → Store → Out Fl
  | 0, _, _ => .bad
  | n + 1, env, st => (c env st).bnd fun b st1 => (match b with
    | false => .ok (.nx env) st1
    | true => (body env st1).bnd fun f st2 => (match f with
      | .nx env1 => whlGo c body n env1 st2
      | .ct env1 => whlGo c body n env1 st2
      | .bk env1 => .ok (.nx env1) st2
      | .rt d => .ok (.rt d) st2))
def isCont : D → Bool
  | .lst _ => true
  | .dic _ _ => true
  | _ => false
/-- o[k] = v of a changeable thing -/
def putD (o k v : D) : Option D := match o with
  | .lst ds => (match k with
    | .int i => (ixN ds.length i).map fun j => .lst (ds.set j v)
    | _ => none)
  | .dic ks ds => (keyD k).bind fun k => if ks.length < sizeLine then some (.dic (dicPut ks ds k v).1 (dicPut ks ds k v).2) else none
  | _ => none
def setIx (env : Env) (i : Nat) (k v : D) (st : Store) : Out Env := match env[i]? with
  | some (.own d) => (ofO (putD d k v) st).bnd fun d' st => .ok (env.set i (.own d')) st
  | some (.val (.obj n)) => (match st[n]? with
    | some d => (ofO (putD d k v) st).bnd fun d' st => .ok env (st.set n d')
    | none => .bad)
  | _ => .bad
/-- a list of the frame's own -/
def ownL (env : Env) (i : Nat) : Option (List D) := match env[i]? with
  | some (.own (.lst ds)) => some ds
  | _ => none
/-- a thing that may be changed -/
def isPut (env : Env) (i : Nat) : Bool := match env[i]? with
  | some (.own _) => true
  | some (.val (.obj _)) => true
  | _ => false
def augD : Operator → D → D → Option D
  | .Add, .int i, .int j => some (.int (i + j))
  | .Sub, .int i, .int j => some (.int (i - j))
  | .Mult, .int i, .int j => if (-(2 ^ 64) < i ∧ i < 2 ^ 64) ∨ (-(2 ^ 64) < j ∧ j < 2 ^ 64) then some (.int (i * j)) else none
  | .Add, .str x, .str y => if x.length + y.length ≤ sizeLine then some (.str (x ++ y)) else none
  | _, _, _ => none
/-- self.f = v, of an instance of the class c -/
def fldPut (c f : Str) (v : D) : D → Option D
  | .ins c' ks ds => if c' = c ∧ ks.length < 1000 then some (.ins c' (putFld f v ks ds).1 (putFld f v ks ds).2) else none
  | _ => none
def setFld (env : Env) (i : Nat) (c f : Str) (v : D) (st : Store) : Out Env := match env[i]? with
  | some (.own d) => (ofO (fldPut c f v d) st).bnd fun d' st => .ok (env.set i (.own d')) st
  | some (.val (.obj n)) => (match st[n]? with
    | some d => (ofO (fldPut c f v d) st).bnd fun d' st => .ok env (st.set n d')
    | none => .bad)
  | _ => .bad
/-- the values of parallel targets -/
def evPs (C : Calls) (env : Env) : Ps → Store → Out (List D)
  | .nil => fun st => .ok [] st
  | .cons _ _ e r => fun st => (evE C env e st).bnd fun d st => (evPs C env r st).bnd fun ds st => .ok (d :: ds) st
def setPs : Ps → List D → Env → Option Env
  | .nil, [], env => some env
  | .cons own i _ r, d :: ds, env => (match own with
    | true => if isCont d = true then setPs r ds (env.set i (.own d)) else none
    | false => setPs r ds (env.set i (.val d)))
  | _, _, _ => none
/-- no exception is held any more -/
def dropX : Env → Env
  | [] => []
  | .xc _ _ _ :: r => .no :: dropX r
  | s :: r => s :: dropX r
mutual
def evS (C : Calls) : S → Env → Store → Out Fl
  | .asg fz tg e => fun env st => (evE C (freeze env fz) e st).bnd fun d st => (ofO (bind1 tg d (freeze env fz)) st).bnd fun env' st => .ok (.nx env') st
  | .own i e => fun env st => (evE C env e st).bnd fun d st => chkO (isCont d) (.ok (.nx (env.set i (.own d))) st)
  | .obj i e => fun env st => (evE C env e st).bnd fun d st => chkO (isCont d) (.ok (.nx (env.set i (.val (.obj st.length)))) (st ++ [d]))
  | .par fz ps => fun env st => (evPs C (freeze env fz) ps st).bnd fun ds st => (ofO (setPs ps ds (freeze env fz)) st).bnd fun env' st => .ok (.nx env') st
  | .aug i op e => fun env st => (ofO (getV env i) st).bnd fun x st => (evE C env e st).bnd fun y st => (ofO (augD op x y) st).bnd fun z st => .ok (.nx (env.set i (.val z))) st
  | .app fz i e => fun env st => (ofO (ownL (freeze env fz) i) st).bnd fun ds st => (evE C (freeze env fz) e st).bnd fun d st => chkO (decide (ds.length < sizeLine)) (.ok (.nx ((freeze env fz).set i (.own (.lst (ds ++ [d]))))) st)
  | .setI fz i k e => fun env st => (evE C (freeze env fz) e st).bnd fun d st => chkO (isPut (freeze env fz) i) ((evE C (freeze env fz) k st).bnd fun x st => (setIx (freeze env fz) i x d st).bnd fun env' st => .ok (.nx env') st)
  | .ex e => fun env st => (evE C env e st).bnd fun _ st => .ok (.nx env) st
  | .ret fz e => fun env st => (evE C (freeze env fz) e st).bnd fun d st => .ok (.rt d) st
  | .ifs c a b => fun env st => (evT C env c st).bnd fun r st => (match r with | true => evSs C a env st | false => evSs C b env st)
  | .for_ fz tg it body => fun env st => (evItV C (freeze env fz) it st).bnd fun ds st => forGo (fun d env st => (ofO (bind1 tg d env) st).bnd fun env' st => evSs C body env' st) ds (freeze env fz) st
  | .whl n c body => fun env st => whlGo (fun env st => evT C env c st) (evSs C body) n env st
  | .fld fz i c f e => fun env st => (evE C (freeze env fz) e st).bnd fun d st => (setFld (freeze env fz) i c f d st).bnd fun env' st => .ok (.nx env') st
  | .rais c ks es => fun env st => (evEs C env es st).bnd fun ds st => chkO (decide (ks.length = ds.length)) (.ex c ks ds.reverse st)
  | .try_ ws body hs => fun env st => (match evSs C body env st with
    | .ex c ks ds st1 => evHs C hs c ks ds (wipeE env ws) st1
    | o => o)
  | .pass => fun env st => .ok (.nx env) st
  | .brk => fun env st => .ok (.bk env) st
  | .cont => fun env st => .ok (.ct env) st
def evSs (C : Calls) : Ss → Env → Store → Out Fl
  | .nil => fun env st => .ok (.nx env) st
  | .cons s ss => fun env st => (evS C s env st).bnd fun f st => (match f with
    | .nx env' => evSs C ss env' st
    | .rt d => .ok (.rt d) st
    | .bk env => .ok (.bk env) st
    | .ct env => .ok (.ct env) st)
def evHs (C : Calls) : Hs → Str → List Str → List D → Env → Store → Out Fl
  | .nil => fun c ks ds _ st => .ex c ks ds st
  | .cons al cs i suite hs => fun c ks ds env st => chkO (decide (c ∈ al)) (match decide (c ∈ cs) with
    | false => evHs C hs c ks ds env st
    | true => (match i with
      | none => evSs C suite env st
      | some i => (evSs C suite (env.set i (.xc c ks ds)) st).bnd fun f st => (match f with
        | .nx env' => .ok (.nx ((dropX env').set i .no)) st
        | .rt d => .ok (.rt d) st
        | .bk env' => .ok (.bk ((dropX env').set i .no)) st
        | .ct env' => .ok (.ct ((dropX env').set i .no)) st)))
end
/-- a def: how many parameters, how many names, its body; the class whose instance it makes, whether it changes later -/
structure FnI where
  ps : Nat
  ns : Nat
  body : Ss
  ini : Option (Str × Bool) := none
def endD (o : Out Fl) : Out D := o.bnd fun f st => (match f with
  | .nx _ => .ok .non st
  | .rt d => .ok d st
  | _ => .bad)
def own0 : Env → Option D
  | .own d :: _ => some d
  | _ => none
def endI (m : Bool) (o : Out Fl) : Out D := o.bnd fun f st => (match f with
  | .nx env => (ofO (own0 env) st).bnd fun d st => (match m with
    | true => .ok (.obj st.length) (st ++ [d])
    | false => .ok d st)
  | _ => .bad)
def runF (C : Calls) (fi : FnI) (ds : List D) (st : Store) : Out D := match decide (ds.length = fi.ps) with
  | true => (match fi.ini with
    | none => endD (evSs C fi.body (ds.map .val ++ List.replicate (fi.ns - fi.ps) .no) st)
    | some (c, m) => endI m (evSs C fi.body (.own (.ins c [] []) :: (ds.map .val ++ List.replicate (fi.ns - fi.ps) .no)) st))
  | false => .bad
def callN (tab : List FnI) : Nat → Calls
  | 0 => fun _ _ _ => .bad
  | n + 1 => fun f ds st => (match tab[f]? with
    | some fi => runF (callN tab n) fi ds st
    | none => .bad)
end Eng
set_option Elab.async false
set_option linter.all false
set_option maxRecDepth 100000
/-! Eng 3: readings -/
namespace Eng
open PySem PySem.Spec PyProof.Rows L2

/-! ### a slot -/
/-- the exception that a suite holds: where it is, its class, its dict -/
structure XI where
  a : Addr
  cls : Value
  dx : Option Addr
/-- how a def was entered -/
structure Bs where
  F : Hp := fun _ => none
  T : List Addr := []
  H : Hp := fun _ => none
/-- the exception that is held; the heap at the def's entry -/
structure XB where
  x : Option XI
  H0 : Hp
/-- what is wished of what is raised; the exception that is held; how the def was entered; whether a clause looks at the slots -/
structure WW where
  W : WX
  x : Option XI := none
  B : Bs := {}
  sv : Bool := false
abbrev WW.xi (W : WW) : XB := ⟨W.x, W.B.H⟩
instance : CoeFun WW (fun _ => WX) := ⟨WW.W⟩
/-- an exception's own dict -/
def XRep (K : PySem.W.Frag) (F : Hp) (T : List Addr) (H : Hp) (ks : List Str) (ds : List D) (dx : Option Addr) : Prop :=
  (ks = [] ∧ ds = [] ∧ dx = none) ∨ ∃ a fs, dx = some a ∧ H a = some (.xd fs) ∧ a ∉ T ∧ fs.map (·.1) = ks ∧ Reps K F T (fs.map (·.2)) ds
def SlOk (K : PySem.W.Frag) (xi : XB) (F : Hp) (T : List Addr) (H : Hp) (s : Sl) (o : Option (Option V)) : Prop := match s with
  | .no => True
  | .val d => ∃ v, o = some (some v) ∧ Rep K F T v d
  | .own d => ∃ a, o = some (some (.ref a)) ∧ RepTop K F T H a d ∧ F a = none ∧ a ∉ T ∧ xi.H0 a = none
  | .xc c ks ds => ∃ x, xi.x = some x ∧ o = some (some (.ref x.a)) ∧ x.cls = .ref (He.ga K c) ∧ XRep K F T H ks ds x.dx
structure EnvOk (K : PySem.W.Frag) (xi : XB) (F : Hp) (T : List Addr) (H : Hp) (env : Env) (σ : L2.St) : Prop where
  at_ : ∀ (i : Nat) (s : Sl), env[i]? = some s → SlOk K xi F T H s σ[i]?
  len : env.length ≤ σ.length
  apart : ∀ (i j : Nat) (d d' : D) (a : Addr), i ≠ j → env[i]? = some (.own d) → env[j]? = some (.own d') → σ[i]? = some (some (.ref a)) → σ[j]? = some (some (.ref a)) → False
section
variable {K : PySem.W.Frag} {F F' H H' : Hp} {T T' : List Addr} {st : Store} {env : Env} {σ : L2.St}
theorem Ext.own (x : Ext F T H F' T' H') {a : Addr} {d : D} (h : RepTop K F T H a d) (f : F a = none) (n : a ∉ T) : RepTop K F' T' H' a d ∧ F' a = none ∧ a ∉ T' := by
  obtain ⟨o, ho⟩ := h.there
  refine ⟨h.mono x.fr x.pre fun o' e => x.keep a o' e n, x.newF a f (by rw [ho]; simp), fun m => ?_⟩
  rw [x.newT a m n] at ho; cases ho
theorem XRep.ext {ks : List Str} {ds : List D} {dx : Option Addr} (h : XRep K F T H ks ds dx) (x : Ext F T H F' T' H') : XRep K F' T' H' ks ds dx := by
  rcases h with h | ⟨a, fs, e, ha, n, k, r⟩
  · exact .inl h
  · refine .inr ⟨a, fs, e, x.keep a _ ha n, fun m => ?_, k, r.mono x.fr x.pre⟩
    have z := x.newT a m n
    rw [ha] at z; cases z
theorem SlOk.ext {s : Sl} {o : Option (Option V)} {xi : XB} (h : SlOk K xi F T H s o) (x : Ext F T H F' T' H') : SlOk K xi F' T' H' s o := by
  cases s with
  | no => trivial
  | val d => obtain ⟨v, e, r⟩ := h; exact ⟨v, e, r.mono x.fr x.pre⟩
  | own d => obtain ⟨a, e, r, f, n, z⟩ := h; obtain ⟨r', f', n'⟩ := x.own r f n; exact ⟨a, e, r', f', n', z⟩
  | xc c ks ds => obtain ⟨y, e1, e2, e3, r⟩ := h; exact ⟨y, e1, e2, e3, r.ext x⟩
theorem EnvOk.ext {xi : XB} (h : EnvOk K xi F T H env σ) (x : Ext F T H F' T' H') : EnvOk K xi F' T' H' env σ := ⟨fun i s e => (h.at_ i s e).ext x, h.len, h.apart⟩

/-- a value that is looked at: it is frozen, or an object of the frame's own -/
def Bor (K : PySem.W.Frag) (F : Hp) (T : List Addr) (H : Hp) (v : V) (d : D) : Prop := Rep K F T v d ∨ ∃ a, v = .ref a ∧ RepTop K F T H a d ∧ F a = none ∧ a ∉ T
theorem Bor.ext {v : V} {d : D} (h : Bor K F T H v d) (x : Ext F T H F' T' H') : Bor K F' T' H' v d := by
  rcases h with h | ⟨a, e, r, f, n⟩
  · exact .inl (h.mono x.fr x.pre)
  · obtain ⟨r', f', n'⟩ := x.own r f n
    exact .inr ⟨a, e, r', f', n'⟩
theorem Bor.lst (w : WF K F T st H) {v : V} {ds : List D} (h : Bor K F T H v (.lst ds)) : ∃ a xs, v = .ref a ∧ H a = some (.lst xs) ∧ Reps K F T xs ds := by
  rcases h with h | ⟨a, e, ⟨xs, e2, r⟩, _⟩
  · cases h with | lst q r => exact ⟨_, _, rfl, w.fr _ _ q, r⟩
  · exact ⟨a, xs, e, e2, r⟩
theorem Bor.tup (w : WF K F T st H) {v : V} {ds : List D} (h : Bor K F T H v (.tup ds)) : ∃ a xs, v = .ref a ∧ SqT K H a xs ∧ Reps K F T xs ds := by
  rcases h with h | ⟨a, e, r, _⟩
  · cases h with | tup q r => exact ⟨_, _, rfl, sqT_mono w.fr q, r⟩
  · exact r.elim
theorem Bor.dic (w : WF K F T st H) {v : V} {ks : List Key} {ds : List D} (h : Bor K F T H v (.dic ks ds)) : ∃ a kvs, v = .ref a ∧ H a = some (.dK kvs) ∧ kvs.map (·.1) = ks ∧ Reps K F T (kvs.map (·.2)) ds := by
  rcases h with h | ⟨a, e, ⟨kvs, e2, k, r⟩, _⟩
  · cases h with | dic q e r => exact ⟨_, _, rfl, w.fr _ _ q, e, r⟩
  · exact ⟨a, kvs, e, e2, k, r⟩
theorem Bor.scr (w : WF K F T st H) {v : V} {ns : List Int} (h : Bor K F T H v (.scr ns)) : ∃ a, v = .ref a ∧ SqL K H a (ns.map V.int) := by
  rcases h with h | ⟨a, e, r, _⟩
  · cases h with | scr q => exact ⟨_, rfl, w.fr.seq q⟩
  · exact r.elim
theorem Bor.non {v : V} (h : Bor K F T H v .non) : v = .non := by
  rcases h with h | ⟨a, e, r, _⟩
  · cases h; rfl
  · exact r.elim
theorem Bor.bl {v : V} {b : Bool} (h : Bor K F T H v (.bl b)) : v = .bl b := by
  rcases h with h | ⟨a, e, r, _⟩
  · cases h; rfl
  · exact r.elim
theorem Bor.int {v : V} {b : Int} (h : Bor K F T H v (.int b)) : v = .int b := by
  rcases h with h | ⟨a, e, r, _⟩
  · cases h; rfl
  · exact r.elim
theorem Bor.str {v : V} {b : Str} (h : Bor K F T H v (.str b)) : v = .str b := by
  rcases h with h | ⟨a, e, r, _⟩
  · cases h; rfl
  · exact r.elim
end

/-! ### what is behind an evaluation -/
/-- a result's relation: the heap ahead, the ghost and heap behind, the data, the thing -/
abbrev RR (α β : Type) := Hp → Hp → List Addr → Hp → α → β → Prop
def Sh {α β : Type} (R : RR α β) : Prop := ∀ (H H1 F : Hp) (T : List Addr) (H' : Hp) (a : α) (b : β), (∀ p, H1 p = none → H p = none) → R H1 F T H' a b → R H F T H' a b
def Post {α β : Type} (K : PySem.W.Frag) (W : WW) (σ : L2.St) (F : Hp) (T : List Addr) (H : Hp) (R : RR α β) (o : Out α) (Q : β → Hp → Prop) : Prop := match o with
  | .ok a st' => ∀ b F' T' H', Ext F T H F' T' H' → WF K F' T' st' H' → R H F' T' H' a b → Q b H'
  | .ex c ks ds st' => ∀ dx F' T' H', Ext F T H F' T' H' → WF K F' T' st' H' → XRep K F' T' H' ks ds dx → W (.ref (He.ga K c)) dx σ H'
  | .bad => False
section
variable {α β γ δ : Type} {K : PySem.W.Frag} {W : WW} {σ : L2.St} {F F1 H H1 : Hp} {T T1 : List Addr} {R : RR α β} {R1 : RR γ δ}
theorem Ext.none (x : Ext F T H F1 T1 H1) : ∀ p, H1 p = none → H p = none := fun p e => by
  cases q : H p with
  | none => rfl
  | some o => obtain ⟨o', e'⟩ := x.there p o q; rw [e] at e'; cases e'
theorem Post.shift {o : Out α} {Q : β → Hp → Prop} (sh : Sh R) (x : Ext F T H F1 T1 H1) (h : Post K W σ F T H R o Q) : Post K W σ F1 T1 H1 R o Q := by
  cases o with
  | bad => exact h
  | ok a st => exact fun b F' T' H' y w r => h b F' T' H' (x.trans y) w (sh _ _ _ _ _ _ _ x.none r)
  | ex c ks ds st => exact fun dx F' T' H' y w r => h dx F' T' H' (x.trans y) w r
theorem Post.mono {o : Out α} {Q Q' : β → Hp → Prop} (h : Post K W σ F T H R o Q) (q : ∀ b H', Q b H' → Q' b H') : Post K W σ F T H R o Q' := by
  cases o with
  | bad => exact h
  | ok a st => exact fun b F' T' H' y w r => q _ _ (h b F' T' H' y w r)
  | ex c ks ds st => exact h
theorem Post.bnd {o : Out γ} {f : γ → Store → Out α} {Q : β → Hp → Prop} (sh : Sh R) (h : Post K W σ F T H R (o.bnd f) Q) :
    Post K W σ F T H R1 o fun b H1 => ∃ F1 T1 st1 a, Ext F T H F1 T1 H1 ∧ WF K F1 T1 st1 H1 ∧ R1 H F1 T1 H1 a b ∧ Post K W σ F1 T1 H1 R (f a st1) Q := by
  cases o with
  | bad => exact h
  | ok a st => exact fun b F' T' H' y w r => ⟨F', T', st, a, y, w, r, Post.shift sh y h⟩
  | ex c ks ds st => exact h
end

/-! ### readings by an evaluator -/
def rV (K : PySem.W.Frag) : RR D V := fun _ F T _ d v => Rep K F T v d
def rVs (K : PySem.W.Frag) : RR (List D) (List V) := fun _ F T _ ds vs => Reps K F T vs ds
def rBo (K : PySem.W.Frag) : RR D V := fun _ F T H d v => Bor K F T H v d
inductive Bors (K : PySem.W.Frag) (F : Hp) (T : List Addr) (H : Hp) : List V → List D → Prop
  | nil : Bors K F T H [] []
  | cons {v : V} {vs : List V} {d : D} {ds : List D} : Bor K F T H v d → Bors K F T H vs ds → Bors K F T H (v :: vs) (d :: ds)
theorem Bors.ext {K : PySem.W.Frag} {F F' H H' : Hp} {T T' : List Addr} (x : Ext F T H F' T' H') : ∀ {vs : List V} {ds : List D}, Bors K F T H vs ds → Bors K F' T' H' vs ds
  | _, _, .nil => .nil
  | _, _, .cons a b => .cons (a.ext x) (b.ext x)
def rBs (K : PySem.W.Frag) : RR (List D) (List V) := fun _ F T H ds vs => Bors K F T H vs ds
def rEq {α : Type} : RR α α := fun _ _ _ _ a b => a = b
def Fresh (K : PySem.W.Frag) (H F : Hp) (T : List Addr) (H' : Hp) (d : D) (v : V) : Prop := ∃ a, v = .ref a ∧ RepTop K F T H' a d ∧ F a = none ∧ a ∉ T ∧ H a = none
/-- a container that is new, any other thing frozen -/
def rD (K : PySem.W.Frag) : RR D V := fun H F T H' d v => if isCont d = true then Fresh K H F T H' d v else Rep K F T v d
def rF (K : PySem.W.Frag) : RR D V := fun H F T H' d v => Fresh K H F T H' d v
theorem sh_V {K : PySem.W.Frag} : Sh (rV K) := fun _ _ _ _ _ _ _ _ h => h
theorem sh_Vs {K : PySem.W.Frag} : Sh (rVs K) := fun _ _ _ _ _ _ _ _ h => h
theorem sh_Bo {K : PySem.W.Frag} : Sh (rBo K) := fun _ _ _ _ _ _ _ _ h => h
theorem sh_Bs {K : PySem.W.Frag} : Sh (rBs K) := fun _ _ _ _ _ _ _ _ h => h
theorem sh_Eq {α : Type} : Sh (rEq (α := α)) := fun _ _ _ _ _ _ _ _ h => h
theorem Fresh.sh {K : PySem.W.Frag} {H H1 F H' : Hp} {T : List Addr} {d : D} {v : V} (h : ∀ p, H1 p = none → H p = none) (x : Fresh K H1 F T H' d v) : Fresh K H F T H' d v := by
  obtain ⟨a, e, r, f, n, z⟩ := x
  exact ⟨a, e, r, f, n, h a z⟩
theorem sh_F {K : PySem.W.Frag} : Sh (rF K) := fun _ _ _ _ _ _ _ h x => x.sh h
theorem sh_D {K : PySem.W.Frag} : Sh (rD K) := fun H H1 F T H' d v h x => by
  unfold rD at x ⊢
  split at x <;> rename_i c
  · rw [if_pos c]; exact x.sh h
  · rw [if_neg c]; exact x

/-- the reading of an evaluator m -/
def tX {α β : Type} (K : PySem.W.Frag) (W : WW) (R : RR α β) (m : Env → Store → Out α) : L2.St → Hp → (β → Hp → Prop) → Prop := fun σ H Q =>
  ∃ F T st env, WF K F T st H ∧ EnvOk K W.xi F T H env σ ∧ Post K W σ F T H R (m env st) Q
section
variable {α β γ δ : Type} {K : PySem.W.Frag} {W : WW} {σ : L2.St} {H : Hp} {R : RR α β} {R1 : RR γ δ}
theorem tX.bnd {m : Env → Store → Out γ} {f : Env → γ → Store → Out α} {Q : β → Hp → Prop} (sh : Sh R) (h : tX K W R (fun env st => (m env st).bnd (f env)) σ H Q) :
    tX K W R1 m σ H fun b H1 => ∃ F1 T1 st1 env a, (∀ p, H1 p = none → H p = none) ∧ WF K F1 T1 st1 H1 ∧ EnvOk K W.xi F1 T1 H1 env σ ∧ R1 H F1 T1 H1 a b ∧ Post K W σ F1 T1 H1 R (f env a st1) Q := by
  obtain ⟨F, T, st, env, w, eo, p⟩ := h
  refine ⟨F, T, st, env, w, eo, ?_⟩
  exact (p.bnd (R1 := R1) sh).mono fun b H1 ⟨F1, T1, st1, a, x, w1, r1, p1⟩ => ⟨F1, T1, st1, env, a, x.none, w1, eo.ext x, r1, p1⟩
end
abbrev tE (K : PySem.W.Frag) (W : WW) (C : Calls) (e : E) : TE := tX K W (rV K) fun env => evE C env e
abbrev tB (K : PySem.W.Frag) (W : WW) (C : Calls) (e : E) : TE := tX K W (rBo K) fun env => bor env e (evE C env e)
abbrev tDr (K : PySem.W.Frag) (W : WW) (C : Calls) (e : E) : TE := tX K W (rD K) fun env => evE C env e
abbrev tFr (K : PySem.W.Frag) (W : WW) (C : Calls) (e : E) : TE := tX K W (rF K) fun env st => (evE C env e st).bnd fun d st => chkO (isCont d) (.ok d st)
abbrev tT (K : PySem.W.Frag) (W : WW) (C : Calls) (e : E) : TT := tX K W rEq fun env => evT C env e
abbrev tEs (K : PySem.W.Frag) (W : WW) (C : Calls) (es : Es) : TA := tX K W (rVs K) fun env => evEs C env es
abbrev tBs (K : PySem.W.Frag) (W : WW) (C : Calls) (es : Es) : TA := tX K W (rBs K) fun env => evBs C env es
abbrev tOp (K : PySem.W.Frag) (W : WW) (C : Calls) (o : Op) : TO := tX K W rEq fun env => evO C env o

theorem impE {X : Cx} {e : Expr} {t t' : TE} (h : PE X e t) (i : ∀ σ H Q, t' σ H Q → t σ H Q) : PE X e t' := ⟨fun pins s σ H Q I q => h.run pins s σ H Q I (i σ H Q q)⟩
theorem impT {X : Cx} {e : Expr} {t t' : TT} (h : PT X e t) (i : ∀ σ H Q, t' σ H Q → t σ H Q) : PT X e t' := ⟨fun pins s σ H Q I q => h.run pins s σ H Q I (i σ H Q q)⟩
theorem impW {X : Cx} {e : Expr} {t t' : TT} (h : PW X e t) (i : ∀ σ H Q, t' σ H Q → t σ H Q) : PW X e t' := ⟨fun wh pins s σ H Q I q => h.run wh pins s σ H Q I (i σ H Q q)⟩
theorem impA {X : Cx} {e : List Expr} {t t' : TA} (h : PA X e t) (i : ∀ σ H Q, t' σ H Q → t σ H Q) : PA X e t' := ⟨fun pos pins s σ H Q I q => h.run pos pins s σ H Q I (i σ H Q q)⟩
theorem impO {X : Cx} {e : Option Expr} {t t' : TO} (h : PO X e t) (i : ∀ σ H Q, t' σ H Q → t σ H Q) : PO X e t' := ⟨fun pins s σ H Q I q => h.run pins s σ H Q I (i σ H Q q)⟩
theorem impS {X : Cx} {e : Stmt} {t t' : TS} (h : PS X e t) (i : ∀ D σ H, t' D σ H → t D σ H) : PS X e t' := ⟨fun pins s σ H D I q => h.run pins s σ H D I (i D σ H q)⟩
theorem impSs {X : Cx} {e : List Stmt} {t t' : TS} (h : PSs X e t) (i : ∀ D σ H, t' D σ H → t D σ H) : PSs X e t' := ⟨fun pins s σ H D I q => h.run pins s σ H D I (i D σ H q)⟩

section
variable {X : Cx} {W : WW} {C : Calls} {ast : Expr} {e : E}
/-- a fresh thing frozen -/
theorem rD_rV {K : PySem.W.Frag} {F F' H H' : Hp} {T T' : List Addr} {st' : Store} {d : D} {v : V} (x : Ext F T H F' T' H') (w : WF K F' T' st' H') (r : rD K H F' T' H' d v) :
    ∃ F2, Ext F T H F2 T' H' ∧ WF K F2 T' st' H' ∧ Rep K F2 T' v d := by
  unfold rD at r
  split at r <;> rename_i c
  · obtain ⟨a, e, rt, f, n, z⟩ := r
    subst e
    obtain ⟨o, ho⟩ := rt.there
    refine ⟨upd F' a o, Ext.freeze ho f n x z, w.freeze ho f n, rt.rep (fun b u e => by rw [upd_ne (ne_of_none e f)]; exact e) fun o' e' => ?_⟩
    rw [upd_same, ← e', ho]
  · exact ⟨F', x, w, r⟩
theorem pe_ofD (h : PE X ast (tDr X.K W C e)) : PE X ast (tE X.K W C e) := impE h fun σ H Q ⟨F, T, st, env, w, eo, p⟩ => by
  refine ⟨F, T, st, env, w, eo, ?_⟩
  have p : Post X.K W σ F T H (rV X.K) (evE C env e st) Q := p
  show Post X.K W σ F T H (rD X.K) (evE C env e st) Q
  revert p
  cases evE C env e st with
  | bad => exact id
  | ex c ks ds st => exact id
  | ok d st' =>
    intro p v F' T' H' x w' r
    obtain ⟨F2, x2, w2, r2⟩ := rD_rV x w' r
    exact p v F2 T' H' x2 w2 r2
theorem pe_frD (h : PE X ast (tDr X.K W C e)) : PE X ast (tFr X.K W C e) := impE h fun σ H Q ⟨F, T, st, env, w, eo, p⟩ => by
  refine ⟨F, T, st, env, w, eo, ?_⟩
  have p : Post X.K W σ F T H (rF X.K) ((evE C env e st).bnd fun d st => chkO (isCont d) (.ok d st)) Q := p
  show Post X.K W σ F T H (rD X.K) (evE C env e st) Q
  revert p
  cases evE C env e st with
  | bad => exact id
  | ex c ks ds st => exact id
  | ok d st' =>
    rw [Out.bnd_ok]
    cases c : isCont d with
    | false => exact fun p => p.elim
    | true =>
      intro p v F' T' H' x w' r
      unfold rD at r
      rw [if_pos c] at r
      exact p v F' T' H' x w' r
end
end Eng
set_option Elab.async false
set_option linter.all false
set_option maxRecDepth 100000
/-! Eng 4: operations of values -/
namespace Eng
open PySem PySem.Spec PyProof.Rows L2

section
variable {K : PySem.W.Frag} {F H : Hp} {T : List Addr} {st : Store}
theorem WF.free (w : WF K F T st H) {p : Addr} (h : H p = none) : F p = none ∧ p ∉ T := by
  refine ⟨?_, fun m => ?_⟩
  · cases q : F p with
    | none => rfl
    | some o => rw [w.fr p o q] at h; cases h
  · obtain ⟨o, e⟩ := w.inT m
    rw [h] at e; cases e
/-- what follows an operation -/
abbrev Cont (K : PySem.W.Frag) (F : Hp) (T : List Addr) (st : Store) (H : Hp) (R : RR D V) (d : D) (Q : VK) : Prop :=
  ∀ v F' T' H', Ext F T H F' T' H' → WF K F' T' st H' → R H F' T' H' d v → Q v H'
theorem rD_c {H F' H' : Hp} {T' : List Addr} {d : D} {v : V} (h : isCont d = true) (r : Fresh K H F' T' H' d v) : rD K H F' T' H' d v := by
  unfold rD; rw [if_pos h]; exact r
theorem rD_n {H F' H' : Hp} {T' : List Addr} {d : D} {v : V} (h : isCont d = false) (r : Rep K F' T' v d) : rD K H F' T' H' d v := by
  unfold rD; rw [if_neg (by rw [h]; exact Bool.false_ne_true)]; exact r
theorem Cont.flat (w : WF K F T st H) {d : D} {v : V} {Q : VK} (c : Cont K F T st H (rD K) d Q) (h : isCont d = false) (r : Rep K F T v d) : Q v H :=
  c v F T H (.refl _ _ _) w (rD_n h r)
theorem Cont.flatV (w : WF K F T st H) {d : D} {v : V} {Q : VK} (c : Cont K F T st H (rV K) d Q) (r : Rep K F T v d) : Q v H :=
  c v F T H (.refl _ _ _) w r
theorem Cont.lst (w : WF K F T st H) {ds : List D} {xs : List V} {Q : VK} (c : Cont K F T st H (rD K) (.lst ds) Q) (r : Reps K F T xs ds) {p : Addr} (hp : H p = none) : Q (.ref p) (upd H p (.lst xs)) := by
  obtain ⟨f, n⟩ := w.free hp
  refine c _ F T _ (Ext.newO hp) (w.newO hp) (rD_c rfl ?_)
  exact ⟨p, rfl, ⟨xs, upd_same, r⟩, f, n, hp⟩
theorem Cont.dic (w : WF K F T st H) {ks : List Key} {ds : List D} {kvs : List (Key × V)} {Q : VK} (c : Cont K F T st H (rD K) (.dic ks ds) Q) (e : kvs.map (·.1) = ks) (r : Reps K F T (kvs.map (·.2)) ds) {p : Addr} (hp : H p = none) : Q (.ref p) (upd H p (.dK kvs)) := by
  obtain ⟨f, n⟩ := w.free hp
  refine c _ F T _ (Ext.newO hp) (w.newO hp) (rD_c rfl ?_)
  exact ⟨p, rfl, ⟨kvs, upd_same, e, r⟩, f, n, hp⟩
theorem new_tup (w : WF K F T st H) {ds : List D} {xs : List V} (r : Reps K F T xs ds) {p : Addr} (hp : H p = none) : Rep K (upd F p (.tup xs)) T (.ref p) (.tup ds) :=
  .tup (.of upd_same) (r.mono (Ext.new w hp).fr (.refl _))
theorem Cont.tup (w : WF K F T st H) {ds : List D} {xs : List V} {Q : VK} (c : Cont K F T st H (rD K) (.tup ds) Q) (r : Reps K F T xs ds) {p : Addr} (hp : H p = none) : Q (.ref p) (upd H p (.tup xs)) := by
  exact c _ (upd F p (.tup xs)) T _ (Ext.new w hp) (w.new hp) (rD_n rfl (new_tup w r hp))
end

def rOp2 (K : PySem.W.Frag) (g : D → D → Option D) (R : RR D V) : R2 := fun x y H Q => ∃ F T st dx dy d, WF K F T st H ∧ Bor K F T H x dx ∧ Bor K F T H y dy ∧ g dx dy = some d ∧ Cont K F T st H R d Q
section
variable {X : Cx}
theorem mulok_str {x : Str} {k : Int} (h1 : -(2 ^ 63) ≤ k) (h2 : k < 2 ^ 63) (h3 : x.length * k.toNat ≤ sizeLine) : MulOk x k := by
  have sz := sizeLine_eq
  refine ⟨?_, fun h4 _ h5 => ?_, fun _ _ => ?_⟩
  · have a : ¬ k < -(2 ^ 63 : Int) := by omega
    have b : ¬ k ≥ 2 ^ 63 := by omega
    rw [decide_eq_false a, decide_eq_false b]; rfl
  · have hk : (0 : Int) < k := by omega
    have e : (x.length : Int) * k ≤ 16777216 := by
      have : ((x.length * k.toNat : Nat) : Int) ≤ (16777216 : Nat) := by exact_mod_cast (sz ▸ h3)
      rw [Int.natCast_mul, Int.toNat_of_nonneg (by omega)] at this
      exact this
    have q : (x.length : Int) ≤ (2 ^ 63 - 1) / k := (Int.le_ediv_iff_mul_le hk).mpr (by omega)
    omega
  · show Builtin.Str.tooLong _ = false
    unfold Builtin.Str.tooLong
    exact decide_eq_false (by omega)
theorem op_bin {op : Operator} : OpR X (binaryOp op) (rOp2 X.K (binD op) (rD X.K)) := by
  intro pins s σ H x y v u Q I rx ry h
  obtain ⟨F, T, st, dx, dy, d, w, bx, by_, e, c⟩ := h
  have stuck : (none : Option D) = some d → wpAny (model X.prog X.w) X.A (binaryOp op v u) (EP X pins σ Q) X.xe s := fun z => by cases z
  cases dx with
  | int i =>
    cases bx.int
    cases dy with
    | int j =>
      cases by_.int
      cases op with
      | Add => cases e; exact op_add pins s σ H _ _ v u Q I rx ry ⟨i, j, rfl, rfl, c.flat w rfl (.int _)⟩
      | Sub => cases e; exact op_sub pins s σ H _ _ v u Q I rx ry ⟨i, j, rfl, rfl, c.flat w rfl (.int _)⟩
      | Mult =>
        simp only [binD] at e
        split at e <;> rename_i q <;> cases e
        exact op_mul pins s σ H _ _ v u Q I rx ry ⟨i, j, rfl, rfl, q, c.flat w rfl (.int _)⟩
      | FloorDiv =>
        simp only [binD] at e
        split at e <;> rename_i q <;> cases e
        exact op_fdivN pins s σ H _ _ v u Q I rx ry ⟨i, j, rfl, rfl, q, c.flat w rfl (.int _)⟩
      | Mod =>
        simp only [binD] at e
        split at e <;> rename_i q <;> cases e
        exact op_modN pins s σ H _ _ v u Q I rx ry ⟨i, j, rfl, rfl, q, c.flat w rfl (.int _)⟩
      | Pow =>
        simp only [binD] at e
        split at e <;> rename_i q <;> cases e
        exact op_pow pins s σ H _ _ v u Q I rx ry ⟨i, j, rfl, rfl, q, c.flat w rfl (.int _)⟩
      | _ => exact stuck e
    | _ => cases op <;> exact stuck e
  | str i =>
    cases bx.str
    cases dy with
    | str j =>
      cases by_.str
      cases op with
      | Add =>
        simp only [binD] at e
        split at e <;> rename_i q <;> cases e
        exact op_add_str pins s σ H _ _ v u Q I rx ry ⟨i, j, rfl, rfl, q, c.flat w rfl (.str _)⟩
      | _ => exact stuck e
    | int k =>
      cases by_.int
      cases op with
      | Mult =>
        simp only [binD] at e
        split at e <;> rename_i q <;> cases e
        obtain ⟨t, rfl⟩ := rx
        obtain ⟨t', rfl⟩ := ry
        exact SB.mul (mulok_str q.1 q.2.1 q.2.2) fun t2 k2 => ⟨.str _, H, I.tok _, ⟨_, rfl⟩, c.flat w rfl (.str _)⟩
      | _ => exact stuck e
    | _ => cases op <;> exact stuck e
  | lst xs =>
    obtain ⟨a, vs, ea, ha, ra⟩ := bx.lst w
    subst ea
    cases dy with
    | lst ys =>
      obtain ⟨b, ws, eb, hb, rb⟩ := by_.lst w
      subst eb
      cases op with
      | Add =>
        simp only [binD] at e
        split at e <;> rename_i q <;> cases e
        exact op_cat pins s σ H _ _ v u Q I rx ry ⟨a, b, vs, ws, rfl, rfl, ha, hb, by rw [ra.length, rb.length]; exact q, fun p hp => c.lst w (ra.append rb) hp⟩
      | _ => exact stuck e
    | int k =>
      cases by_.int
      cases op with
      | Mult =>
        simp only [binD] at e
        split at e <;> rename_i q <;> cases e
        exact op_rep pins s σ H _ _ v u Q I rx ry ⟨a, k, vs, rfl, rfl, ha, q.1, q.2.1, by rw [ra.length]; exact q.2.2, fun p hp => c.lst w (ra.rep _) hp⟩
      | _ => exact stuck e
    | _ => cases op <;> exact stuck e
  | tup xs =>
    obtain ⟨a, vs, ea, ha, ra⟩ := bx.tup w
    subst ea
    cases dy with
    | tup ys =>
      obtain ⟨b, ws, eb, hb, rb⟩ := by_.tup w
      subst eb
      cases op with
      | Add =>
        simp only [binD] at e
        split at e <;> rename_i q <;> cases e
        refine op_catA pins s σ H _ _ v u Q I rx ry ⟨a, b, vs, ws, rfl, rfl, ha, hb, by rw [ra.length, rb.length]; exact q, fun z => ?_, fun z1 z2 => ?_, fun _ _ p hp => c.tup w (ra.append rb) hp⟩
        · subst z
          cases ra
          rcases by_ with k | ⟨_, _, k, _⟩
          · exact c.flat w rfl k
          · exact k.elim
        · subst z2
          cases rb
          rw [List.append_nil] at c
          rcases bx with k | ⟨_, _, k, _⟩
          · exact c.flat w rfl k
          · exact k.elim
      | _ => exact stuck e
    | _ => cases op <;> exact stuck e
  | _ => cases op <;> cases dy <;> exact stuck e

/-! ### comparisons -/
mutual
theorem eqv_py : ∀ (n : Nat) (d e : D), dataD n d = true → dataD n e = true → PyData.eqv (py d) (py e) = eqD d e
  | n, d, e, hd, he => by
    cases d with
    | non => cases e <;> first | rfl | (simp [py, PyData.eqv, eqD]; done) | (cases n <;> cases he)
    | bl b => cases e <;> first | rfl | (simp [py, PyData.eqv, eqD]; done) | (cases n <;> cases he)
    | int b => cases e <;> first | rfl | (simp [py, PyData.eqv, eqD]; done) | (cases n <;> cases he)
    | str b => cases e <;> first | rfl | (simp [py, PyData.eqv, eqD]; done) | (cases n <;> cases he)
    | lst xs =>
      cases n with
      | zero => cases hd
      | succ n =>
        cases e with
        | lst ys => rw [py, py, PyData.eqv, eqD]; exact eqv_pys n xs ys hd he
        | _ => first | rfl | (simp [py, PyData.eqv, eqD]; done) | cases he
    | tup xs =>
      cases n with
      | zero => cases hd
      | succ n =>
        cases e with
        | tup ys => rw [py, py, PyData.eqv, eqD]; exact eqv_pys n xs ys hd he
        | _ => first | rfl | (simp [py, PyData.eqv, eqD]; done) | cases he
    | _ => cases n <;> cases hd
theorem eqv_pys : ∀ (n : Nat) (ds es : List D), dataDs n ds = true → dataDs n es = true → PyData.eqvAll (pys ds) (pys es) = eqDs ds es
  | n, [], [], _, _ => rfl
  | n, [], _ :: _, _, _ => rfl
  | n, _ :: _, [], _, _ => rfl
  | n, d :: ds, e :: es, hd, he => by
    have a := He.ba (show (dataD n d && dataDs n ds) = true from hd)
    have b := He.ba (show (dataD n e && dataDs n es) = true from he)
    rw [pys, pys, PyData.eqvAll, eqDs, eqv_py n d e a.1 b.1, eqv_pys n ds es a.2 b.2]
end
mutual
theorem lay_py : ∀ (n : Nat) (d : D), dataD n d = true → (py d).canLay0 = true ∧ (py d).depth ≤ n + 1
  | n, d, hd => by
    cases d with
    | str x => exact ⟨by simp only [py, PyData.canLay0]; cases n <;> exact hd, by simp [py, PyData.depth]⟩
    | lst xs =>
      cases n with
      | zero => cases hd
      | succ n =>
        obtain ⟨a, b⟩ := lay_pys n xs hd
        exact ⟨by simpa [py, PyData.canLay0] using a, by simp only [py, PyData.depth]; omega⟩
    | tup xs =>
      cases n with
      | zero => cases hd
      | succ n =>
        obtain ⟨a, b⟩ := lay_pys n xs hd
        exact ⟨by simpa [py, PyData.canLay0] using a, by simp only [py, PyData.depth]; omega⟩
    | _ => exact ⟨by simp [py, PyData.canLay0], by simp [py, PyData.depth]⟩
theorem lay_pys : ∀ (n : Nat) (ds : List D), dataDs n ds = true → PyData.canLayAll0 (pys ds) = true ∧ PyData.depthAll (pys ds) ≤ n + 1
  | n, [], _ => ⟨by simp [pys, PyData.canLayAll0], by simp [pys, PyData.depthAll]⟩
  | n, d :: ds, hd => by
    have a := He.ba (show (dataD n d && dataDs n ds) = true from hd)
    obtain ⟨l1, p1⟩ := lay_py n d a.1
    obtain ⟨l2, p2⟩ := lay_pys n ds a.2
    exact ⟨by simp [pys, PyData.canLayAll0, l1, l2], by simp only [pys, PyData.depthAll]; omega⟩
end
theorem shaped_py {n : Nat} {d : D} (h : dataD n d = true) (hn : n ≤ 60 := by decide) : SeqAt.shaped (py d) = true := by
  obtain ⟨a, b⟩ := lay_py n d h
  unfold SeqAt.shaped
  rw [a, decide_eq_true (by omega)]; rfl
mutual
theorem dataD_F : ∀ (n : Nat) (d : D), dataD n d = true → dataF n d = true
  | n, d, h => by
    cases d with
    | lst xs =>
      cases n with
      | zero => cases h
      | succ n => exact dataDs_F n xs h
    | tup xs =>
      cases n with
      | zero => cases h
      | succ n => exact dataDs_F n xs h
    | _ => cases n <;> first | rfl | cases h
theorem dataDs_F : ∀ (n : Nat) (ds : List D), dataDs n ds = true → dataFs n ds = true
  | n, [], _ => by cases n <;> rfl
  | n, d :: ds, h => by
    have a := He.ba (show (dataD n d && dataDs n ds) = true from h)
    show (dataF n d && dataFs n ds) = true
    rw [dataD_F n d a.1, dataDs_F n ds a.2]; rfl
end
mutual
theorem dp_repF {K : PySem.W.Frag} {F H : Hp} {T : List Addr} (sm : Same F H) : ∀ (n : Nat) (d : D) (v : V), dataF n d = true → Rep K F T v d → Dp K H v (py d)
  | n, d, v, hd, r => by
    cases d with
    | non => cases r; exact .non
    | bl b => cases r; exact .bl b
    | int b => cases r; exact .int b
    | str b => cases r; exact .str b
    | lst xs =>
      cases n with
      | zero => cases hd
      | succ n => cases r with | lst q r => exact .lst (.of (sm _ _ q)) (dp_repsF sm n xs _ hd r)
    | tup xs =>
      cases n with
      | zero => cases hd
      | succ n => cases r with | tup q r => exact .tup (sqT_mono sm q) (dp_repsF sm n xs _ hd r)
    | _ => cases n <;> cases hd
theorem dp_repsF {K : PySem.W.Frag} {F H : Hp} {T : List Addr} (sm : Same F H) : ∀ (n : Nat) (ds : List D) (vs : List V), dataFs n ds = true → Reps K F T vs ds → DpAll K H vs (pys ds)
  | n, [], _, _, r => by cases r; exact .nil
  | n, d :: ds, _, hd, r => by
    have a := He.ba (show (dataF n d && dataFs n ds) = true from hd)
    cases r with | cons r1 r2 => exact .cons (dp_repF sm n d _ a.1 r1) (dp_repsF sm n ds _ a.2 r2)
end
theorem dp_rep {K : PySem.W.Frag} {F H : Hp} {T : List Addr} (sm : Same F H) (n : Nat) (d : D) (v : V) (h : dataD n d = true) (r : Rep K F T v d) : Dp K H v (py d) := dp_repF sm n d v (dataD_F n d h) r
theorem dp_reps {K : PySem.W.Frag} {F H : Hp} {T : List Addr} (sm : Same F H) (n : Nat) (ds : List D) (vs : List V) (h : dataDs n ds = true) (r : Reps K F T vs ds) : DpAll K H vs (pys ds) := dp_repsF sm n ds vs (dataDs_F n ds h) r
theorem depth_pyF : ∀ (n : Nat) (d : D), dataF n d = true → (py d).depth ≤ n + 1 := by
  intro n d
  induction n generalizing d with
  | zero =>
    intro h
    cases d <;> first | (simp [py, PyData.depth]; done) | cases h
  | succ n ih =>
    have all : ∀ ds : List D, dataFs n ds = true → PyData.depthAll (pys ds) ≤ n + 1 := by
      intro ds
      induction ds with
      | nil => intro _; simp [pys, PyData.depthAll]
      | cons d ds ih2 =>
        intro h
        have a := He.ba (show (dataF n d && dataFs n ds) = true from h)
        have := ih d a.1
        have := ih2 a.2
        simp only [pys, PyData.depthAll]; omega
    intro h
    cases d with
    | lst xs => have := all xs h; simp only [py, PyData.depth]; omega
    | tup xs => have := all xs h; simp only [py, PyData.depth]; omega
    | _ => simp [py, PyData.depth]
theorem dp_bor {K : PySem.W.Frag} {F H : Hp} {T : List Addr} {st : Store} (w : WF K F T st H) {n : Nat} {d : D} {v : V} (hd : dataD n d = true) (b : Bor K F T H v d) : Dp K H v (py d) := by
  rcases b with r | ⟨a, e, r, _⟩
  · exact dp_rep w.fr n d v hd r
  · subst e
    cases d with
    | lst xs =>
      obtain ⟨vs, e, r⟩ := r
      cases n with
      | zero => cases hd
      | succ n => exact .lst (.of e) (dp_reps w.fr n xs _ hd r)
    | dic _ _ => cases n <;> cases hd
    | ins _ _ _ => cases n <;> cases hd
    | _ => exact r.elim
end
end Eng
set_option Elab.async false
set_option linter.all false
set_option maxRecDepth 100000
/-! Eng 5: comparisons, items, slices, truth -/
namespace Eng
open PySem PySem.Spec PyProof.Rows L2
section
variable {X : Cx}
theorem bor_flat {K : PySem.W.Frag} {F H : Hp} {T : List Addr} {d : D} {v : V} (h : flatD d = true) (b : Bor K F T H v d) : flatV v = true ∧ (v = match d with | .non => .non | .bl b => .bl b | .int i => .int i | .str x => .str x | _ => .non) := by
  cases d with
  | non => cases b.non; exact ⟨rfl, rfl⟩
  | bl _ => cases b.bl; exact ⟨rfl, rfl⟩
  | int _ => cases b.int; exact ⟨rfl, rfl⟩
  | str _ => cases b.str; exact ⟨rfl, rfl⟩
  | _ => cases h
theorem scal_of {K : PySem.W.Frag} {F H : Hp} {T : List Addr} {d e : D} {v u : V} (h : scalD d e = true) (b : Bor K F T H v d) (c : Bor K F T H u e) : scal v u = true ∧ decide (v = u) = eqD d e := by
  cases d with
  | non => cases b.non; cases e with
    | non => cases c.non; exact ⟨rfl, rfl⟩
    | bl _ => cases c.bl; exact ⟨rfl, by simp [eqD]⟩
    | int _ => cases c.int; exact ⟨rfl, by simp [eqD]⟩
    | str _ => cases c.str; exact ⟨rfl, by simp [eqD]⟩
    | _ => cases h
  | bl _ => cases b.bl; cases e with
    | non => cases c.non; exact ⟨rfl, by simp [eqD]⟩
    | bl _ => cases c.bl; exact ⟨rfl, by simp only [eqD]; exact dec_bl⟩
    | str _ => cases c.str; exact ⟨rfl, by simp [eqD]⟩
    | _ => cases h
  | int _ => cases b.int; cases e with
    | non => cases c.non; exact ⟨rfl, by simp [eqD]⟩
    | int _ => cases c.int; exact ⟨rfl, by simp [eqD]⟩
    | str _ => cases c.str; exact ⟨rfl, by simp [eqD]⟩
    | _ => cases h
  | str _ => cases b.str; cases e with
    | non => cases c.non; exact ⟨rfl, by simp [eqD]⟩
    | bl _ => cases c.bl; exact ⟨rfl, by simp [eqD]⟩
    | int _ => cases c.int; exact ⟨rfl, by simp [eqD]⟩
    | str _ => cases c.str; exact ⟨rfl, by simp [eqD]⟩
    | _ => cases h
  | _ => cases e <;> cases h
/-- == of a list and an empty one -/
theorem eq_nil {pins : List (Addr × Obj)} {σ : L2.St} {H : Hp} {s : Shared} {a b : Addr} {xs : List V} {E Q : Value → Shared → Prop} (I : Inv X pins σ H s) (hu : X.A.units < cLine) (ha : H a = some (.lst xs)) (hb : H b = some (.lst [])) (h : Q (.bool xs.isEmpty) s) :
    wpAny (model X.prog X.w) X.A (compareOp .Eq (.ref a) (.ref b)) Q E s := by
  obtain ⟨its, r, p, _⟩ := I.list (.of ha)
  obtain ⟨its2, r2, p2, _⟩ := I.list (.of hb)
  cases r2
  have hl := r.length
  show wpAny (model X.prog X.w) X.A (richCompare .Eq (.ref a) (.ref b)) Q E s
  cases xs with
  | nil =>
    cases r
    exact SeqAt.RcAt.lists (e := fun _ => true) p.isList p2.isList rfl hu (fun j h1 _ => by simp at h1) X.prog X.w E Q h
  | cons x xs =>
    refine SeqAt.RcAt.lists_lengths p.isList p2.isList ?_ hu X.prog X.w E Q h
    simp only [List.size_toArray, ← hl]; simp
theorem ne_nil {pins : List (Addr × Obj)} {σ : L2.St} {H : Hp} {s : Shared} {a b : Addr} {xs : List V} {E Q : Value → Shared → Prop} (I : Inv X pins σ H s) (hu : X.A.units < cLine) (ha : H a = some (.lst xs)) (hb : H b = some (.lst [])) (h : Q (.bool (!xs.isEmpty)) s) :
    wpAny (model X.prog X.w) X.A (compareOp .NotEq (.ref a) (.ref b)) Q E s := by
  obtain ⟨its, r, p, _⟩ := I.list (.of ha)
  obtain ⟨its2, r2, p2, _⟩ := I.list (.of hb)
  cases r2
  have hl := r.length
  show wpAny (model X.prog X.w) X.A (richCompare .NotEq (.ref a) (.ref b)) Q E s
  cases xs with
  | nil =>
    cases r
    exact SeqAt.RcNeAt.lists (e := fun _ => true) p.isList p2.isList rfl hu (fun j h1 _ => by simp at h1) X.prog X.w E Q h
  | cons x xs =>
    refine SeqAt.RcNeAt.lists_lengths p.isList p2.isList ?_ hu X.prog X.w E Q h
    simp only [List.size_toArray, ← hl]; simp
theorem reps_empty {K : PySem.W.Frag} {F : Hp} {T : List Addr} {vs : List V} {ds : List D} (r : Reps K F T vs ds) : vs.isEmpty = ds.isEmpty := by cases r <;> rfl
theorem eqO_cases {x y : D} {b : Bool} (h : eqO x y = some b) : (∃ xs, x = .lst xs ∧ y = .lst [] ∧ b = xs.isEmpty) ∨ (scalD x y = true ∧ b = eqD x y) ∨ (dataD 20 x = true ∧ dataD 20 y = true ∧ b = eqD x y) := by
  unfold eqO at h
  split at h
  · cases h; exact .inl ⟨_, rfl, rfl, rfl⟩
  · split at h
    · rename_i c; cases h; exact .inr (.inl ⟨c, rfl⟩)
    · split at h
      · rename_i c; cases h
        obtain ⟨c1, c2⟩ := He.ba c
        exact .inr (.inr ⟨c1, c2, rfl⟩)
      · cases h
theorem op_eqG_ (hu : X.A.units + 64 < cLine) : OpR X (compareOp .Eq) (rOp2 X.K (fun x y => (eqO x y).map .bl) (rV X.K)) := by
  intro pins s σ H x y v u Q I rx ry h
  obtain ⟨F, T, st, dx, dy, d, w, bx, by_, e, c⟩ := h
  obtain ⟨b, e1, e2⟩ := Option.map_eq_some_iff.mp e
  subst e2
  rcases eqO_cases e1 with ⟨xs, rfl, rfl, rfl⟩ | ⟨k, rfl⟩ | ⟨k1, k2, rfl⟩
  · obtain ⟨a, vs, rfl, ha, ra⟩ := bx.lst w
    obtain ⟨b, ws, rfl, hb, rb⟩ := by_.lst w
    cases rb
    cases rx
    cases ry
    exact eq_nil I (by omega) ha hb ⟨.bl _, H, I, rfl, by rw [reps_empty ra]; exact c.flatV w (.bl _)⟩
  · obtain ⟨k1, k2⟩ := scal_of k bx by_
    exact op_eq pins s σ H x y v u Q I rx ry ⟨k1, by rw [k2]; exact c.flatV w (.bl _)⟩
  · exact op_eqD hu pins s σ H x y v u Q I rx ry ⟨py dx, py dy, dp_bor w k1 bx, dp_bor w k2 by_, shaped_py k1, shaped_py k2, by rw [eqv_py 20 dx dy k1 k2]; exact c.flatV w (.bl _)⟩
theorem op_neG (hu : X.A.units + 64 < cLine) : OpR X (compareOp .NotEq) (rOp2 X.K (fun x y => ((eqO x y).map (!·)).map .bl) (rV X.K)) := by
  intro pins s σ H x y v u Q I rx ry h
  obtain ⟨F, T, st, dx, dy, d, w, bx, by_, e, c⟩ := h
  obtain ⟨b', e1', e2'⟩ := Option.map_eq_some_iff.mp e
  obtain ⟨b, e1, rfl⟩ := Option.map_eq_some_iff.mp e1'
  subst e2'
  rcases eqO_cases e1 with ⟨xs, rfl, rfl, rfl⟩ | ⟨k, rfl⟩ | ⟨k1, k2, rfl⟩
  · obtain ⟨a, vs, rfl, ha, ra⟩ := bx.lst w
    obtain ⟨b, ws, rfl, hb, rb⟩ := by_.lst w
    cases rb
    cases rx
    cases ry
    exact ne_nil I (by omega) ha hb ⟨.bl _, H, I, rfl, by rw [reps_empty ra]; exact c.flatV w (.bl _)⟩
  · obtain ⟨k1, k2⟩ := scal_of k bx by_
    exact op_ne pins s σ H x y v u Q I rx ry ⟨k1, by rw [k2]; exact c.flatV w (.bl _)⟩
  · exact op_neD hu pins s σ H x y v u Q I rx ry ⟨py dx, py dy, dp_bor w k1 bx, dp_bor w k2 by_, shaped_py k1, shaped_py k2, by rw [eqv_py 20 dx dy k1 k2]; exact c.flatV w (.bl _)⟩

/-! ### in -/
theorem flat_eqV {K : PySem.W.Frag} {F H : Hp} {T : List Addr} {d e : D} {v u : V} (h1 : flatD d = true) (h2 : flatD e = true) (b : Bor K F T H v d) (c : Bor K F T H u e) : eqV v u = eqD d e := by
  cases d with
  | non => cases b.non; cases e with
    | non => cases c.non; rfl
    | bl _ => cases c.bl; rfl
    | int _ => cases c.int; rfl
    | str _ => cases c.str; rfl
    | _ => cases h2
  | bl _ => cases b.bl; cases e with
    | non => cases c.non; rfl
    | bl _ => cases c.bl; rfl
    | int _ => cases c.int; rfl
    | str _ => cases c.str; rfl
    | _ => cases h2
  | int _ => cases b.int; cases e with
    | non => cases c.non; rfl
    | bl _ => cases c.bl; rfl
    | int _ => cases c.int; exact Bool.beq_eq_decide_eq _ _
    | str _ => cases c.str; rfl
    | _ => cases h2
  | str _ => cases b.str; cases e with
    | non => cases c.non; rfl
    | bl _ => cases c.bl; rfl
    | int _ => cases c.int; rfl
    | str _ => cases c.str; exact Bool.beq_eq_decide_eq _ _
    | _ => cases h2
  | _ => cases h1
theorem in_flat {K : PySem.W.Frag} {F H : Hp} {T : List Addr} {d : D} {v : V} (h : flatD d = true) (b : Bor K F T H v d) : ∀ {vs : List V} {ds : List D}, Reps K F T vs ds → ds.all flatD = true → vs.all flatV = true ∧ inV v vs = ds.any fun z => eqD z d
  | _, _, .nil, _ => ⟨rfl, rfl⟩
  | _, _, .cons (v := u) (d := e) r rs, hs => by
    simp only [List.all_cons, Bool.and_eq_true] at hs
    obtain ⟨a1, a2⟩ := in_flat h b rs hs.2
    obtain ⟨f, _⟩ := bor_flat (H := H) hs.1 (.inl r)
    refine ⟨by simp only [List.all_cons, f, a1, Bool.and_self], ?_⟩
    unfold inV at a2 ⊢
    rw [List.any_cons, List.any_cons, a2, flat_eqV hs.1 h (H := H) (.inl r) b]
theorem any_py {x : D} (hx : dataD 20 x = true) : ∀ {ds : List D}, dataDs 20 ds = true → ((pys ds).any fun z => PyData.eqv z (py x)) = ds.any fun z => eqD z x
  | [], _ => rfl
  | d :: ds, h => by
    have a := He.ba (show (dataD 20 d && dataDs 20 ds) = true from h)
    rw [pys, List.any_cons, List.any_cons, any_py hx a.2, eqv_py 20 d x a.1 hx]
theorem one_sign {y : Str} {c : Nat} (h : y.cps.toList = [c]) : y = ⟨#[c]⟩ := by
  obtain ⟨a⟩ := y
  have : a = #[c] := by
    have := congrArg List.toArray h
    simpa using this
  rw [this]
theorem zip_find {k : Key} : ∀ {kvs : List (Key × V)} , ((kvs.find? fun kv => decide (kv.1 = k)).map (·.2)).isSome = (kvs.map (·.1)).any fun q => decide (q = k)
  | [] => rfl
  | kv :: kvs => by
    have ih := zip_find (k := k) (kvs := kvs)
    rw [List.find?_cons, List.map_cons, List.any_cons]
    by_cases h : kv.1 = k
    · simp [h]
    · simp only [h, decide_false, Bool.false_or]; exact ih
theorem inD_ok (hu : X.A.units + 65 < cLine) {neg : Bool} {op : CmpOp} (hop : op = if neg then .NotIn else .In) :
    OpR X (compareOp op) (rOp2 X.K (fun x y => ((inD x y).map fun b => if neg then !b else b).map .bl) (rV X.K)) := by
  intro pins s σ H x y v u Q I rx ry h
  obtain ⟨F, T, st, dx, dy, d, w, bx, by_, e, c⟩ := h
  obtain ⟨b', e1', e2'⟩ := Option.map_eq_some_iff.mp e
  obtain ⟨b, e1, e3⟩ := Option.map_eq_some_iff.mp e1'
  subst e2'
  have fin : Q (.bl (if neg then !b else b)) H := by rw [e3]; exact c.flatV w (.bl _)
  clear c e e1' e3
  cases dy with
  | str z =>
    cases by_.str
    cases dx with
    | str q =>
      cases bx.str
      simp only [inD] at e1
      split at e1
      · rename_i cc ec
        cases e1
        cases one_sign ec
        cases neg with
        | true => subst hop; exact op_notIn_sign pins s σ H _ _ v u Q I rx ry ⟨cc, z, rfl, rfl, fin⟩
        | false => subst hop; exact op_in_sign pins s σ H _ _ v u Q I rx ry ⟨cc, z, rfl, rfl, fin⟩
      · cases e1
    | _ => cases e1
  | lst ds =>
    obtain ⟨a, vs, ea, ha, ra⟩ := by_.lst w
    subst ea
    simp only [inD] at e1
    split at e1
    · rename_i q
      obtain ⟨q1, q2⟩ := He.ba q
      cases e1
      obtain ⟨f1, f2⟩ := in_flat q1 bx ra q2
      obtain ⟨f3, _⟩ := bor_flat q1 bx
      cases neg with
      | true => subst hop; exact op_notIn_seq pins s σ H _ _ v u Q I rx ry ⟨a, vs, rfl, .inl (.of ha), f3, f1, by rw [f2]; exact fin⟩
      | false => subst hop; exact op_in_seq pins s σ H _ _ v u Q I rx ry ⟨a, vs, rfl, .inl (.of ha), f3, f1, by rw [f2]; exact fin⟩
    · split at e1
      · rename_i q
        obtain ⟨q1, q2⟩ := He.ba q
        cases e1
        have dd : Dp X.K H (.ref a) (.list (pys ds)) := .lst (.of ha) (dp_reps w.fr 20 ds vs q2 ra)
        have sh : SeqAt.shaped (.list (pys ds)) = true := shaped_py (n := 21) (d := .lst ds) q2
        have d1 := dp_bor w q1 bx
        cases neg with
        | true => subst hop; exact op_notInD hu pins s σ H _ _ v u Q I rx ry ⟨py dx, pys ds, d1, dd, shaped_py q1, sh, by rw [any_py q1 q2]; exact fin⟩
        | false => subst hop; exact op_inD hu pins s σ H _ _ v u Q I rx ry ⟨py dx, pys ds, d1, dd, shaped_py q1, sh, by rw [any_py q1 q2]; exact fin⟩
      · cases e1
  | tup ds =>
    obtain ⟨a, vs, ea, ha, ra⟩ := by_.tup w
    subst ea
    simp only [inD] at e1
    split at e1
    · rename_i q
      obtain ⟨q1, q2⟩ := He.ba q
      cases e1
      obtain ⟨f1, f2⟩ := in_flat q1 bx ra q2
      obtain ⟨f3, _⟩ := bor_flat q1 bx
      cases neg with
      | true => subst hop; exact op_notIn_seq pins s σ H _ _ v u Q I rx ry ⟨a, vs, rfl, .inr ha, f3, f1, by rw [f2]; exact fin⟩
      | false => subst hop; exact op_in_seq pins s σ H _ _ v u Q I rx ry ⟨a, vs, rfl, .inr ha, f3, f1, by rw [f2]; exact fin⟩
    · cases e1
  | dic ks ds =>
    obtain ⟨a, kvs, ea, ha, hk, ra⟩ := by_.dic w
    subst ea
    simp only [inD] at e1
    obtain ⟨k, k1, rfl⟩ := Option.map_eq_some_iff.mp e1
    have ek : x = kV k := by
      cases dx with
      | int i => cases bx.int; cases k1; rfl
      | str i => cases bx.str; cases k1; rfl
      | _ => cases k1
    subst ek
    cases ry
    have g : DGet H a (kV k) (valV kvs k) := .k ha
    have es : (valV kvs k).isSome = ks.any fun q => decide (q = k) := by rw [← hk]; exact zip_find
    cases neg with
    | true => subst hop; exact d_notIn (by omega) I g rx fun s' I' => ⟨.bl _, H, I', rfl, by rw [es]; exact fin⟩
    | false => subst hop; exact d_in (by omega) I g rx fun s' I' => ⟨.bl _, H, I', rfl, by rw [es]; exact fin⟩
  | _ => cases e1

theorem isn {K : PySem.W.Frag} {F H : Hp} {T : List Addr} {d : D} {v : V} (b : Bor K F T H v d) : decide (v = .non) = isNone d := by
  rcases b with r | ⟨a, e, r, _⟩
  · cases r <;> rfl
  · subst e
    cases d <;> first | rfl | exact r.elim
theorem op_cmpD (hu : X.A.units + 65 < cLine) {op : CmpOp} : OpR X (compareOp op) (rOp2 X.K (fun x y => (cmpD op x y).map .bl) (rV X.K)) := by
  cases op with
  | Eq => exact op_eqG_ (by omega)
  | NotEq => exact op_neG (by omega)
  | In =>
    have h := inD_ok (X := X) hu (neg := false) rfl
    have e : (fun x y => (cmpD .In x y).map D.bl) = fun x y => ((inD x y).map fun b => if false then !b else b).map D.bl := by
      funext x y
      show (inD x y).map D.bl = _
      cases inD x y <;> rfl
    rw [e]; exact h
  | NotIn => exact inD_ok hu (neg := true) rfl
  | Lt =>
    intro pins s σ H x y v u Q I rx ry h
    obtain ⟨F, T, st, dx, dy, d, w, bx, by_, e, c⟩ := h
    cases dy with
    | int j =>
      cases dx with
      | int i =>
        cases bx.int; cases by_.int; cases e
        exact op_lt pins s σ H _ _ v u Q I rx ry ⟨i, j, rfl, rfl, c.flatV w (.bl _)⟩
      | _ => cases e
    | _ => cases dx <;> cases e
  | LtE =>
    intro pins s σ H x y v u Q I rx ry h
    obtain ⟨F, T, st, dx, dy, d, w, bx, by_, e, c⟩ := h
    cases dy with
    | int j =>
      cases dx with
      | int i =>
        cases bx.int; cases by_.int; cases e
        exact op_le pins s σ H _ _ v u Q I rx ry ⟨i, j, rfl, rfl, c.flatV w (.bl _)⟩
      | _ => cases e
    | _ => cases dx <;> cases e
  | Gt =>
    intro pins s σ H x y v u Q I rx ry h
    obtain ⟨F, T, st, dx, dy, d, w, bx, by_, e, c⟩ := h
    cases dy with
    | int j =>
      cases dx with
      | int i =>
        cases bx.int; cases by_.int; cases e
        exact op_gt pins s σ H _ _ v u Q I rx ry ⟨i, j, rfl, rfl, c.flatV w (.bl _)⟩
      | _ => cases e
    | _ => cases dx <;> cases e
  | GtE =>
    intro pins s σ H x y v u Q I rx ry h
    obtain ⟨F, T, st, dx, dy, d, w, bx, by_, e, c⟩ := h
    cases dy with
    | int j =>
      cases dx with
      | int i =>
        cases bx.int; cases by_.int; cases e
        exact op_ge pins s σ H _ _ v u Q I rx ry ⟨i, j, rfl, rfl, c.flatV w (.bl _)⟩
      | _ => cases e
    | _ => cases dx <;> cases e
  | Is =>
    intro pins s σ H x y v u Q I rx ry h
    obtain ⟨F, T, st, dx, dy, d, w, bx, by_, e, c⟩ := h
    cases dy with
    | non =>
      cases by_.non
      cases e
      exact op_isN pins s σ H _ _ v u Q I rx ry ⟨rfl, by rw [isn bx]; exact c.flatV w (.bl _)⟩
    | bl b =>
      cases by_.bl
      cases dx with
      | bl a =>
        cases bx.bl
        cases e; exact op_isBl pins s σ H _ _ v u Q I rx ry ⟨a, b, rfl, rfl, c.flatV w (.bl _)⟩
      | _ => cases e
    | _ => cases dx <;> cases e
  | IsNot =>
    intro pins s σ H x y v u Q I rx ry h
    obtain ⟨F, T, st, dx, dy, d, w, bx, by_, e, c⟩ := h
    cases dy with
    | non =>
      cases by_.non
      cases e
      exact op_notN pins s σ H _ _ v u Q I rx ry ⟨rfl, by rw [isn bx]; exact c.flatV w (.bl _)⟩
    | bl b =>
      cases by_.bl
      cases dx with
      | bl a =>
        cases bx.bl
        cases e; exact op_notBl pins s σ H _ _ v u Q I rx ry ⟨a, b, rfl, rfl, c.flatV w (.bl _)⟩
      | _ => cases e
    | _ => cases dx <;> cases e

/-! ### items -/
theorem reps_at {K : PySem.W.Frag} {F : Hp} {T : List Addr} {vs : List V} {ds : List D} (r : Reps K F T vs ds) {k : Int} {d : D} (h : atI ds k = some d) : ∃ v, atI vs k = some v ∧ Rep K F T v d := by
  unfold atI at h ⊢
  rw [r.length]
  cases e : ixN ds.length k with
  | none => rw [e] at h; cases h
  | some j => rw [e] at h; exact r.get h
theorem atI_map {α β : Type} (f : α → β) (xs : List α) (k : Int) : atI (xs.map f) k = (atI xs k).map f := by
  unfold atI
  rw [List.length_map]
  cases ixN xs.length k with
  | none => rfl
  | some j => simp
theorem find_kvs {K : PySem.W.Frag} {F : Hp} {T : List Addr} {k : Key} : ∀ {kvs : List (Key × V)} {ds : List D} {d : D}, Reps K F T (kvs.map (·.2)) ds → dicGet (kvs.map (·.1)) ds k = some d → ∃ v, valV kvs k = some v ∧ Rep K F T v d
  | [], _, _, _, h => by simp [dicGet] at h
  | kv :: kvs, _, d, .cons (d := e) r rs, h => by
    unfold dicGet at h
    rw [List.map_cons, List.zip_cons_cons, List.find?_cons] at h
    unfold valV
    rw [List.find?_cons]
    by_cases q : kv.1 = k
    · simp only [q, decide_true, Option.map_some] at h ⊢
      cases h
      exact ⟨_, rfl, r⟩
    · simp only [q, decide_false] at h ⊢
      exact find_kvs rs h
/-- x[k] by data, the store's objects behind their numbers -/
def rIxD (K : PySem.W.Frag) : R2 := fun x y H Q => ∃ F T st dx dx' dy d, WF K F T st H ∧ Bor K F T H x dx ∧ Bor K F T H y dy ∧ deref st dx = some dx' ∧ ixS dx' dy = some d ∧ Cont K F T st H (rV K) d Q
theorem bor_deref {K : PySem.W.Frag} {F H : Hp} {T : List Addr} {st : Store} (w : WF K F T st H) {v : V} {d d' : D} (b : Bor K F T H v d) (e : deref st d = some d') : Bor K F T H v d' ∨ ∃ a, v = .ref a ∧ RepTop K F T H a d' := by
  cases d with
  | obj n =>
    rcases b with r | ⟨_, _, r, _⟩
    · cases r with
      | obj q =>
        obtain ⟨a, h1, h2⟩ := w.at_ n d' e
        rw [q] at h1; cases h1
        exact .inr ⟨_, rfl, h2⟩
    · exact r.elim
  | _ => cases e; exact .inl b
theorem ix_D (hu : X.A.units + 1 < cLine) : IxR X (rIxD X.K) := by
  intro value slice pins s σ H x y v u Q I rx ry h hs
  obtain ⟨F, T, st, dx, dx', dy, d, w, bx, by_, e1, e2, c⟩ := h
  have bx' := bor_deref w bx e1
  cases dy with
  | int k =>
    cases by_.int
    cases dx' with
    | lst ds =>
      obtain ⟨a, vs, rfl, ha, ra⟩ : ∃ a xs, x = .ref a ∧ H a = some (.lst xs) ∧ Reps X.K F T xs ds := by
        rcases bx' with b | ⟨a, rfl, xs, e, r⟩
        · exact b.lst w
        · exact ⟨a, xs, rfl, e, r⟩
      obtain ⟨z, e3, r3⟩ := reps_at ra e2
      exact ix_list value slice pins s σ H _ _ v u Q I rx ry ⟨a, vs, k, z, rfl, rfl, .of ha, e3, c.flatV w r3⟩ hs
    | tup ds =>
      obtain ⟨a, vs, rfl, ha, ra⟩ : ∃ a xs, x = .ref a ∧ SqT X.K H a xs ∧ Reps X.K F T xs ds := by
        rcases bx' with b | ⟨a, rfl, r⟩
        · exact b.tup w
        · exact r.elim
      obtain ⟨z, e3, r3⟩ := reps_at ra e2
      exact ix_tup value slice pins s σ H _ _ v u Q I rx ry ⟨a, vs, k, z, rfl, rfl, ha, e3, c.flatV w r3⟩ hs
    | scr ns =>
      obtain ⟨a, rfl, ha⟩ : ∃ a, x = .ref a ∧ SqL X.K H a (ns.map V.int) := by
        rcases bx' with b | ⟨a, rfl, r⟩
        · exact b.scr w
        · exact r.elim
      obtain ⟨i, e3, rfl⟩ := Option.map_eq_some_iff.mp e2
      exact ix_list value slice pins s σ H _ _ v u Q I rx ry ⟨a, _, k, .int i, rfl, rfl, ha, by rw [atI_map, e3]; rfl, c.flatV w (.int _)⟩ hs
    | str z =>
      have ex : x = .str z := by
        rcases bx' with b | ⟨a, _, r⟩
        · exact b.str
        · exact r.elim
      subst ex
      simp only [ixS] at e2
      split at e2
      · rename_i q
        obtain ⟨cc, e3, rfl⟩ := Option.map_eq_some_iff.mp e2
        exact ix_str value slice pins s σ H _ _ v u Q I rx ry ⟨z, k, cc, rfl, rfl, q, e3, c.flatV w (.str _)⟩ hs
      · cases e2
    | dic ks ds =>
      obtain ⟨a, kvs, rfl, ha, hk, ra⟩ : ∃ a kvs, x = .ref a ∧ H a = some (.dK kvs) ∧ kvs.map (·.1) = ks ∧ Reps X.K F T (kvs.map (·.2)) ds := by
        rcases bx' with b | ⟨a, rfl, xs, e, k, r⟩
        · exact b.dic w
        · exact ⟨a, xs, rfl, e, k, r⟩
      subst hk
      obtain ⟨z, e3, r3⟩ := find_kvs ra e2
      cases rx
      have g : DGet H a (kV (.inl k)) (some z) := by rw [← e3]; exact .k ha
      exact tail_any (dict_typeIs I g) PySem.F.slot_dict_getitem.lookup (d_getItem hu I g ry fun w' s' I' rw' => ⟨z, H, I', rw', c.flatV w r3⟩) hs
    | _ => cases e2
  | str k =>
    cases by_.str
    cases dx' with
    | dic ks ds =>
      obtain ⟨a, kvs, rfl, ha, hk, ra⟩ : ∃ a kvs, x = .ref a ∧ H a = some (.dK kvs) ∧ kvs.map (·.1) = ks ∧ Reps X.K F T (kvs.map (·.2)) ds := by
        rcases bx' with b | ⟨a, rfl, xs, e, k, r⟩
        · exact b.dic w
        · exact ⟨a, xs, rfl, e, k, r⟩
      subst hk
      obtain ⟨z, e3, r3⟩ := find_kvs ra e2
      cases rx
      have g : DGet H a (kV (.inr k)) (some z) := by rw [← e3]; exact .k ha
      exact tail_any (dict_typeIs I g) PySem.F.slot_dict_getitem.lookup (d_getItem hu I g ry fun w' s' I' rw' => ⟨z, H, I', rw', c.flatV w r3⟩) hs
    | _ => cases e2
  | _ => cases dx' <;> cases e2

/-! ### slices -/
theorem cut_same {α β : Type} {xs : List α} {ys : List β} (h : xs.length = ys.length) {lo hi : Option Int} (c : HT.sIx xs.length 0 lo = 0 ∧ HT.sIx xs.length xs.length hi = xs.length) : cutD ys lo hi = ys := by
  unfold cutD
  rw [← h, c.1, c.2]
  simp [h]
theorem reps_cut {K : PySem.W.Frag} {F : Hp} {T : List Addr} {vs : List V} {ds : List D} (r : Reps K F T vs ds) (lo hi : Option Int) : Reps K F T (cutV vs lo hi) (cutD ds lo hi) := by
  unfold cutV cutD
  rw [r.length]
  exact (r.drop _).take _
def rSlD (K : PySem.W.Frag) : V → Option Int → Option Int → Hp → VK → Prop := fun x lo hi H Q => ∃ F T st dx d, WF K F T st H ∧ Bor K F T H x dx ∧ slD dx lo hi = some d ∧ Cont K F T st H (rD K) d Q
theorem sl_D : SlR X (rSlD X.K) := by
  intro pins s σ H x v vl vu lo hi sl Q I rx hs pl pu h
  obtain ⟨F, T, st, dx, d, w, bx, e, c⟩ := h
  cases dx with
  | lst ds =>
    obtain ⟨a, vs, rfl, ha, ra⟩ := bx.lst w
    cases e
    exact sl_list pins s σ H _ v vl vu lo hi sl Q I rx hs pl pu ⟨a, vs, rfl, .of ha, fun p hp => c.lst w (reps_cut ra lo hi) hp⟩
  | tup ds =>
    obtain ⟨a, vs, rfl, ha, ra⟩ := bx.tup w
    cases e
    refine sl_tupA pins s σ H _ v vl vu lo hi sl Q I rx hs pl pu ⟨a, vs, rfl, ha, fun z => ?_, fun _ p hp => c.tup w (reps_cut ra lo hi) hp⟩
    rw [cut_same ra.length z] at c
    rcases bx with k | ⟨_, _, k, _⟩
    · exact c.flat w rfl k
    · exact k.elim
  | str z =>
    cases bx.str
    simp only [slD] at e
    split at e
    · rename_i q
      cases e
      exact sl_str pins s σ H _ v vl vu lo hi sl Q I rx hs pl pu ⟨z, rfl, q, c.flat w rfl (.str _)⟩
    · cases e
  | _ => cases e

/-! ### truth -/
theorem tru_D {K : PySem.W.Frag} {F H : Hp} {T : List Addr} {st : Store} (w : WF K F T st H) {v : V} {d : D} {b : Bool} (r : Rep K F T v d) (h : truthD d = some b) : TruV K v H b := by
  cases r with
  | non => cases h; rfl
  | bl k => cases h; rfl
  | int i => cases h; rfl
  | str x =>
    simp only [truthD] at h
    split at h
    · rename_i q
      cases h
      refine ⟨q, ?_⟩
      rw [Bool.eq_iff_iff]; simp
    · cases h
  | tup q r => cases h; exact .inr (.inl ⟨_, sqT_mono w.fr q, by rw [reps_empty r]⟩)
  | lst q r => cases h; exact .inl ⟨_, .of (w.fr _ _ q), by rw [reps_empty r]⟩
  | _ => cases h
end
end Eng
set_option Elab.async false
set_option linter.all false
set_option maxRecDepth 100000
/-! Eng 6: built-in functions -/
namespace Eng
open PySem PySem.Spec PyProof.Rows L2

section
variable {K : PySem.W.Frag} {F H : Hp} {T : List Addr} {st : Store}
theorem bors1 {vs : List V} {d : D} (h : Bors K F T H vs [d]) : ∃ v, vs = [v] ∧ Bor K F T H v d := by
  cases h with | cons a b => cases b; exact ⟨_, rfl, a⟩
theorem bors2 {vs : List V} {d e : D} (h : Bors K F T H vs [d, e]) : ∃ v u, vs = [v, u] ∧ Bor K F T H v d ∧ Bor K F T H u e := by
  cases h with | cons a b => cases b with | cons c d => cases d; exact ⟨_, _, rfl, a, c⟩
theorem Bor.seq (w : WF K F T st H) {v : V} {d : D} {ds : List D} (h : Bor K F T H v d) (e : seqD d = some ds) : ∃ a xs, v = .ref a ∧ (SqL K H a xs ∨ SqT K H a xs) ∧ Reps K F T xs ds := by
  cases d with
  | lst xs => cases e; obtain ⟨a, vs, e, h, r⟩ := h.lst w; exact ⟨a, vs, e, .inl (.of h), r⟩
  | tup xs => cases e; obtain ⟨a, vs, e, h, r⟩ := h.tup w; exact ⟨a, vs, e, .inr h, r⟩
  | _ => cases e
theorem intsD_ok : ∀ {ds : List D} {ns : List Int}, intsD ds = some ns → ds = ns.map .int
  | [], _, h => by cases h; rfl
  | d :: ds, ns, h => by
    cases d with
    | int i =>
      obtain ⟨m, e, rfl⟩ := Option.map_eq_some_iff.mp (show (intsD ds).map (i :: ·) = some ns from h)
      rw [intsD_ok e]; rfl
    | _ => cases h
theorem strsD_ok : ∀ {ds : List D} {ns : List Str}, strsD ds = some ns → ds = ns.map .str
  | [], _, h => by cases h; rfl
  | d :: ds, ns, h => by
    cases d with
    | str i =>
      obtain ⟨m, e, rfl⟩ := Option.map_eq_some_iff.mp (show (strsD ds).map (i :: ·) = some ns from h)
      rw [strsD_ok e]; rfl
    | _ => cases h
theorem blsD_ok : ∀ {ds : List D} {ns : List Bool}, blsD ds = some ns → ds = ns.map .bl
  | [], _, h => by cases h; rfl
  | d :: ds, ns, h => by
    cases d with
    | bl i =>
      obtain ⟨m, e, rfl⟩ := Option.map_eq_some_iff.mp (show (blsD ds).map (i :: ·) = some ns from h)
      rw [blsD_ok e]; rfl
    | _ => cases h
theorem reps_ints : ∀ {ns : List Int} {vs : List V}, Reps K F T vs (ns.map .int) → vs = ns.map .int
  | [], _, h => by cases h; rfl
  | n :: ns, _, h => by cases h with | cons a b => cases a; rw [reps_ints b]; rfl
theorem reps_strs : ∀ {ns : List Str} {vs : List V}, Reps K F T vs (ns.map .str) → vs = ns.map .str
  | [], _, h => by cases h; rfl
  | n :: ns, _, h => by cases h with | cons a b => cases a; rw [reps_strs b]; rfl
theorem reps_bls : ∀ {ns : List Bool} {vs : List V}, Reps K F T vs (ns.map .bl) → vs = ns.map .bl
  | [], _, h => by cases h; rfl
  | n :: ns, _, h => by cases h with | cons a b => cases a; rw [reps_bls b]; rfl
theorem of_ints : ∀ (ns : List Int), Reps K F T (ns.map .int) (ns.map .int)
  | [] => .nil
  | _ :: ns => .cons (.int _) (of_ints ns)
theorem of_strs : ∀ (ns : List Str), Reps K F T (ns.map .str) (ns.map .str)
  | [] => .nil
  | _ :: ns => .cons (.str _) (of_strs ns)
end

/-- a built-in function by data -/
def rBi (K : PySem.W.Frag) (b : String) : List V → Hp → VK → Prop := fun vs H Q => ∃ F T st ds d, WF K F T st H ∧ Bors K F T H vs ds ∧ biD b ds = some d ∧ Cont K F T st H (rD K) d Q
section
variable {X : Cx}
theorem bi_len : CallR X (.builtin "len") (rBi X.K "len") := by
  intro pins s σ H vs us Q I r h
  obtain ⟨F, T, st, ds, d, w, bs, e, c⟩ := h
  match ds, bs, e with
  | [x], bs, e =>
    obtain ⟨v, rfl, b⟩ := bors1 bs
    obtain ⟨n, e1, rfl⟩ := Option.map_eq_some_iff.mp (show (lenD x).map (fun (n : Nat) => D.int (n : Int)) = some d from e)
    have fin : Q (.int (n : Nat)) H := c.flat w rfl (.int _)
    cases x with
    | str z =>
      cases b.str
      simp only [lenD] at e1
      split at e1
      · rename_i q; cases e1; exact call_len_str pins s σ H _ us Q I r ⟨z, rfl, q, fin⟩
      · cases e1
    | lst xs => cases e1; obtain ⟨a, ws, rfl, ha, ra⟩ := b.lst w; exact call_len_seq pins s σ H _ us Q I r ⟨a, ws, rfl, .inl (.of ha), by rw [ra.length]; exact fin⟩
    | tup xs => cases e1; obtain ⟨a, ws, rfl, ha, ra⟩ := b.tup w; exact call_len_seq pins s σ H _ us Q I r ⟨a, ws, rfl, .inr ha, by rw [ra.length]; exact fin⟩
    | scr ns => cases e1; obtain ⟨a, rfl, ha⟩ := b.scr w; exact call_len_seq pins s σ H _ us Q I r ⟨a, _, rfl, .inl ha, by rw [List.length_map]; exact fin⟩
    | dic ks xs =>
      cases e1
      obtain ⟨a, kvs, rfl, ha, hk, ra⟩ := b.dic w
      exact call_lenD pins s σ H _ us Q I r ⟨a, kvs, rfl, ha, by rw [← hk, List.length_map] at fin; exact fin⟩
    | _ => cases e1
theorem bi_sum (hc : X.calm = true) : CallR X (.builtin "sum") (rBi X.K "sum") := by
  intro pins s σ H vs us Q I r h
  obtain ⟨F, T, st, ds, d, w, bs, e, c⟩ := h
  match ds, bs, e with
  | [.lst xs], bs, e =>
    obtain ⟨v, rfl, b⟩ := bors1 bs
    obtain ⟨ns, e1, rfl⟩ := Option.map_eq_some_iff.mp (show (intsD xs).map (fun ns => D.int ns.sum) = some d from e)
    cases intsD_ok e1
    obtain ⟨a, ws, rfl, ha, ra⟩ := b.lst w
    cases reps_ints ra
    exact cr_sum hc pins s σ H _ us Q I r ⟨a, ns, rfl, .of ha, c.flat w rfl (.int _)⟩
theorem bi_int : CallR X (.type "int") (rBi X.K "int") := by
  intro pins s σ H vs us Q I r h
  obtain ⟨F, T, st, ds, d, w, bs, e, c⟩ := h
  match ds, bs, e with
  | [.int i], bs, e =>
    obtain ⟨v, rfl, b⟩ := bors1 bs
    cases b.int; cases e
    exact call_int1 pins s σ H _ us Q I r (.inl ⟨i, rfl, c.flat w rfl (.int _)⟩)
  | [.bl k], bs, e =>
    obtain ⟨v, rfl, b⟩ := bors1 bs
    cases b.bl; cases e
    exact call_int1 pins s σ H _ us Q I r (.inr ⟨k, rfl, c.flat w rfl (.int _)⟩)
  | [.str x], bs, e =>
    obtain ⟨v, rfl, b⟩ := bors1 bs
    cases b.str
    have e : (if x.length ≤ 640 then (PySem.intText? x).map D.int else none) = some d := e
    split at e
    · rename_i q
      obtain ⟨n, e1, rfl⟩ := Option.map_eq_some_iff.mp e
      exact call_int_str pins s σ H _ us Q I r ⟨x, n, rfl, e1, q, c.flat w rfl (.int _)⟩
    · cases e
theorem bi_str : CallR X (.type "str") (rBi X.K "str") := by
  intro pins s σ H vs us Q I r h
  obtain ⟨F, T, st, ds, d, w, bs, e, c⟩ := h
  match ds, bs, e with
  | [.int i], bs, e =>
    obtain ⟨v, rfl, b⟩ := bors1 bs
    cases b.int
    have e : (if i.natAbs.log2 < 1920 then some (D.str (toString i)) else none) = some d := e
    split at e
    · rename_i q
      cases e
      exact call_str_int pins s σ H _ us Q I r ⟨i, rfl, q, c.flat w rfl (.str _)⟩
    · cases e
theorem bi_abs : CallR X (.builtin "abs") (rBi X.K "abs") := by
  intro pins s σ H vs us Q I r h
  obtain ⟨F, T, st, ds, d, w, bs, e, c⟩ := h
  match ds, bs, e with
  | [.int i], bs, e =>
    obtain ⟨v, rfl, b⟩ := bors1 bs
    cases b.int; cases e
    exact call_abs pins s σ H _ us Q I r ⟨i, rfl, c.flat w rfl (.int _)⟩
theorem bi_all (hc : X.calm = true) : CallR X (.builtin "all") (rBi X.K "all") := by
  intro pins s σ H vs us Q I r h
  obtain ⟨F, T, st, ds, d, w, bs, e, c⟩ := h
  match ds, bs, e with
  | [.lst xs], bs, e =>
    obtain ⟨v, rfl, b⟩ := bors1 bs
    obtain ⟨ns, e1, rfl⟩ := Option.map_eq_some_iff.mp (show (blsD xs).map (fun bs => D.bl (bs.all id)) = some d from e)
    cases blsD_ok e1
    obtain ⟨a, ws, rfl, ha, ra⟩ := b.lst w
    cases reps_bls ra
    exact cr_all hc pins s σ H _ us Q I r ⟨a, ns, rfl, .of ha, c.flat w rfl (.bl _)⟩
theorem bi_any (hc : X.calm = true) : CallR X (.builtin "any") (rBi X.K "any") := by
  intro pins s σ H vs us Q I r h
  obtain ⟨F, T, st, ds, d, w, bs, e, c⟩ := h
  match ds, bs, e with
  | [.lst xs], bs, e =>
    obtain ⟨v, rfl, b⟩ := bors1 bs
    obtain ⟨ns, e1, rfl⟩ := Option.map_eq_some_iff.mp (show (blsD xs).map (fun bs => D.bl (bs.any id)) = some d from e)
    cases blsD_ok e1
    obtain ⟨a, ws, rfl, ha, ra⟩ := b.lst w
    cases reps_bls ra
    exact cr_any hc pins s σ H _ us Q I r ⟨a, ns, rfl, .of ha, c.flat w rfl (.bl _)⟩
theorem bi_max2 (hc : X.calm = true) : CallR X (.builtin "max") (rBi X.K "max2") := by
  intro pins s σ H vs us Q I r h
  obtain ⟨F, T, st, ds, d, w, bs, e, c⟩ := h
  match ds, bs, e with
  | [.int i, .int j], bs, e =>
    obtain ⟨v, u, rfl, b, b2⟩ := bors2 bs
    cases b.int; cases b2.int; cases e
    exact call_max2 hc pins s σ H _ us Q I r ⟨i, j, rfl, c.flat w rfl (.int _)⟩
theorem bi_min2 (hc : X.calm = true) : CallR X (.builtin "min") (rBi X.K "min2") := by
  intro pins s σ H vs us Q I r h
  obtain ⟨F, T, st, ds, d, w, bs, e, c⟩ := h
  match ds, bs, e with
  | [.int i, .int j], bs, e =>
    obtain ⟨v, u, rfl, b, b2⟩ := bors2 bs
    cases b.int; cases b2.int; cases e
    exact call_min2 hc pins s σ H _ us Q I r ⟨i, j, rfl, c.flat w rfl (.int _)⟩
theorem bi_list : CallR X (.type "list") (rBi X.K "list") := by
  intro pins s σ H vs us Q I r h
  obtain ⟨F, T, st, ds, d, w, bs, e, c⟩ := h
  match ds, bs, e with
  | [x], bs, e =>
    obtain ⟨v, rfl, b⟩ := bors1 bs
    obtain ⟨xs, e1, rfl⟩ := Option.map_eq_some_iff.mp (show (seqD x).map .lst = some d from e)
    obtain ⟨a, ws, rfl, ha, ra⟩ := b.seq w e1
    exact call_list_of pins s σ H _ us Q I r ⟨a, ws, rfl, ha, fun l hl => c.lst w ra hl⟩
theorem bi_tuple : CallR X (.type "tuple") (rBi X.K "tuple") := by
  intro pins s σ H vs us Q I r h
  obtain ⟨F, T, st, ds, d, w, bs, e, c⟩ := h
  match ds, bs, e with
  | [x], bs, e =>
    obtain ⟨v, rfl, b⟩ := bors1 bs
    obtain ⟨xs, e1, rfl⟩ := Option.map_eq_some_iff.mp (show (seqD x).map .tup = some d from e)
    cases x with
    | lst ys =>
      cases e1
      obtain ⟨a, ws, rfl, ha, ra⟩ := b.lst w
      exact call_tuple_of pins s σ H _ us Q I r ⟨a, ws, rfl, .inl ⟨.of ha, fun l hl => c.tup w ra hl⟩⟩
    | tup ys =>
      cases e1
      obtain ⟨a, ws, rfl, ha, ra⟩ := b.tup w
      refine call_tuple_of pins s σ H _ us Q I r ⟨a, ws, rfl, .inr ⟨ha, ?_⟩⟩
      rcases b with k | ⟨_, _, k, _⟩
      · exact c.flat w rfl k
      · exact k.elim
    | _ => cases e1

/-! ### sorted -/
/-- a value that stands for data -/
def Sees (K : PySem.W.Frag) (F : Hp) (T : List Addr) (u : Value) (d : D) : Prop := ∃ v, RelV v u ∧ Rep K F T v d
theorem sees_each {F : Hp} {T : List Addr} : ∀ {vs : List V} {us : List Value} {ds : List D}, Vals vs us → Reps X.K F T vs ds → PySem.W.EachIs (Sees X.K F T) us ds
  | _, _, _, .nil, .nil => .nil
  | _, _, _, .cons r rs, .cons p ps => .cons ⟨_, r, p⟩ (sees_each rs ps)
theorem each_sees {F : Hp} {T : List Addr} : ∀ {us : List Value} {ds : List D}, PySem.W.EachIs (Sees X.K F T) us ds → ∃ vs, Vals vs us ∧ Reps X.K F T vs ds
  | _, _, .nil => ⟨[], .nil, .nil⟩
  | _, _, .cons ⟨v, r, p⟩ e => by
    obtain ⟨vs, rs, ps⟩ := each_sees e
    exact ⟨v :: vs, .cons r rs, .cons p ps⟩
theorem sees_reads {pins : List (Addr × Obj)} {σ : L2.St} {H : Hp} {s : Shared} {F : Hp} {T : List Addr} (I : Inv X pins σ H s) (sm : Same F H) : ∀ {us : List Value} {ds : List D}, PySem.W.EachIs (Sees X.K F T) us ds → ds.all (dataF 20) = true →
    PySem.W.EachIs (fun v b => ∃ as, Reads s.heap v (py b) as) us ds
  | _, _, .nil, _ => .nil
  | _, _, .cons (b := d) ⟨v, r, p⟩ e, h => by
    simp only [List.all_cons, Bool.and_eq_true] at h
    exact .cons (Dp.reads I _ _ _ (dp_repF sm 20 d v h.1 p) r) (sees_reads I sm e h.2)
theorem bi_sorted (hu : X.A.units + 64 < cLine) : CallR X (.builtin "sorted") (rBi X.K "sorted") := by
  intro pins s σ H vs us Q I r h
  obtain ⟨F, T, st, ds, d, w, bs, e, c⟩ := h
  match ds, bs, e with
  | [.lst xs], bs, e =>
    obtain ⟨v, rfl, b⟩ := bors1 bs
    obtain ⟨a, ws, rfl, ha, ra⟩ := b.lst w
    have e : (if sortOk xs = true then some (D.lst (xs.mergeSort leD)) else none) = some d := e
    split at e
    · rename_i q
      cases e
      unfold sortOk at q
      simp only [Bool.and_eq_true, Bool.or_eq_true] at q
      obtain ⟨⟨q1, q2⟩, q3⟩ := q
      obtain ⟨its, rv, pl, hz⟩ := I.list (.of ha)
      rw [Vals.ref1 r]
      have es := sees_each rv ra
      have hl : xs.length ≤ sizeLine := by rw [← ra.length]; exact hz
      refine PySem.W.sorted_data (enc := py) (R := Sees X.K F T) pl.isList es (sees_reads I w.fr es q1) ?_ ?_ hl (fun b hb => ?_) fun out ho eo => ?_
      · intro d1 h1 d2 h2
        obtain ⟨a1, m1, rfl⟩ := List.mem_map.mp h1
        obtain ⟨a2, m2, rfl⟩ := List.mem_map.mp h2
        exact List.all_eq_true.mp (List.all_eq_true.mp q2 a1 m1) a2 m2
      · rcases q3 with q3 | q3
        · refine .inl fun d1 h1 => ?_
          obtain ⟨a1, m1, rfl⟩ := List.mem_map.mp h1
          have z := List.all_eq_true.mp q3 a1 m1
          cases a1 with
          | tup ys =>
            cases ys with
            | nil => cases z
            | cons y ys => exact ⟨py y, pys ys, by rw [py, pys]⟩
          | _ => cases z
        · refine .inr fun d1 h1 => ?_
          obtain ⟨a1, m1, rfl⟩ := List.mem_map.mp h1
          have z := List.all_eq_true.mp q3 a1 m1
          have z1 := List.all_eq_true.mp q1 a1 m1
          cases a1 <;> first | (simp [py]; done) | (cases z; done) | (cases z1; done)
      · have := depth_pyF 20 b (List.all_eq_true.mp q1 b hb); omega
      · obtain ⟨ws', rv', ra'⟩ := each_sees eo
        obtain ⟨ep, he'⟩ := PyProof.Rows.sortedAll_at s.heap its out.toArray
        have hlen : ws'.length ≤ sizeLine := by rw [rv'.length, ho]; exact hl
        exact ⟨.ref _, upd H (s.heap.objs.size + 1) (.lst ws'), I.laid (t' := s.toks) (fun _ _ => PyProof.Rows.sortedAll_old) (Nat.le_succ _) ⟨hlen, out, ep, rv', he'⟩, rfl, c.lst w ra' (I.hok.fresh (Nat.le_succ _))⟩
    · cases e
end
end Eng
set_option Elab.async false
set_option linter.all false
set_option maxRecDepth 100000
/-! Eng 7: expressions, one by one -/
namespace Eng
open PySem PySem.Spec PyProof.Rows L2

/-! ### the syntax's own conditions -/
/-- an ordinary operand -/
def okA : Expr → Bool
  | .Starred _ _ => false
  | .Set _ _ _ => false
  | .Slice _ _ _ _ => false
  | _ => true
/-- what stands ahead of a dot -/
def okB : Expr → Bool
  | .Call (.Name _ _) [] [] _ => false
  | e => okA e
/-- a test that is its value's truth -/
def okT : Expr → Bool
  | .UnaryOp .Not _ _ => false
  | .BoolOp _ _ _ => false
  | .IfExp _ _ _ _ => false
  | .Compare _ _ _ _ => false
  | _ => true
theorem okA_star {e : Expr} {es : List Expr} {env : PySem.Env} (h : okA e = true) : starEach (e :: es) env = (false, eval e env) :: starEach es env := by
  cases e <;> first | rfl | cases h
theorem okA_fold {e : Expr} {env : PySem.Env} (h : okA e = true) (x : Value) : foldedSetIterable e env x = pure x := by
  cases e <;> first | rfl | cases h
theorem okA_behind {e : Expr} {op : CmpOp} (h : okA e = true) : behindInMarks op e = false := by
  cases e <;> first | rfl | cases h
theorem okA_ix {e : Expr} (h : okA e = true) : PlainIx e := by
  intro o i
  cases e <;> first | rfl | cases h
theorem okB_base {e : Expr} {f : Str} {env : PySem.Env} (h : okB e = true) : attributeBase e f env (eval e env) = eval e env := by
  cases e with
  | Call func args kws pos =>
    cases func with
    | Name x p =>
      cases args with
      | nil =>
        cases kws with
        | nil => cases h
        | cons _ _ => rfl
      | cons _ _ => rfl
    | _ => rfl
  | _ => first | rfl | cases h
theorem okB_A {e : Expr} (h : okB e = true) : okA e = true := by
  cases e <;> first | rfl | cases h
theorem okT_plain {e : Expr} {env : PySem.Env} (h : okT e = true) (whole : Sem Value) : isTrue e env whole = (do let v ← whole; standAt e.pos; holding [v] (truthy v)) := by
  cases e with
  | UnaryOp op x p => cases op <;> first | rfl | cases h
  | _ => first | rfl | cases h
def okAs : List Expr → Bool
  | [] => true
  | e :: es => okA e && okAs es
theorem okAs_plain {env : PySem.Env} {pos : Pos} : ∀ {es : List Expr}, okAs es = true → (backTo pos (starEach es env)).any (·.1) = false
  | [], _ => rfl
  | e :: es, h => by
    obtain ⟨h1, h2⟩ := He.ba (show (okA e && okAs es) = true from h)
    rw [okA_star h1]
    show (false || (backTo pos (starEach es env)).any (·.1)) = false
    rw [okAs_plain h2]; rfl
theorem okAs_len {env : PySem.Env} : ∀ {es : List Expr}, okAs es = true → (starEach es env).length = es.length
  | [], _ => rfl
  | e :: es, h => by
    obtain ⟨h1, h2⟩ := He.ba (show (okA e && okAs es) = true from h)
    rw [okA_star h1, List.length_cons, List.length_cons, okAs_len h2]
theorem okAs_all {env : PySem.Env} {pos : Pos} : ∀ {es : List Expr}, okAs es = true → (backTo pos (starEach es env)).all (fun x => !x.1) = true
  | [], _ => rfl
  | e :: es, h => by
    obtain ⟨h1, h2⟩ := He.ba (show (okA e && okAs es) = true from h)
    rw [okA_star h1]
    show (true && (backTo pos (starEach es env)).all (fun x => !x.1)) = true
    rw [okAs_all h2]; rfl

/-! ### borrowed -/
theorem tX.imp {α β : Type} {K : PySem.W.Frag} {W : WW} {R R' : RR α β} {m : Env → Store → Out α} {σ : L2.St} {H : Hp} {Q : β → Hp → Prop} (h : tX K W R m σ H Q) (i : ∀ H F T H' a b, R' H F T H' a b → R H F T H' a b) : tX K W R' m σ H Q := by
  obtain ⟨F, T, st, env, w, eo, p⟩ := h
  refine ⟨F, T, st, env, w, eo, ?_⟩
  revert p
  cases m env st with
  | bad => exact id
  | ex c ks ds st => exact id
  | ok d st' => exact fun p b F' T' H' x w r => p b F' T' H' x w (i _ _ _ _ _ _ r)
section
variable {X : Cx} {W : WW} {C : Calls}
theorem bor_val {env : Env} {e : E} {m : Store → Out D} {st : Store} (h : ∀ i, e ≠ .var i) : bor env e m st = m st := by
  cases e <;> first | rfl | exact absurd rfl (h _)
/-- an operand of any kind that is no name -/
theorem s_bor {a : Expr} {e : E} (h : PE X a (tE X.K W C e)) (n : ∀ i, e ≠ .var i) : PE X a (tB X.K W C e) := impE h fun σ H Q ⟨F, T, st, env, w, eo, p⟩ => by
  refine ⟨F, T, st, env, w, eo, ?_⟩
  have p : Post X.K W σ F T H (rBo X.K) (bor env e (evE C env e) st) Q := p
  rw [bor_val n] at p
  show Post X.K W σ F T H (rV X.K) (evE C env e st) Q
  revert p
  cases evE C env e st with
  | bad => exact id
  | ex c ks ds st => exact id
  | ok d st' => exact fun p b F' T' H' x w r => p b F' T' H' x w (.inl r)

/-! ### names and constants -/
theorem getV_some {env : Env} {i : Nat} {d : D} (h : getV env i = some d) : env[i]? = some (.val d) := by
  unfold getV at h
  split at h
  · rename_i e; cases h; exact e
  · cases h
theorem s_var {i : Nat} {y : Str} {pos : Pos} (hN : X.N[i]? = some y) (hv : Vis X.env.scope y) (hd : (y == ("__debug__" : Str)) = false) (hcd : (y == ("__classdict__" : Str)) = false) : PE X (.Name y pos) (tE X.K W C (.var i)) :=
  impE (pe_var hN hv hd hcd) fun σ H Q ⟨F, T, st, env, w, eo, p⟩ => by
    have p : Post X.K W σ F T H (rV X.K) (ofO (getV env i) st) Q := p
    cases e : getV env i with
    | none => rw [e] at p; exact p.elim
    | some d =>
      rw [e] at p
      obtain ⟨v, e1, r⟩ := eo.at_ i _ (getV_some e)
      exact ⟨v, e1, p v F T H (.refl _ _ _) w r⟩
theorem s_varB {i : Nat} {y : Str} {pos : Pos} (hN : X.N[i]? = some y) (hv : Vis X.env.scope y) (hd : (y == ("__debug__" : Str)) = false) (hcd : (y == ("__classdict__" : Str)) = false) : PE X (.Name y pos) (tB X.K W C (.var i)) :=
  impE (pe_var hN hv hd hcd) fun σ H Q ⟨F, T, st, env, w, eo, p⟩ => by
    have p : Post X.K W σ F T H (rBo X.K) (ofO (getB env i) st) Q := p
    cases e : getB env i with
    | none => rw [e] at p; exact p.elim
    | some d =>
      rw [e] at p
      unfold getB at e
      split at e
      · rename_i q
        cases e
        obtain ⟨v, e1, r⟩ := eo.at_ i _ q
        exact ⟨v, e1, p v F T H (.refl _ _ _) w (.inl r)⟩
      · rename_i q
        cases e
        obtain ⟨a, e1, r, f, n, _⟩ := eo.at_ i _ q
        exact ⟨.ref a, e1, p _ F T H (.refl _ _ _) w (.inr ⟨a, rfl, r, f, n⟩)⟩
      · cases e
/-- a flat value as a V -/
def vOf : D → Option V
  | .non => some .non
  | .bl b => some (.bl b)
  | .int i => some (.int i)
  | .str x => some (.str x)
  | _ => none
theorem vOf_rep {K : PySem.W.Frag} {F : Hp} {T : List Addr} {d : D} {v : V} (h : vOf d = some v) : Rep K F T v d := by
  cases d <;> first | (cases h; constructor) | cases h
theorem s_const {e : Expr} {ir : E} {d : D} {v : V} (he : PE X e (tC v)) (h : vOf d = some v) (hi : ∀ env st, evE C env ir st = .ok d st) : PE X e (tE X.K W C ir) :=
  impE he fun σ H Q ⟨F, T, st, env, w, eo, p⟩ => by
    have p : Post X.K W σ F T H (rV X.K) (evE C env ir st) Q := p
    rw [hi] at p
    exact p v F T H (.refl _ _ _) w (vOf_rep h)
theorem s_fn {x : Str} {pos : Pos} (hg : Gl X x) (hm : X.mg x = some (.ref (He.ga X.K x))) (hd : (x == ("__debug__" : Str)) = false) : PE X (.Name x pos) (tE X.K W C (.fn x)) :=
  impE (pe_glob (v := .ref (He.ga X.K x)) hg hm rfl hd) fun σ H Q ⟨F, T, st, env, w, eo, p⟩ => p _ F T H (.refl _ _ _) w .fn

/-! ### operators -/
/-- behind two operands -/
theorem two {ea eb : E} {α β : Type} {R : RR α β} {f : Env → D → D → Store → Out α} {σ : L2.St} {H : Hp} {Q : β → Hp → Prop} (sh : Sh R)
    (h : tX X.K W R (fun env st => (bor env ea (evE C env ea) st).bnd fun x st => (bor env eb (evE C env eb) st).bnd fun y st => f env x y st) σ H Q) :
    tB X.K W C ea σ H fun x H1 => tB X.K W C eb σ H1 fun y H2 => ∃ F T st env dx dy, WF X.K F T st H2 ∧ EnvOk X.K W.xi F T H2 env σ ∧ Bor X.K F T H2 x dx ∧ Bor X.K F T H2 y dy ∧ Post X.K W σ F T H2 R (f env dx dy st) Q := by
  obtain ⟨F, T, st, env, w, eo, p⟩ := h
  refine ⟨F, T, st, env, w, eo, ?_⟩
  refine (Post.bnd (R1 := rBo X.K) sh p).mono fun x H1 ⟨F1, T1, st1, dx, x1, w1, r1, p1⟩ => ?_
  refine ⟨F1, T1, st1, env, w1, eo.ext x1, ?_⟩
  refine (Post.bnd (R1 := rBo X.K) sh p1).mono fun y H2 ⟨F2, T2, st2, dy, x2, w2, r2, p2⟩ => ?_
  exact ⟨F2, T2, st2, env, dx, dy, w2, (eo.ext x1).ext x2, Bor.ext r1 x2, r2, p2⟩
theorem cont_of {F H : Hp} {T : List Addr} {st : Store} {R : RR D V} {o : Option D} {σ : L2.St} {Q : VK} (p : Post X.K W σ F T H R (ofO o st) Q) : ∃ d, o = some d ∧ Cont X.K F T st H R d Q := by
  cases o with
  | none => exact p.elim
  | some d => exact ⟨d, rfl, p⟩
theorem s_bin {op : Operator} {a b : Expr} {ea eb : E} {pos : Pos} (ha : PE X a (tB X.K W C ea)) (hb : PE X b (tB X.K W C eb)) : PE X (.BinOp a op b pos) (tDr X.K W C (.bin op ea eb)) :=
  impE (pe_op op_bin ha hb) fun σ H Q h => by
    obtain ⟨F, T, st, env, w, eo, p⟩ := two (f := fun env x y st => ofO (binD op x y) st) sh_D h
    refine ⟨F, T, st, env, w, eo, p.mono fun x H1 ⟨F1, T1, st1, env1, w1, eo1, p1⟩ => ⟨F1, T1, st1, env1, w1, eo1, p1.mono fun y H2 ⟨F2, T2, st2, env2, dx, dy, w2, eo2, bx, by_, p2⟩ => ?_⟩⟩
    obtain ⟨d, e, c⟩ := cont_of p2
    exact ⟨F2, T2, st2, dx, dy, d, w2, bx, by_, e, c⟩
theorem two_r2 {ea eb : E} {g : D → D → Option D} {R : RR D V} (sh : Sh R) {σ : L2.St} {H : Hp} {Q : VK}
    (h : tX X.K W R (fun env st => (bor env ea (evE C env ea) st).bnd fun x st => (bor env eb (evE C env eb) st).bnd fun y st => ofO (g x y) st) σ H Q) : L2.tOp (rOp2 X.K g R) (tB X.K W C ea) (tB X.K W C eb) σ H Q := by
  obtain ⟨F, T, st, env, w, eo, p⟩ := two (f := fun env x y st => ofO (g x y) st) sh h
  refine ⟨F, T, st, env, w, eo, p.mono fun x H1 ⟨F1, T1, st1, env1, w1, eo1, p1⟩ => ⟨F1, T1, st1, env1, w1, eo1, p1.mono fun y H2 ⟨F2, T2, st2, env2, dx, dy, w2, eo2, bx, by_, p2⟩ => ?_⟩⟩
  obtain ⟨d, e, c⟩ := cont_of p2
  exact ⟨F2, T2, st2, dx, dy, d, w2, bx, by_, e, c⟩
theorem s_cmp (hu : X.A.units + 65 < cLine) {op : CmpOp} {a b : Expr} {ea eb : E} {pos : Pos} (ha : PE X a (tB X.K W C ea)) (hb : PE X b (tB X.K W C eb)) (ok : okA b = true) : PE X (.Compare a [op] [b] pos) (tE X.K W C (.cmp op ea eb)) :=
  impE (pe_cmpR (op_cmpD hu) ha hb (okA_behind ok)) fun σ H Q h => two_r2 sh_V h
theorem bl_of {x y : D} {op : CmpOp} {d : D} (h : (cmpD op x y).map D.bl = some d) : ∃ b, d = .bl b := by
  obtain ⟨b, _, rfl⟩ := Option.map_eq_some_iff.mp h
  exact ⟨b, rfl⟩
theorem s_cmpT (hu : X.A.units + 65 < cLine) {op : CmpOp} {a b : Expr} {ea eb : E} {pos : Pos} (ha : PE X a (tB X.K W C ea)) (hb : PE X b (tB X.K W C eb)) (ok : okA b = true) : PT X (.Compare a [op] [b] pos) (tT X.K W C (.cmp op ea eb)) :=
  impT (pt_cmpR (op_cmpD hu) ha hb (okA_behind ok)) fun σ H Q ⟨F, T, st, env, w, eo, p⟩ => by
    refine two_r2 (Q := fun x H' => ∃ k, x = .bl k ∧ Q k H') sh_V ⟨F, T, st, env, w, eo, ?_⟩
    have p : Post X.K W σ F T H rEq (((bor env ea (evE C env ea) st).bnd fun x st => (bor env eb (evE C env eb) st).bnd fun y st => ofO ((cmpD op x y).map .bl) st).bnd fun d st => ofO (truthD d) st) Q := p
    show Post X.K W σ F T H (rV X.K) ((bor env ea (evE C env ea) st).bnd fun x st => (bor env eb (evE C env eb) st).bnd fun y st => ofO ((cmpD op x y).map .bl) st) _
    revert p
    cases bor env ea (evE C env ea) st with
    | bad => exact id
    | ex c ks ds st => exact id
    | ok x st1 =>
      rw [Out.bnd_ok]
      cases bor env eb (evE C env eb) st1 with
      | bad => exact id
      | ex c ks ds st => exact id
      | ok y st2 =>
        rw [Out.bnd_ok]
        cases e : (cmpD op x y).map D.bl with
        | none => exact id
        | some d =>
          obtain ⟨b, rfl⟩ := bl_of e
          intro p v F' T' H' x w r
          cases r
          exact ⟨b, rfl, p b F' T' H' x w rfl⟩
end
end Eng
set_option Elab.async false
set_option linter.all false
set_option maxRecDepth 100000
/-! Eng 8: more expressions -/
namespace Eng
open PySem PySem.Spec PyProof.Rows L2
section
variable {X : Cx} {W : WW} {C : Calls}
/-- one step of an evaluation -/
theorem one {α β γ δ : Type} {R : RR α β} {R1 : RR γ δ} {m : Env → Store → Out γ} {f : Env → γ → Store → Out α} {σ : L2.St} {H : Hp} {Q : β → Hp → Prop} (sh : Sh R)
    (h : tX X.K W R (fun env st => (m env st).bnd fun x st => f env x st) σ H Q) :
    tX X.K W R1 m σ H fun b H1 => ∃ F T st env a, (∀ p, H1 p = none → H p = none) ∧ WF X.K F T st H1 ∧ EnvOk X.K W.xi F T H1 env σ ∧ R1 H F T H1 a b ∧ Post X.K W σ F T H1 R (f env a st) Q :=
  tX.bnd (f := f) sh h
theorem truth_of {F H : Hp} {T : List Addr} {st : Store} {d : D} {v : V} {σ : L2.St} {Q : Bool → Hp → Prop} (w : WF X.K F T st H) (r : Rep X.K F T v d) (p : Post X.K W σ F T H rEq (ofO (truthD d) st) Q) : ∃ k, TruV X.K v H k ∧ Q k H := by
  cases e : truthD d with
  | none => rw [e] at p; exact p.elim
  | some k => rw [e] at p; exact ⟨k, tru_D w r e, p k F T H (.refl _ _ _) w rfl⟩
theorem s_truth {a : Expr} {e : E} (h : PE X a (tE X.K W C e)) (ok : okT a = true) (he : ∀ env, evT C env e = tst (evE C env e)) : PT X a (tT X.K W C e) :=
  impT (pt_truth h (okT_plain ok)) fun σ H Q ⟨F, T, st, env, w, eo, p⟩ => by
    have p : Post X.K W σ F T H rEq (evT C env e st) Q := p
    rw [he] at p
    refine ⟨F, T, st, env, w, eo, (Post.bnd (R1 := rV X.K) sh_Eq p).mono fun x H1 ⟨F1, T1, st1, d, x1, w1, r1, p1⟩ => truth_of w1 r1 p1⟩
theorem s_not {a : Expr} {e : E} {pos : Pos} (h : PE X a (tE X.K W C e)) : PE X (.UnaryOp .Not a pos) (tE X.K W C (.not e)) :=
  impE (pe_notT h) fun σ H Q ⟨F, T, st, env, w, eo, p⟩ => by
    have p : Post X.K W σ F T H (rV X.K) ((evE C env e st).bnd fun d st => (ofO (truthD d) st).bnd fun b st => .ok (.bl (!b)) st) Q := p
    refine ⟨F, T, st, env, w, eo, (Post.bnd (R1 := rV X.K) sh_V p).mono fun x H1 ⟨F1, T1, st1, d, x1, w1, r1, p1⟩ => ?_⟩
    cases q : truthD d with
    | none => rw [q] at p1; exact p1.elim
    | some k => rw [q] at p1; exact ⟨k, tru_D w1 r1 q, p1 _ F1 T1 H1 (.refl _ _ _) w1 (.bl _)⟩
theorem s_notT {a : Expr} {e : E} {pos : Pos} (h : PT X a (tT X.K W C e)) : PT X (.UnaryOp .Not a pos) (tT X.K W C (.not e)) :=
  impT (pt_not h) fun σ H Q ⟨F, T, st, env, w, eo, p⟩ => by
    have p : Post X.K W σ F T H rEq ((evT C env e st).bnd fun b st => .ok (!b) st) Q := p
    refine ⟨F, T, st, env, w, eo, (Post.bnd (R1 := rEq) sh_Eq p).mono fun x H1 ⟨F1, T1, st1, d, x1, w1, r1, p1⟩ => ?_⟩
    have r1 : d = x := r1
    subst r1
    exact p1 _ F1 T1 H1 (.refl _ _ _) w1 rfl
theorem s_neg {a : Expr} {e : E} {pos : Pos} (h : PE X a (tE X.K W C e)) : PE X (.UnaryOp .USub a pos) (tE X.K W C (.neg e)) :=
  impE (pe_un un_neg h) fun σ H Q ⟨F, T, st, env, w, eo, p⟩ => by
    have p : Post X.K W σ F T H (rV X.K) ((evE C env e st).bnd fun x st => (match x with | .int i => .ok (.int (-i)) st | _ => .bad)) Q := p
    refine ⟨F, T, st, env, w, eo, (Post.bnd (R1 := rV X.K) sh_V p).mono fun x H1 ⟨F1, T1, st1, d, x1, w1, r1, p1⟩ => ?_⟩
    cases d with
    | int i => cases r1; exact ⟨i, rfl, p1 _ F1 T1 H1 (.refl _ _ _) w1 (.int _)⟩
    | _ => exact p1.elim
theorem s_ife {c a b : Expr} {ec ea eb : E} {pos : Pos} (hc : PT X c (tT X.K W C ec)) (ha : PE X a (tE X.K W C ea)) (hb : PE X b (tE X.K W C eb)) : PE X (.IfExp c a b pos) (tE X.K W C (.ife ec ea eb)) :=
  impE (pe_ifExp hc ha hb) fun σ H Q ⟨F, T, st, env, w, eo, p⟩ => by
    have p : Post X.K W σ F T H (rV X.K) ((evT C env ec st).bnd fun r st => (match r with | true => evE C env ea st | false => evE C env eb st)) Q := p
    refine ⟨F, T, st, env, w, eo, (Post.bnd (R1 := rEq) sh_V p).mono fun x H1 ⟨F1, T1, st1, d, x1, w1, r1, p1⟩ => ?_⟩
    have r1 : d = x := r1
    subst r1
    cases d with
    | true => exact iteT ⟨F1, T1, st1, env, w1, eo.ext x1, p1⟩
    | false => exact iteF ⟨F1, T1, st1, env, w1, eo.ext x1, p1⟩
theorem chain_rd {op op' : CmpOp} {ea eb ec : E} {σ : L2.St} {H : Hp} {Q : VK} (h : tE X.K W C (.cmp2 op op' ea eb ec) σ H Q) :
    tChain (rOp2 X.K (fun x y => (cmpD op x y).map .bl) (rV X.K)) (rOp2 X.K (fun x y => (cmpD op' x y).map .bl) (rV X.K)) (tE X.K W C ea) (tE X.K W C eb) (tE X.K W C ec) σ H Q := by
  obtain ⟨F, T, st, env, w, eo, p⟩ := h
  have p : Post X.K W σ F T H (rV X.K) ((evE C env ea st).bnd fun x st => (evE C env eb st).bnd fun y st => (ofO (cmpD op x y) st).bnd fun r st => (match r with
    | true => (evE C env ec st).bnd fun z st => ofO ((cmpD op' y z).map .bl) st
    | false => .ok (.bl false) st)) Q := p
  refine ⟨F, T, st, env, w, eo, (Post.bnd (R1 := rV X.K) sh_V p).mono fun x H1 ⟨F1, T1, st1, dx, x1, w1, r1, p1⟩ => ?_⟩
  refine ⟨F1, T1, st1, env, w1, eo.ext x1, (Post.bnd (R1 := rV X.K) sh_V p1).mono fun y H2 ⟨F2, T2, st2, dy, x2, w2, r2, p2⟩ => ?_⟩
  have r1' : Rep X.K F2 T2 x dx := Rep.mono x2.fr x2.pre r1
  cases q : cmpD op dx dy with
  | none => rw [q] at p2; exact p2.elim
  | some k =>
    rw [q] at p2
    refine ⟨F2, T2, st2, dx, dy, .bl k, w2, .inl r1', .inl r2, by show (cmpD op dx dy).map D.bl = some (D.bl k); rw [q]; rfl, fun v F' T' H' x' w' r' => ?_⟩
    have r' : Rep X.K F' T' v (.bl k) := r'
    cases r'
    refine ⟨k, rfl, ?_⟩
    have p3 := Post.shift sh_V x' p2
    cases k with
    | false => exact iteF (p3 _ _ _ _ (.refl _ _ _) w' (.bl _))
    | true =>
      refine iteT ?_
      refine ⟨F', T', st2, env, w', ((eo.ext x1).ext x2).ext x', (Post.bnd (R1 := rV X.K) sh_V p3).mono fun z H3 ⟨F3, T3, st3, dz, x3, w3, r3, p4⟩ => ?_⟩
      obtain ⟨d, e, c⟩ := cont_of p4
      exact ⟨F3, T3, st3, dy, dz, d, w3, .inl (Rep.mono (x'.fr.trans x3.fr) (x'.pre.trans x3.pre) r2), .inl r3, e, c⟩
theorem s_cmp2 (hu : X.A.units + 65 < cLine) {op op' : CmpOp} {a b c : Expr} {ea eb ec : E} {pos : Pos} (ha : PE X a (tE X.K W C ea)) (hb : PE X b (tE X.K W C eb)) (hc : PE X c (tE X.K W C ec)) (okc : okA c = true) :
    PE X (.Compare a [op, op'] [b, c] pos) (tE X.K W C (.cmp2 op op' ea eb ec)) :=
  impE (pe_chain (op_cmpD hu) (op_cmpD hu) ha hb hc (show lastMarks [op'] [c] = false from okA_behind okc)) fun σ H Q h => chain_rd h
theorem s_cmp2T (hu : X.A.units + 65 < cLine) {op op' : CmpOp} {a b c : Expr} {ea eb ec : E} {pos : Pos} (ha : PE X a (tE X.K W C ea)) (hb : PE X b (tE X.K W C eb)) (hc : PE X c (tE X.K W C ec)) (okc : okA c = true) :
    PT X (.Compare a [op, op'] [b, c] pos) (tT X.K W C (.cmp2 op op' ea eb ec)) :=
  impT (pt_chain (op_cmpD hu) (op_cmpD hu) ha hb hc (show lastMarks [op'] [c] = false from okA_behind okc)) fun σ H Q ⟨F, T, st, env, w, eo, p⟩ => by
    refine chain_rd ⟨F, T, st, env, w, eo, ?_⟩
    have p : Post X.K W σ F T H rEq ((evE C env (.cmp2 op op' ea eb ec) st).bnd fun d st => ofO (truthD d) st) Q := p
    have hb : ∀ d st', evE C env (.cmp2 op op' ea eb ec) st = .ok d st' → ∃ k, d = .bl k := by
      intro d st'
      show ((evE C env ea st).bnd fun x st => (evE C env eb st).bnd fun y st => (ofO (cmpD op x y) st).bnd fun r st => (match r with
        | true => (evE C env ec st).bnd fun z st => ofO ((cmpD op' y z).map .bl) st
        | false => .ok (.bl false) st)) = .ok d st' → _
      cases evE C env ea st with
      | bad => intro h; cases h
      | ex c ks ds st => intro h; cases h
      | ok x st1 =>
        rw [Out.bnd_ok]
        cases evE C env eb st1 with
        | bad => intro h; cases h
        | ex c ks ds st => intro h; cases h
        | ok y st2 =>
          rw [Out.bnd_ok]
          cases cmpD op x y with
          | none => intro h; cases h
          | some k =>
            cases k with
            | false => intro h; cases h; exact ⟨_, rfl⟩
            | true =>
              show ((evE C env ec st2).bnd fun z st => ofO ((cmpD op' y z).map .bl) st) = .ok d st' → _
              cases evE C env ec st2 with
              | bad => intro h; cases h
              | ex c ks ds st => intro h; cases h
              | ok z st3 =>
                rw [Out.bnd_ok]
                cases e : (cmpD op' y z).map D.bl with
                | none => intro h; cases h
                | some b => intro h; cases h; exact bl_of e
    show Post X.K W σ F T H (rV X.K) (evE C env (.cmp2 op op' ea eb ec) st) _
    revert p hb
    cases evE C env (.cmp2 op op' ea eb ec) st with
    | bad => exact fun p _ => p
    | ex c ks ds st => exact fun p _ => p
    | ok d st' =>
      intro p hb
      obtain ⟨k, rfl⟩ := hb d st' rfl
      intro v F' T' H' x w r
      cases r
      exact ⟨k, rfl, p k F' T' H' x w rfl⟩

/-! ### and, or -/
theorem s_one {op : BoolOp} {a : Expr} {e : E} {pos : Pos} (h : PE X a (tE X.K W C e)) (f : Es → E) (hf : ∀ env, evE C env (f (.cons e .nil)) = fun st => (evE C env e st).bnd fun d st => .ok d st) : PE X (.BoolOp op [a] pos) (tE X.K W C (f (.cons e .nil))) :=
  impE (pe_one h) fun σ H Q ⟨F, T, st, env, w, eo, p⟩ => by
    refine ⟨F, T, st, env, w, eo, ?_⟩
    have p : Post X.K W σ F T H (rV X.K) (evE C env (f (.cons e .nil)) st) Q := p
    rw [hf] at p
    show Post X.K W σ F T H (rV X.K) (evE C env e st) Q
    have p : Post X.K W σ F T H (rV X.K) ((evE C env e st).bnd fun d st => Out.ok d st) Q := p
    revert p
    cases evE C env e st <;> exact fun p => p
theorem s_and {a b : Expr} {rest : List Expr} {ea eb : E} {es : Es} {pos : Pos} (ha : PE X a (tE X.K W C ea)) (hb : PE X (.BoolOp .And (b :: rest) pos) (tE X.K W C (.and (.cons eb es)))) :
    PE X (.BoolOp .And (a :: b :: rest) pos) (tE X.K W C (.and (.cons ea (.cons eb es)))) :=
  impE (pe_andT ha hb) fun σ H Q ⟨F, T, st, env, w, eo, p⟩ => by
    have p : Post X.K W σ F T H (rV X.K) ((evE C env ea st).bnd fun d st => (ofO (truthD d) st).bnd fun r st => (match r with | true => evE C env (.and (.cons eb es)) st | false => .ok d st)) Q := p
    refine ⟨F, T, st, env, w, eo, (Post.bnd (R1 := rV X.K) sh_V p).mono fun x H1 ⟨F1, T1, st1, d, x1, w1, r1, p1⟩ => ?_⟩
    cases q : truthD d with
    | none => rw [q] at p1; exact p1.elim
    | some k =>
      rw [q] at p1
      refine ⟨k, tru_D w1 r1 q, ?_⟩
      cases k with
      | true => exact iteT ⟨F1, T1, st1, env, w1, eo.ext x1, p1⟩
      | false => exact iteF (p1 _ F1 T1 H1 (.refl _ _ _) w1 r1)
theorem s_or {a b : Expr} {rest : List Expr} {ea eb : E} {es : Es} {pos : Pos} (ha : PE X a (tE X.K W C ea)) (hb : PE X (.BoolOp .Or (b :: rest) pos) (tE X.K W C (.or (.cons eb es)))) :
    PE X (.BoolOp .Or (a :: b :: rest) pos) (tE X.K W C (.or (.cons ea (.cons eb es)))) :=
  impE (pe_orT ha hb) fun σ H Q ⟨F, T, st, env, w, eo, p⟩ => by
    have p : Post X.K W σ F T H (rV X.K) ((evE C env ea st).bnd fun d st => (ofO (truthD d) st).bnd fun r st => (match r with | true => .ok d st | false => evE C env (.or (.cons eb es)) st)) Q := p
    refine ⟨F, T, st, env, w, eo, (Post.bnd (R1 := rV X.K) sh_V p).mono fun x H1 ⟨F1, T1, st1, d, x1, w1, r1, p1⟩ => ?_⟩
    cases q : truthD d with
    | none => rw [q] at p1; exact p1.elim
    | some k =>
      rw [q] at p1
      refine ⟨k, tru_D w1 r1 q, ?_⟩
      cases k with
      | true => exact iteT (p1 _ F1 T1 H1 (.refl _ _ _) w1 r1)
      | false => exact iteF ⟨F1, T1, st1, env, w1, eo.ext x1, p1⟩
/-- as tests -/
theorem w_and1 {a : Expr} {e : E} {pos : Pos} (h : PT X a (tT X.K W C e)) : PW X (.BoolOp .And [a] pos) (tT X.K W C (.and (.cons e .nil))) :=
  impW (pw_and1 h) fun σ H Q ⟨F, T, st, env, w, eo, p⟩ => by
    refine ⟨F, T, st, env, w, eo, ?_⟩
    have p : Post X.K W σ F T H rEq ((evT C env e st).bnd fun r st => .ok r st) Q := p
    show Post X.K W σ F T H rEq (evT C env e st) Q
    revert p
    cases evT C env e st <;> exact id
theorem w_or1 {a : Expr} {e : E} {pos : Pos} (h : PT X a (tT X.K W C e)) : PW X (.BoolOp .Or [a] pos) (tT X.K W C (.or (.cons e .nil))) :=
  impW (pw_or1 h) fun σ H Q ⟨F, T, st, env, w, eo, p⟩ => by
    refine ⟨F, T, st, env, w, eo, ?_⟩
    have p : Post X.K W σ F T H rEq ((evT C env e st).bnd fun r st => .ok r st) Q := p
    show Post X.K W σ F T H rEq (evT C env e st) Q
    revert p
    cases evT C env e st <;> exact id
theorem w_and {a b : Expr} {rest : List Expr} {ea eb : E} {es : Es} {pos : Pos} (ha : PT X a (tT X.K W C ea)) (hb : PW X (.BoolOp .And (b :: rest) pos) (tT X.K W C (.and (.cons eb es)))) :
    PW X (.BoolOp .And (a :: b :: rest) pos) (tT X.K W C (.and (.cons ea (.cons eb es)))) :=
  impW (pw_and ha hb) fun σ H Q ⟨F, T, st, env, w, eo, p⟩ => by
    have p : Post X.K W σ F T H rEq ((evT C env ea st).bnd fun r st => (match r with | true => evT C env (.and (.cons eb es)) st | false => .ok false st)) Q := p
    refine ⟨F, T, st, env, w, eo, (Post.bnd (R1 := rEq) sh_Eq p).mono fun x H1 ⟨F1, T1, st1, d, x1, w1, r1, p1⟩ => ?_⟩
    have r1 : d = x := r1
    subst r1
    cases d with
    | true => exact iteT ⟨F1, T1, st1, env, w1, eo.ext x1, p1⟩
    | false => exact iteF (p1 _ F1 T1 H1 (.refl _ _ _) w1 rfl)
theorem w_or {a b : Expr} {rest : List Expr} {ea eb : E} {es : Es} {pos : Pos} (ha : PT X a (tT X.K W C ea)) (hb : PW X (.BoolOp .Or (b :: rest) pos) (tT X.K W C (.or (.cons eb es)))) :
    PW X (.BoolOp .Or (a :: b :: rest) pos) (tT X.K W C (.or (.cons ea (.cons eb es)))) :=
  impW (pw_or ha hb) fun σ H Q ⟨F, T, st, env, w, eo, p⟩ => by
    have p : Post X.K W σ F T H rEq ((evT C env ea st).bnd fun r st => (match r with | true => .ok true st | false => evT C env (.or (.cons eb es)) st)) Q := p
    refine ⟨F, T, st, env, w, eo, (Post.bnd (R1 := rEq) sh_Eq p).mono fun x H1 ⟨F1, T1, st1, d, x1, w1, r1, p1⟩ => ?_⟩
    have r1 : d = x := r1
    subst r1
    cases d with
    | true => exact iteT (p1 _ F1 T1 H1 (.refl _ _ _) w1 rfl)
    | false => exact iteF ⟨F1, T1, st1, env, w1, eo.ext x1, p1⟩

/-! ### argument lists, displays -/
theorem s_nil : PA X [] (tEs X.K W C .nil) := impA pa_nil fun σ H Q ⟨F, T, st, env, w, eo, p⟩ => p _ F T H (.refl _ _ _) w .nil
theorem s_cons {a : Expr} {as : List Expr} {e : E} {es : Es} (ha : PE X a (tE X.K W C e)) (hr : PA X as (tEs X.K W C es)) (ok : okA a = true) : PA X (a :: as) (tEs X.K W C (.cons e es)) :=
  impA (pa_cons ha hr (okA_star ok)) fun σ H Q ⟨F, T, st, env, w, eo, p⟩ => by
    have p : Post X.K W σ F T H (rVs X.K) ((evE C env e st).bnd fun d st => (evEs C env es st).bnd fun ds st => .ok (d :: ds) st) Q := p
    refine ⟨F, T, st, env, w, eo, (Post.bnd (R1 := rV X.K) sh_Vs p).mono fun x H1 ⟨F1, T1, st1, d, x1, w1, r1, p1⟩ => ?_⟩
    refine ⟨F1, T1, st1, env, w1, eo.ext x1, (Post.bnd (R1 := rVs X.K) sh_Vs p1).mono fun xs H2 ⟨F2, T2, st2, ds, x2, w2, r2, p2⟩ => ?_⟩
    exact p2 _ F2 T2 H2 (.refl _ _ _) w2 (.cons (Rep.mono x2.fr x2.pre r1) r2)
theorem b_nil : PA X [] (tBs X.K W C .nil) := impA pa_nil fun σ H Q ⟨F, T, st, env, w, eo, p⟩ => p _ F T H (.refl _ _ _) w .nil
theorem b_cons {a : Expr} {as : List Expr} {e : E} {es : Es} (ha : PE X a (tB X.K W C e)) (hr : PA X as (tBs X.K W C es)) (ok : okA a = true) : PA X (a :: as) (tBs X.K W C (.cons e es)) :=
  impA (pa_cons ha hr (okA_star ok)) fun σ H Q ⟨F, T, st, env, w, eo, p⟩ => by
    have p : Post X.K W σ F T H (rBs X.K) ((bor env e (evE C env e) st).bnd fun d st => (evBs C env es st).bnd fun ds st => .ok (d :: ds) st) Q := p
    refine ⟨F, T, st, env, w, eo, (Post.bnd (R1 := rBo X.K) sh_Bs p).mono fun x H1 ⟨F1, T1, st1, d, x1, w1, r1, p1⟩ => ?_⟩
    refine ⟨F1, T1, st1, env, w1, eo.ext x1, (Post.bnd (R1 := rBs X.K) sh_Bs p1).mono fun xs H2 ⟨F2, T2, st2, ds, x2, w2, r2, p2⟩ => ?_⟩
    exact p2 _ F2 T2 H2 (.refl _ _ _) w2 (.cons (Bor.ext r1 x2) r2)
theorem chk_ok {α : Type} {b : Bool} {a : α} {st : Store} {o : Out α} {β : Type} {R : RR α β} {F H : Hp} {T : List Addr} {σ : L2.St} {Q : β → Hp → Prop} (p : Post X.K W σ F T H R (chkO b o) Q) : b = true ∧ Post X.K W σ F T H R o Q := by
  cases b with
  | true => exact ⟨rfl, p⟩
  | false => exact p.elim
theorem s_tup {as : List Expr} {es : Es} {k : Nat} {pos : Pos} (ha : PA X as (tEs X.K W C es)) : PE X (.Tuple as k pos) (tE X.K W C (.tup es)) :=
  impE (pe_tup ha) fun σ H Q ⟨F, T, st, env, w, eo, p⟩ => by
    have p : Post X.K W σ F T H (rV X.K) ((evEs C env es st).bnd fun ds st => chkO (decide (ds.length ≤ sizeLine)) (.ok (.tup ds) st)) Q := p
    refine ⟨F, T, st, env, w, eo, (Post.bnd (R1 := rVs X.K) sh_V p).mono fun xs H1 ⟨F1, T1, st1, ds, x1, w1, r1, p1⟩ => ?_⟩
    obtain ⟨c, p1⟩ := chk_ok (a := D.non) (st := st) p1
    have r1 : Reps X.K F1 T1 xs ds := r1
    exact ⟨by rw [r1.length]; exact of_decide_eq_true c, fun q hq => p1 _ _ _ _ (Ext.new w1 hq) (w1.new hq) (new_tup w1 r1 hq)⟩
theorem s_lst {as : List Expr} {es : Es} {pos : Pos} (ha : PA X as (tEs X.K W C es)) : PE X (.List as pos) (tDr X.K W C (.lst es)) :=
  impE (pe_lst ha) fun σ H Q ⟨F, T, st, env, w, eo, p⟩ => by
    have p : Post X.K W σ F T H (rD X.K) ((evEs C env es st).bnd fun ds st => chkO (decide (ds.length ≤ sizeLine)) (.ok (.lst ds) st)) Q := p
    refine ⟨F, T, st, env, w, eo, (Post.bnd (R1 := rVs X.K) sh_D p).mono fun xs H1 ⟨F1, T1, st1, ds, x1, w1, r1, p1⟩ => ?_⟩
    obtain ⟨c, p1⟩ := chk_ok (a := D.non) (st := st) p1
    have r1 : Reps X.K F1 T1 xs ds := r1
    exact ⟨by rw [r1.length]; exact of_decide_eq_true c, fun q hq => Cont.lst w1 p1 r1 hq⟩

/-! ### items, slices -/
theorem s_ix (hu : X.A.units + 1 < cLine) {a i : Expr} {ea ei : E} {pos : Pos} (ha : PE X a (tB X.K W C ea)) (hi : PE X i (tE X.K W C ei)) (ok : okA i = true) : PE X (.Subscript a i pos) (tE X.K W C (.ix ea ei)) :=
  impE (pe_ix (ix_D hu) ha hi (okA_ix ok)) fun σ H Q ⟨F, T, st, env, w, eo, p⟩ => by
    have p : Post X.K W σ F T H (rV X.K) ((bor env ea (evE C env ea) st).bnd fun x st => (evE C env ei st).bnd fun k st => ofO ((deref st x).bind fun x => ixS x k) st) Q := p
    refine ⟨F, T, st, env, w, eo, (Post.bnd (R1 := rBo X.K) sh_V p).mono fun x H1 ⟨F1, T1, st1, dx, x1, w1, r1, p1⟩ => ?_⟩
    refine ⟨F1, T1, st1, env, w1, eo.ext x1, (Post.bnd (R1 := rV X.K) sh_V p1).mono fun y H2 ⟨F2, T2, st2, dy, x2, w2, r2, p2⟩ => ?_⟩
    obtain ⟨d, e, c⟩ := cont_of p2
    obtain ⟨dx', e1, e2⟩ := Option.bind_eq_some_iff.mp e
    exact ⟨F2, T2, st2, dx, dx', dy, d, w2, Bor.ext r1 x2, .inl r2, e1, e2, c⟩
theorem o_none : PO X none (tOp X.K W C .no) := impO po_none fun σ H Q ⟨F, T, st, env, w, eo, p⟩ => p _ F T H (.refl _ _ _) w rfl
theorem o_some {a : Expr} {e : E} (h : PE X a (tE X.K W C e)) : PO X (some a) (tOp X.K W C (.so e)) :=
  impO (po_some h) fun σ H Q ⟨F, T, st, env, w, eo, p⟩ => by
    have p : Post X.K W σ F T H rEq ((evE C env e st).bnd fun d st => (match d with | .int i => .ok (some i) st | _ => .bad)) Q := p
    refine ⟨F, T, st, env, w, eo, (Post.bnd (R1 := rV X.K) sh_Eq p).mono fun x H1 ⟨F1, T1, st1, d, x1, w1, r1, p1⟩ => ?_⟩
    cases d with
    | int i => cases r1; exact ⟨i, rfl, p1 _ F1 T1 H1 (.refl _ _ _) w1 rfl⟩
    | _ => exact p1.elim
theorem s_sl {a : Expr} {lo hi : Option Expr} {ea : E} {el eh : Op} {p2 pos : Pos} (ha : PE X a (tB X.K W C ea)) (hl : PO X lo (tOp X.K W C el)) (hh : PO X hi (tOp X.K W C eh)) : PE X (.Subscript a (.Slice lo hi none p2) pos) (tDr X.K W C (.sl ea el eh)) :=
  impE (pe_slice sl_D ha hl hh) fun σ H Q ⟨F, T, st, env, w, eo, p⟩ => by
    have p : Post X.K W σ F T H (rD X.K) ((bor env ea (evE C env ea) st).bnd fun x st => (evO C env el st).bnd fun l st => (evO C env eh st).bnd fun h st => ofO (slD x l h) st) Q := p
    refine ⟨F, T, st, env, w, eo, (Post.bnd (R1 := rBo X.K) sh_D p).mono fun x H1 ⟨F1, T1, st1, dx, x1, w1, r1, p1⟩ => ?_⟩
    refine ⟨F1, T1, st1, env, w1, eo.ext x1, (Post.bnd (R1 := rEq) sh_D p1).mono fun l H2 ⟨F2, T2, st2, l', x2, w2, r2, p2⟩ => ?_⟩
    have r2 : l' = l := r2
    subst r2
    refine ⟨F2, T2, st2, env, w2, (eo.ext x1).ext x2, (Post.bnd (R1 := rEq) sh_D p2).mono fun h H3 ⟨F3, T3, st3, h', x3, w3, r3, p3⟩ => ?_⟩
    have r3 : h' = h := r3
    subst r3
    obtain ⟨d, e, c⟩ := cont_of p3
    exact ⟨F3, T3, st3, dx, d, w3, (Bor.ext r1 x2).ext x3, e, c⟩

/-! ### calls of built-ins -/
theorem s_bi {b : String} {f : Str} {id : String} {a : Expr} {as : List Expr} {es : Es} {p pos : Pos} (hc : CallR X (.builtin id) (rBi X.K b)) (hg : Gl X f) (hm : X.mg f = none) (hv : bootBuiltins f = some (.builtin id)) (ha : PA X (a :: as) (tBs X.K W C es))
    (ok : okA a = true) (oks : okAs as = true) (hn : f ≠ "__name__") (hd : (f == ("__debug__" : Str)) = false) : PE X (.Call (.Name f p) (a :: as) [] pos) (tDr X.K W C (.bi b es)) :=
  impE (pe_callB hc hg hm hv ha hn hd (okA_star ok) (okAs_plain oks)) fun σ H Q ⟨F, T, st, env, w, eo, p⟩ => by
    have p : Post X.K W σ F T H (rD X.K) ((evBs C env es st).bnd fun ds st => ofO (biD b ds) st) Q := p
    refine ⟨F, T, st, env, w, eo, (Post.bnd (R1 := rBs X.K) sh_D p).mono fun vs H1 ⟨F1, T1, st1, ds, x1, w1, r1, p1⟩ => ?_⟩
    obtain ⟨d, e, c⟩ := cont_of p1
    exact ⟨F1, T1, st1, ds, d, w1, r1, e, c⟩
theorem s_biT {b : String} {f : Str} {id : String} {a : Expr} {as : List Expr} {es : Es} {p pos : Pos} (hc : CallR X (.type id) (rBi X.K b)) (hg : Gl X f) (hm : X.mg f = none) (hv : bootBuiltins f = some (.type id)) (ha : PA X (a :: as) (tBs X.K W C es))
    (ok : okA a = true) (oks : okAs as = true) (hn : f ≠ "__name__") (hd : (f == ("__debug__" : Str)) = false) : PE X (.Call (.Name f p) (a :: as) [] pos) (tDr X.K W C (.bi b es)) :=
  impE (pe_callTy hc hg hm hv ha hn hd (okA_star ok) (okAs_plain oks)) fun σ H Q ⟨F, T, st, env, w, eo, p⟩ => by
    have p : Post X.K W σ F T H (rD X.K) ((evBs C env es st).bnd fun ds st => ofO (biD b ds) st) Q := p
    refine ⟨F, T, st, env, w, eo, (Post.bnd (R1 := rBs X.K) sh_D p).mono fun vs H1 ⟨F1, T1, st1, ds, x1, w1, r1, p1⟩ => ?_⟩
    obtain ⟨d, e, c⟩ := cont_of p1
    exact ⟨F1, T1, st1, ds, d, w1, r1, e, c⟩
end
end Eng
set_option Elab.async false
set_option linter.all false
set_option maxRecDepth 100000
/-! Eng 9: what is gone through -/
namespace Eng
open PySem PySem.Spec PyProof.Rows L2

/-! ### a list, a tuple or a text, by what it is -/
def iAny (K : PySem.W.Frag) (te : TE) : TI := fun σ H R => te σ H fun x H1 =>
  (∃ a xs, x = .ref a ∧ SqL K H1 a xs ∧ (xs.length ≤ sizeLine → R (Itl K a) H1)) ∨ (∃ a xs, x = .ref a ∧ SqT K H1 a xs ∧ (xs.length ≤ sizeLine → R (Itt K a) H1)) ∨ ∃ z, x = .str z ∧ R (Its z) H1
section
variable {X : Cx} {tg : Expr}
theorem pi_any {e : Expr} {te : TE} (he : PE X e te) : PI X tg e (iAny X.K te) := by
  refine ⟨fun pins s σ H R I h => thn (he.run pins s σ H _ I h) fun u s1 ⟨x, H1, I1, rx, q⟩ => ?_⟩
  rcases q with ⟨a, xs, rfl, hq, q⟩ | ⟨a, xs, rfl, hq, q⟩ | ⟨z, rfl, q⟩
  · obtain rfl : u = Value.ref a := rx
    obtain ⟨its, _, pl, hz⟩ := I1.list hq
    exact wpAny_pyIter_list pl.isList (pi_one (tk := s1.toks) I1 _ (turn_list a _) ⟨_, Heap.get?_push_size _ rfl, rfl, rfl⟩ (q hz))
  · obtain rfl : u = Value.ref a := rx
    obtain ⟨its, _, pt, hz⟩ := I1.tuple hq
    have pt' : s1.heap.IsTuple a its.toArray := pt
    exact wpAny_pyIter_tuple pt' (pi_one (tk := s1.toks) I1 _ (turn_tuple a _) ⟨_, Heap.get?_push_size _ rfl, rfl, rfl⟩ (q hz))
  · obtain ⟨t, rfl⟩ : ∃ t, u = Value.str z t := rx
    by_cases low : z.cps.all (· < 128) = true
    · exact wpAny_pyIter_ascii low (pi_one (tk := s1.toks) I1 _ (turn_str _ z t _ (.inl rfl)) ⟨_, Heap.get?_push_size _ rfl, rfl, rfl⟩ q)
    · exact wpAny_pyIter_wide (by simpa using low) (pi_one (tk := s1.toks) I1 _ (turn_str _ z t _ (.inr rfl)) ⟨_, Heap.get?_push_size _ rfl, rfl, rfl⟩ q)
end

/-! ### enumerate of a tuple -/
section
set_option maxHeartbeats 1000000
theorem new_enum_of {v : Value} {o : Obj} {G : Heap → Prop} (B : Begins v o G) :
    Meets (Builtin.«enumerate.__new__» ⟨[.type "enumerate", v], []⟩) (fun _ R s => G s.heap ∧
      R (.ok (.ret (.ref (s.heap.push o).objs.size))) { s with heap := (s.heap.push o).push { cls := .type "enumerate", data := .fields #[.none, .bool false, .ref s.heap.objs.size, rawInt 0, .none, .none] } }) := by
  refine .of_wp fun prog w A R s hyp => ?_
  obtain ⟨hp, gs, dr, tk, os⟩ := s
  obtain ⟨g, hyp⟩ := hyp
  have sub := sub_enumerate
  have begin_ : ∀ {A' : Around} {E : Value → Shared → Prop} {Q : Value → Shared → Prop}, Q (.ref hp.objs.size) ⟨hp.push o, gs, dr, tk, os⟩ → wpAny (model prog w) A' (pyIter v) Q E ⟨hp, gs, dr, tk, os⟩ := fun q => B.iter prog w _ _ ⟨hp, gs, dr, tk, os⟩ _ g q
  wp_walk using begin_
  refine wpAny_stack_any fun st => wpAny_pure ?_
  split
  · rename_i cl _ _ _ _ _
    cases (cl == Value.type "enumerate") <;> (wp_walk using begin_; exact ⟨_, rfl, hyp⟩)
  · wp_walk using begin_
    exact ⟨_, rfl, hyp⟩
end
section
variable {prog : Program} {w : World} {A : Around} {E : Value → Shared → Prop} {s : Shared}
theorem call_enum_of {v : Value} {o : Obj} {G : Heap → Prop} {Q : Value → Shared → Prop} (B : Begins v o G) (g : G s.heap)
    (h : ∀ h', IsEnum h' (s.heap.objs.size + 1) s.heap.objs.size 0 .none → h'.get? s.heap.objs.size = some o → (∀ b u, s.heap.get? b = some u → h'.get? b = some u) → Q (.ref (s.heap.objs.size + 1)) { s with heap := h' }) :
    wpAny (model prog w) A (call (.type "enumerate") [v]) Q E s := by
  refine callType_new F.called_enumerate (by decide) (F.typeCall_enumerate_1 _) (F.newCall_enumerate_1 _) (fun ob => F.args_object_init_2 ob _) F.entry_enumerate_new (new_enum_of B) ⟨g, ?_⟩
  have hz : (s.heap.push o).objs.size = s.heap.objs.size + 1 := Heap.size_push ..
  have en : IsEnum ((s.heap.push o).push { cls := .type "enumerate", data := .fields #[.none, .bool false, .ref s.heap.objs.size, rawInt 0, .none, .none] }) (s.heap.objs.size + 1) s.heap.objs.size 0 .none := by
    unfold IsEnum
    rw [← hz]
    exact Heap.get?_push_size _ rfl
  show _ ∧ _
  rw [hz]
  exact ⟨⟨_, en, rfl⟩, h _ en (Heap.get?_push_of_some _ (Heap.get?_push_size _ B.free)) fun b u e => Heap.get?_push_of_some _ (Heap.get?_push_of_some _ e)⟩
end
/-- the tuple at a, each item in a new pair -/
def IteT (K : PySem.W.Frag) (a : Addr) : L2.It where
  go := fun i H => ∃ (xs : List V) (x : V), SqT K H a xs ∧ xs[i]? = some x
  yld := fun i H v H' => ∃ T x, v = .ref T ∧ H T = none ∧ H' = upd H T (.tup [.int (i : Nat), x]) ∧ ∀ xs, SqT K H a xs → xs[i]? = some x
  stop := fun i H => ∃ xs : List V, SqT K H a xs ∧ xs.length = i
/-- the text z, each sign in a new pair -/
def IteS (z : Str) : L2.It where
  go := fun i _ => i < z.cps.size
  yld := fun i H v H' => ∃ T c, v = .ref T ∧ H T = none ∧ H' = upd H T (.tup [.int (i : Nat), .str ⟨#[c]⟩]) ∧ z.cps[i]? = some c
  stop := fun i _ => z.cps.size = i
theorem apart_tup {h : Heap} {a it : Addr} {its : Array Value} {i : Nat} (p : h.IsTuple a its) (st : h.IsTupleIter it a i) : a ≠ it := by
  obtain ⟨o, e, c, _⟩ := p
  obtain ⟨o', e', c', _⟩ := st
  rintro rfl
  rw [e] at e'
  cases e'
  rw [c] at c'
  exact absurd c' (by decide)
section
variable {X : Cx} {pins : List (Addr × Obj)} {σ : L2.St} {H : Hp} {s : Shared}
/-- one turn of an enumerate -/
theorem enum_item {elts : List Expr} {kk : Nat} {tpos : Pos} {e it : Addr} {fp : List Addr} {n i : Nat} {P : Nat → Value → Prop} {St : Nat → Heap → Prop} {old : Value} {E : Value → Shared → Prop} {tn : Heap → Prop} {R : V → Hp → Prop}
    (I : Inv X pins σ H s) (hf : ∀ b ∈ [e, it], FpOk X pins H b) (D : Draws X.prog X.w X.A.in1 it fp n P St) (he : IsEnum s.heap e it ((i : Nat) : Int) old) (hst : St i s.heap) (hlt : i < n) (hne : e ≠ it) (hef : e ∉ fp)
    (q : ∀ u, P i u → ∃ x, RelV x u ∧ ∀ T, H T = none → R (.ref T) (upd H T (.tup [.int (i : Nat), x]))) (ht : ∀ h' old', IsEnum h' e it (((i + 1 : Nat)) : Int) old' → St (i + 1) h' → tn h') :
    wpAny (model X.prog X.w) X.A (pyNext (.ref e)) (fun r s1 => ∃ u, r = some u ∧
      wpAny (model X.prog X.w) X.A (letOwnedTupleGo (.Tuple elts kk tpos) (.ref e) u) (fun _ s2 => ∃ x H', Inv X pins σ H' s2 ∧ RelV x u ∧ R x H' ∧ tn s2.heap ∧ ∀ b ∈ [e, it], H' b = none) E s1) E s := by
  have eL : e < s.heap.objs.size := Heap.lt_size he
  have iL : it < s.heap.objs.size := by
    obtain ⟨_, y⟩ := D.live _ _ hst
    exact Heap.lt_size y
  refine wpAny_pyNext_enum_itemC D he hst hlt hne hef fun x h' tk px out st' hT sz kp => ⟨_, rfl, ?_⟩
  obtain ⟨xv, rx, qx⟩ := q x px
  refine wpAny_letOwnedTupleGo_enum (s := { s with heap := h', toks := tk + 1 }) out fun h2 en sb => ?_
  have hT2 : h2.get? s.heap.objs.size = some { cls := .type "tuple", data := .seq #[.int i tk, x] } := by
    rw [sb.2 _ (Nat.ne_of_gt eL)]
    exact hT
  have new : ObjOk X.prog X.w (upd H s.heap.objs.size (.tup [.int (i : Nat), xv])) h2 s.heap.objs.size (.tup [.int (i : Nat), xv]) := by
    refine ⟨?_, [.int i tk, x], ?_, _, hT2, rfl, _, rfl⟩
    · show 2 ≤ sizeLine
      rw [sizeLine_eq]
      omega
    · exact .cons ⟨_, rfl⟩ (.cons rx .nil)
  have hN : H s.heap.objs.size = none := I.hok.fresh (Nat.le_refl _)
  refine ⟨.ref s.heap.objs.size, _, I.turnedNew (ch := [e, it]) (fun b o hb y => ?_) hf (Nat.le_refl _) new, rfl, qx _ hN, ?_, fun b hb => ?_⟩
  · have b1 : b ≠ e := fun z => hb (by rw [z]; exact List.mem_cons_self)
    have b2 : b ≠ it := fun z => hb (by rw [z]; exact List.mem_cons_of_mem _ List.mem_cons_self)
    rw [sb.2 b b1]
    exact kp b o b1 b2 y
  · refine ht _ _ (by rw [show (((i + 1 : Nat)) : Int) = (i : Int) + 1 by omega]; exact en) (D.frame _ _ _ st' fun b hb o y => ?_)
    rw [sb.2 b (fun z => hef (z ▸ hb))]
    exact y
  · have lt : b < s.heap.objs.size := by
      rcases List.mem_cons.mp hb with z | z
      · rw [z]; exact eL
      · rw [List.mem_singleton.mp z]; exact iL
    rw [upd_ne (Nat.ne_of_lt lt)]
    exact (hf b hb).1
end
theorem mem2 {a b c : Addr} (h : c ∈ [a, b]) : c = a ∨ c = b := by simpa using h
theorem turn_enumT {P : Program} {w : World} {K : PySem.W.Frag} {elts : List Expr} {kk : Nat} {tpos : Pos} (a e it : Addr) :
    Turn P w K (.Tuple elts kk tpos) (IteT K a) [e, it] e (fun i h => (∃ old, IsEnum h e it ((i : Nat) : Int) old) ∧ h.IsTupleIter it a i ∧ e ≠ it) where
  mem := List.mem_cons_self
  obj := fun i h ⟨⟨old, en⟩, ⟨o, ho, _, hd⟩, _⟩ b hb => by
    rcases mem2 hb with rfl | rfl
    · exact ⟨_, en, fun v z => by cases (show Data.fields _ = Data.cell v from z)⟩
    · exact ⟨o, ho, fun v z => by rw [hd] at z; cases z⟩
  keep := fun i h h' ⟨⟨old, en⟩, ti, ne⟩ kp => ⟨⟨old, kp e List.mem_cons_self _ en⟩, ti.at fun o y => kp it (List.mem_cons_of_mem _ List.mem_cons_self) o y, ne⟩
  item := by
    intro X hP hw hK hc i pins s σ H E I hf st hg
    subst hP hw hK
    obtain ⟨⟨old, en⟩, ti, ne⟩ := st
    obtain ⟨xs, x, hq, hx⟩ := hg
    obtain ⟨its, rv, pt, _⟩ := I.tuple hq
    have pt' : s.heap.IsTuple a its.toArray := pt
    have hh : X.A.in1.handled = none := I.ok.hd hc
    have hz : i < its.toArray.size := by
      have := (List.getElem?_eq_some_iff.mp hx).1
      have := rv.length
      rw [List.size_toArray]
      omega
    have ea : e ≠ a := by
      rintro rfl
      obtain ⟨o, y, c, _⟩ := pt'
      rw [en] at y
      cases y
      exact absurd (show Value.type "enumerate" = Value.type "tuple" from c) (by decide)
    obtain ⟨u0, hu0, ru0⟩ := rv.get hx
    refine enum_item (R := (IteT X.K a).yld i H) (tn := fun h => (∃ old, IsEnum h e it (((i + 1 : Nat)) : Int) old) ∧ h.IsTupleIter it a (i + 1) ∧ e ≠ it) I hf (Draws.tuple hh it a (apart_tup pt' ti) its.toArray) en ⟨ti, pt'⟩ hz ne ?_ (fun u hu => ?_) fun h' old' en' st' => ⟨⟨_, en'⟩, st'.1, ne⟩
    · intro z
      rcases mem2 z with z | z
      · exact ne z
      · exact ea z
    · have e1 : u = u0 := by
        have hu : its.toArray[i]? = some u := hu
        rw [List.getElem?_toArray, hu0] at hu
        exact (Option.some.inj hu).symm
      subst e1
      exact ⟨x, ru0, fun T hT => ⟨T, x, rfl, hT, rfl, fun ys hy => by rw [I.tuple_inj hy hq]; exact hx⟩⟩
  done := by
    intro X hP hw hK hc i pins s σ H E I hf st hg
    subst hP hw hK
    obtain ⟨⟨old, en⟩, ti, ne⟩ := st
    obtain ⟨xs, hq, hx⟩ := hg
    obtain ⟨its, rv, pt, _⟩ := I.tuple hq
    have pt' : s.heap.IsTuple a its.toArray := pt
    have hh : X.A.in1.handled = none := I.ok.hd hc
    have hz : i = its.toArray.size := by
      have := rv.length
      rw [List.size_toArray]
      omega
    subst hz
    refine wpAny_pyNext_enum_endD (Draws.tuple hh it a (apart_tup pt' ti) its.toArray) en ⟨ti, pt'⟩ fun h' eb => ⟨rfl, ?_⟩
    obtain ⟨f0, f1, f2, f3, f4, f5⟩ := hf it (List.mem_cons_of_mem _ List.mem_cons_self)
    exact I.turned (t' := s.toks) (fun b o hb y => eb b o hb y) f0 f1 f3 f4 f5
  self := fun A i s Q E ⟨⟨_, en⟩, _⟩ h => wpAny_pyIter_enum en h
/-- enumerate of a text -/
theorem turn_enumS {P : Program} {w : World} {K : PySem.W.Frag} {elts : List Expr} {kk : Nat} {tpos : Pos} (z : Str) (t : Tok) (e it : Addr) :
    Turn P w K (.Tuple elts kk tpos) (IteS z) [e, it] e (fun i h => (∃ old, IsEnum h e it ((i : Nat) : Int) old) ∧ h.IsStrIter it (strIterType z) z t i ∧ e ≠ it) where
  mem := List.mem_cons_self
  obj := fun i h ⟨⟨old, en⟩, ⟨o, ho, _, hd⟩, _⟩ b hb => by
    rcases mem2 hb with rfl | rfl
    · exact ⟨_, en, fun v z => by cases (show Data.fields _ = Data.cell v from z)⟩
    · exact ⟨o, ho, fun v z => by rw [hd] at z; cases z⟩
  keep := fun i h h' ⟨⟨old, en⟩, ⟨o, ho, r⟩, ne⟩ kp => ⟨⟨old, kp e List.mem_cons_self _ en⟩, ⟨o, kp it (List.mem_cons_of_mem _ List.mem_cons_self) o ho, r⟩, ne⟩
  item := by
    intro X hP hw hK hc i pins s σ H E I hf st hg
    subst hP hw hK
    obtain ⟨⟨old, en⟩, ti, ne⟩ := st
    have hh : X.A.in1.handled = none := I.ok.hd hc
    have hz : i < z.cps.size := hg
    refine enum_item (R := (IteS z).yld i H) (tn := fun h => (∃ old, IsEnum h e it (((i + 1 : Nat)) : Int) old) ∧ h.IsStrIter it (strIterType z) z t (i + 1) ∧ e ≠ it) I hf (Draws.text hh it z t) en ti hz ne (fun q => ne (List.mem_singleton.mp q)) (fun u hu => ?_) fun h' old' en' st' => ⟨⟨_, en'⟩, st', ne⟩
    obtain ⟨c, tk, hc', rfl⟩ := hu
    exact ⟨.str ⟨#[c]⟩, ⟨tk, rfl⟩, fun T hT => ⟨T, c, rfl, hT, rfl, hc'⟩⟩
  done := by
    intro X hP hw hK hc i pins s σ H E I hf st hg
    subst hP hw hK
    obtain ⟨⟨old, en⟩, ti, ne⟩ := st
    have hh : X.A.in1.handled = none := I.ok.hd hc
    have hz : z.cps.size = i := hg
    subst hz
    refine wpAny_pyNext_enum_endD (Draws.text hh it z t) en ti fun h' eb => ⟨rfl, ?_⟩
    obtain ⟨f0, f1, f2, f3, f4, f5⟩ := hf it (List.mem_cons_of_mem _ List.mem_cons_self)
    exact I.turned (t' := s.toks) (fun b o hb y => eb b o hb y) f0 f1 f3 f4 f5
  self := fun A i s Q E ⟨⟨_, en⟩, _⟩ h => wpAny_pyIter_enum en h
def iEnumA (K : PySem.W.Frag) (ta : TA) : TI := fun σ H R => ta σ H fun vs H1 =>
  (∃ a xs, vs = [.ref a] ∧ SqL K H1 a xs ∧ (xs.length ≤ sizeLine → R (Ite K a) H1)) ∨ (∃ a xs, vs = [.ref a] ∧ SqT K H1 a xs ∧ (xs.length ≤ sizeLine → R (IteT K a) H1)) ∨ ∃ z, vs = [.str z] ∧ R (IteS z) H1
theorem fp_two {X : Cx} {pins : List (Addr × Obj)} {σ : L2.St} {H : Hp} {s : Shared} (I : Inv X pins σ H s) : ∀ b ∈ [s.heap.objs.size + 1, s.heap.objs.size], FpOk X pins H b := fun b hb => by
  have le : s.heap.objs.size ≤ b := by
    rcases mem2 hb with q | q
    · rw [q]; exact Nat.le_add_right _ _
    · rw [q]; exact Nat.le_refl _
  exact I.fpOk le (I.hok.fresh le)
theorem begins_text (z : Str) (t : Tok) : Begins (.str z t) { cls := .type (strIterType z), data := .fields #[.str z t, .int 0 0] } fun _ => True := ⟨fun _ _ _ _ _ _ _ q => wpAny_pyIter_strU q, fun _ _ _ _ => trivial, rfl⟩
theorem pi_enumA {X : Cx} {e : Expr} {ta : TA} {p pos tpos : Pos} {elts : List Expr} {kk : Nat} (hg : Gl X "enumerate") (hm : X.mg "enumerate" = none) (ha : PA X [e] ta) (hs : starEach [e] X.env = [(false, eval e X.env)]) :
    PI X (.Tuple elts kk tpos) (.Call (.Name "enumerate" p) [e] [] pos) (iEnumA X.K ta) := by
  refine ⟨fun pins s σ H R I h => Call_ (ld_blt I hg hm boot_enumerate (PyProof.Rows.callWith_type1 (thn (ha.run pos pins s σ H _ I h) fun us s1 ⟨vs, H1, I1, r1, q1⟩ => ?_) hs rfl))⟩
  rcases q1 with ⟨a, xs, rfl, hq, q⟩ | ⟨a, xs, rfl, hq, q⟩ | ⟨z, rfl, q⟩
  · obtain ⟨u, rfl, ru⟩ := vals1 r1
    obtain rfl : u = Value.ref a := ru
    obtain ⟨its, _, pl, hz⟩ := I1.list hq
    refine call_enumerate_list pl.isList fun h' en ti _ kp => wpAny_pyIter_enum en ?_
    exact ⟨s1.heap.objs.size + 1, _, _, Ite X.K a, H1, rfl, I1.kept (t' := s1.toks) kp, turn_enum a _ s1.heap.objs.size, ⟨⟨_, en⟩, ti, Nat.succ_ne_self _⟩, fp_two I1, q hz⟩
  · obtain ⟨u, rfl, ru⟩ := vals1 r1
    obtain rfl : u = Value.ref a := ru
    obtain ⟨its, _, pt, hz⟩ := I1.tuple hq
    have pt' : s1.heap.IsTuple a its.toArray := pt
    refine call_enum_of (begins_tuple a its.toArray) pt' fun h' en ti kp => wpAny_pyIter_enum en ?_
    exact ⟨s1.heap.objs.size + 1, _, _, IteT X.K a, H1, rfl, I1.kept (t' := s1.toks) kp, turn_enumT a _ s1.heap.objs.size, ⟨⟨_, en⟩, ⟨_, ti, rfl, rfl⟩, Nat.succ_ne_self _⟩, fp_two I1, q hz⟩
  · obtain ⟨u, rfl, ru⟩ := vals1 r1
    obtain ⟨t, rfl⟩ : ∃ t, u = Value.str z t := ru
    refine call_enum_of (begins_text z t) trivial fun h' en ti kp => wpAny_pyIter_enum en ?_
    exact ⟨s1.heap.objs.size + 1, _, _, IteS z, H1, rfl, I1.kept (t' := s1.toks) kp, turn_enumS z t _ s1.heap.objs.size, ⟨⟨_, en⟩, ⟨_, ti, rfl, rfl⟩, Nat.succ_ne_self _⟩, fp_two I1, q⟩

/-! ### what an iterator gives, as long as P stays -/
def Gives (K : PySem.W.Frag) (P : Hp → List Addr → Hp → Prop) (ds : List D) (J : L2.It) : Prop := ∀ F T st H, P F T H → WF K F T st H → ∀ i,
  (∀ d, ds[i]? = some d → J.go i H ∧ ∀ x H', J.yld i H x H' → ∃ F', Ext F T H F' T H' ∧ WF K F' T st H' ∧ Rep K F' T x d) ∧ (ds.length = i → J.stop i H)
def SrcL (K : PySem.W.Frag) (P : Hp → List Addr → Hp → Prop) (a : Addr) (ds : List D) : Prop := ∀ F T st H, P F T H → WF K F T st H → ∃ xs, SqL K H a xs ∧ Reps K F T xs ds
def SrcT (K : PySem.W.Frag) (P : Hp → List Addr → Hp → Prop) (a : Addr) (ds : List D) : Prop := ∀ F T st H, P F T H → WF K F T st H → ∃ xs, SqT K H a xs ∧ Reps K F T xs ds
section
variable {K : PySem.W.Frag} {P : Hp → List Addr → Hp → Prop} {a : Addr} {ds : List D}
theorem SrcL.gives (h : SrcL K P a ds) : Gives K P ds (Itl K a) := fun F T st H p w i => by
  obtain ⟨xs, hq, r⟩ := h F T st H p w
  refine ⟨fun d hd => ?_, fun hl => ⟨xs, hq, by rw [r.length]; omega⟩⟩
  obtain ⟨v, hv, rv⟩ := r.get hd
  refine ⟨⟨xs, v, hq, hv⟩, fun x H' ⟨e, hx⟩ => ?_⟩
  subst e
  have := hx xs hq
  rw [hv] at this
  cases this
  exact ⟨F, .refl _ _ _, w, rv⟩
theorem SrcT.gives (h : SrcT K P a ds) : Gives K P ds (Itt K a) := fun F T st H p w i => by
  obtain ⟨xs, hq, r⟩ := h F T st H p w
  refine ⟨fun d hd => ?_, fun hl => ⟨xs, hq, by rw [r.length]; omega⟩⟩
  obtain ⟨v, hv, rv⟩ := r.get hd
  refine ⟨⟨xs, v, hq, hv⟩, fun x H' ⟨e, hx⟩ => ?_⟩
  subst e
  have := hx xs hq
  rw [hv] at this
  cases this
  exact ⟨F, .refl _ _ _, w, rv⟩
theorem gives_str (z : Str) : Gives K P (z.cps.toList.map fun c => D.str ⟨#[c]⟩) (Its z) := fun F T st H p w i => by
  refine ⟨fun d hd => ?_, fun hl => ?_⟩
  · rw [List.getElem?_map] at hd
    obtain ⟨c, hc, rfl⟩ := Option.map_eq_some_iff.mp hd
    have hc' : z.cps[i]? = some c := by simpa using hc
    refine ⟨(Array.getElem?_eq_some_iff.mp hc').1, fun x H' ⟨e, c', h', hx⟩ => ?_⟩
    subst e hx
    rw [hc'] at h'
    cases h'
    exact ⟨F, .refl _ _ _, w, .str _⟩
  · show z.cps.size ≤ i
    rw [List.length_map, Array.length_toList] at hl
    omega
def numD (ds : List D) : List D := (List.range ds.length).zipWith (fun (k : Nat) d => D.tup [.int k, d]) ds
theorem numD_get {i : Nat} {d : D} (h : (numD ds)[i]? = some d) : ∃ d', ds[i]? = some d' ∧ d = .tup [.int (i : Nat), d'] := by
  unfold numD at h
  rw [List.getElem?_zipWith] at h
  cases e : ds[i]? with
  | none => rw [e] at h; cases h2 : (List.range ds.length)[i]? <;> rw [h2] at h <;> cases h
  | some d' =>
    have lt : i < ds.length := (List.getElem?_eq_some_iff.mp e).1
    rw [e, List.getElem?_range lt] at h
    cases h
    exact ⟨d', rfl, rfl⟩
theorem numD_length : (numD ds).length = ds.length := by
  unfold numD
  rw [List.length_zipWith, List.length_range, Nat.min_self]
theorem pair_new {F H : Hp} {T : List Addr} {st : Store} (w : WF K F T st H) {i : Nat} {v : V} {d : D} (r : Rep K F T v d) {p : Addr} (hp : H p = none) :
    ∃ F', Ext F T H F' T (upd H p (.tup [.int (i : Nat), v])) ∧ WF K F' T st (upd H p (.tup [.int (i : Nat), v])) ∧ Rep K F' T (.ref p) (.tup [.int (i : Nat), d]) :=
  ⟨_, Ext.new w hp, w.new hp, new_tup w (.cons (.int _) (.cons r .nil)) hp⟩
theorem SrcL.nums (h : SrcL K P a ds) : Gives K P (numD ds) (Ite K a) := fun F T st H p w i => by
  obtain ⟨xs, hq, r⟩ := h F T st H p w
  refine ⟨fun d hd => ?_, fun hl => ⟨xs, hq, by rw [r.length, ← hl, numD_length]; exact Nat.le_refl _⟩⟩
  obtain ⟨d', hd', rfl⟩ := numD_get hd
  obtain ⟨v, hv, rv⟩ := r.get hd'
  refine ⟨⟨xs, v, hq, hv⟩, fun x H' ⟨T', y, e1, e2, e3, hx⟩ => ?_⟩
  subst e1 e3
  have := hx xs hq
  rw [hv] at this
  cases this
  exact pair_new w rv e2
theorem SrcT.nums (h : SrcT K P a ds) : Gives K P (numD ds) (IteT K a) := fun F T st H p w i => by
  obtain ⟨xs, hq, r⟩ := h F T st H p w
  refine ⟨fun d hd => ?_, fun hl => ⟨xs, hq, by rw [r.length, ← hl, numD_length]⟩⟩
  obtain ⟨d', hd', rfl⟩ := numD_get hd
  obtain ⟨v, hv, rv⟩ := r.get hd'
  refine ⟨⟨xs, v, hq, hv⟩, fun x H' ⟨T', y, e1, e2, e3, hx⟩ => ?_⟩
  subst e1 e3
  have := hx xs hq
  rw [hv] at this
  cases this
  exact pair_new w rv e2
theorem nums_str (z : Str) : Gives K P (numD (z.cps.toList.map fun c => D.str ⟨#[c]⟩)) (IteS z) := fun F T st H p w i => by
  refine ⟨fun d hd => ?_, fun hl => ?_⟩
  · obtain ⟨d', hd', rfl⟩ := numD_get hd
    rw [List.getElem?_map] at hd'
    obtain ⟨c, hc, rfl⟩ := Option.map_eq_some_iff.mp hd'
    have hc' : z.cps[i]? = some c := by simpa using hc
    refine ⟨(Array.getElem?_eq_some_iff.mp hc').1, fun x H' ⟨T', c', e1, e2, e3, h'⟩ => ?_⟩
    subst e1 e3
    rw [hc'] at h'
    cases h'
    exact pair_new w (.str _) e2
  · rw [numD_length, List.length_map, Array.length_toList] at hl
    exact hl
theorem gives_rng (lo : Int) (n : Nat) : Gives K P ((List.range n).map fun (k : Nat) => D.int (lo + k)) (Itr lo n) := fun F T st H p w i => by
  refine ⟨fun d hd => ?_, fun hl => ?_⟩
  · rw [List.getElem?_map] at hd
    obtain ⟨k, hk, rfl⟩ := Option.map_eq_some_iff.mp hd
    obtain ⟨lt, e⟩ := List.getElem?_eq_some_iff.mp hk
    rw [List.getElem_range] at e
    subst e
    rw [List.length_range] at lt
    refine ⟨lt, fun x H' ⟨e, hx⟩ => ?_⟩
    subst e hx
    exact ⟨F, .refl _ _ _, w, .int _⟩
  · rw [List.length_map, List.length_range] at hl
    show n ≤ i
    omega
end
/-- frozen things -/
def PF (F0 : Hp) (T0 : List Addr) : Hp → List Addr → Hp → Prop := fun F T _ => Same F0 F ∧ Pre T0 T
def PX (F0 : Hp) (T0 : List Addr) (H0 : Hp) : Hp → List Addr → Hp → Prop := fun F T H => Ext F0 T0 H0 F T H
section
variable {K : PySem.W.Frag} {F H : Hp} {T : List Addr} {v : V} {ds : List D} {st : Store}
theorem srcL_rep (r : Rep K F T v (.lst ds)) : ∃ a, v = .ref a ∧ SrcL K (PF F T) a ds := by
  cases r with
  | lst q r => exact ⟨_, rfl, fun F' T' st H' ⟨sm, pr⟩ w => ⟨_, .inl (.inl (w.fr _ _ (sm _ _ q))), r.mono sm pr⟩⟩
theorem srcT_rep (r : Rep K F T v (.tup ds)) : ∃ a, v = .ref a ∧ SrcT K (PF F T) a ds := by
  cases r with
  | tup q r => exact ⟨_, rfl, fun F' T' st H' ⟨sm, pr⟩ w => ⟨_, sqT_mono w.fr (sqT_mono sm q), r.mono sm pr⟩⟩
theorem Gives.imp {P P' : Hp → List Addr → Hp → Prop} {J : L2.It} (h : Gives K P ds J) (i : ∀ F T H, P' F T H → P F T H) : Gives K P' ds J := fun F T st H p w => h F T st H (i _ _ _ p) w
theorem px_pf {F' H' : Hp} {T' : List Addr} (x : PX F T H F' T' H') : PF F T F' T' H' := ⟨x.fr, x.pre⟩
theorem srcL_bor (r : Bor K F T H v (.lst ds)) : ∃ a, v = .ref a ∧ SrcL K (PX F T H) a ds := by
  rcases r with r | ⟨a, e, ⟨xs, e2, r⟩, f, n⟩
  · obtain ⟨a, e, s⟩ := srcL_rep r
    exact ⟨a, e, fun F' T' st H' x w => s F' T' st H' (px_pf x) w⟩
  · exact ⟨a, e, fun F' T' st H' x w => ⟨xs, .inl (.inl (x.keep a _ e2 n)), r.mono x.fr x.pre⟩⟩
theorem srcT_bor (r : Bor K F T H v (.tup ds)) : ∃ a, v = .ref a ∧ SrcT K (PX F T H) a ds := by
  rcases r with r | ⟨a, e, r, f, n⟩
  · obtain ⟨a, e, s⟩ := srcT_rep r
    exact ⟨a, e, fun F' T' st H' x w => s F' T' st H' (px_pf x) w⟩
  · exact r.elim
end
end Eng
set_option Elab.async false
set_option linter.all false
set_option maxRecDepth 100000
/-! Eng 10: iterators as readings, targets, list comprehensions -/
namespace Eng
open PySem PySem.Spec PyProof.Rows L2

/-! ### iterators -/
/-- behind an iterator's making: what it gives, as long as nothing is changed -/
def rIt (K : PySem.W.Frag) : RR (List D) L2.It := fun _ F T H ds J => Gives K (PX F T H) ds J ∧ ds.length ≤ sizeLine
/-- the same of things that stay -/
def rItF (K : PySem.W.Frag) : RR (List D) L2.It := fun _ F T _ ds J => Gives K (PF F T) ds J ∧ ds.length ≤ sizeLine
theorem sh_It {K : PySem.W.Frag} : Sh (rIt K) := fun _ _ _ _ _ _ _ _ h => h
theorem sh_ItF {K : PySem.W.Frag} : Sh (rItF K) := fun _ _ _ _ _ _ _ _ h => h
abbrev tI (K : PySem.W.Frag) (W : WW) (C : Calls) (it : It) : TI := tX K W (rIt K) fun env => evIt C env it
abbrev tIF (K : PySem.W.Frag) (W : WW) (C : Calls) (it : It) : TI := tX K W (rItF K) fun env => evItV C env it
theorem impI {X : Cx} {tg e : Expr} {t t' : TI} (h : PI X tg e t) (i : ∀ σ H R, t' σ H R → t σ H R) : PI X tg e t' := ⟨fun pins s σ H R I q => h.run pins s σ H R I (i σ H R q)⟩
theorem items_str {z : Str} (c : z.length ≤ sizeLine) : itemsD (.str z) = some (z.cps.toList.map fun c => D.str ⟨#[c]⟩) := if_pos c
theorem items_str' {z : Str} (c : ¬ z.length ≤ sizeLine) : itemsD (.str z) = none := if_neg c
theorem len_str (z : Str) : (z.cps.toList.map fun c => D.str ⟨#[c]⟩).length = z.length := by rw [List.length_map, Array.length_toList]; rfl
section
variable {K : PySem.W.Frag} {W : WW} {σ : L2.St} {F H : Hp} {T : List Addr} {st : Store} {R : L2.It → Hp → Prop}
/-- what any sequence gives -/
theorem any_px (w : WF K F T st H) {v : V} {d : D} (b : Bor K F T H v d) (p : Post K W σ F T H (rIt K) (ofO (itemsD d) st) R) :
    (∃ a xs, v = .ref a ∧ SqL K H a xs ∧ (xs.length ≤ sizeLine → R (Itl K a) H)) ∨ (∃ a xs, v = .ref a ∧ SqT K H a xs ∧ (xs.length ≤ sizeLine → R (Itt K a) H)) ∨ ∃ z, v = .str z ∧ R (Its z) H := by
  cases d with
  | lst ds =>
    obtain ⟨a, rfl, s⟩ := srcL_bor b
    obtain ⟨xs, q, r⟩ := s _ _ _ _ (.refl _ _ _) w
    exact .inl ⟨a, xs, rfl, q, fun hz => p _ F T H (.refl _ _ _) w ⟨s.gives, by rw [← r.length]; exact hz⟩⟩
  | tup ds =>
    obtain ⟨a, rfl, s⟩ := srcT_bor b
    obtain ⟨xs, q, r⟩ := s _ _ _ _ (.refl _ _ _) w
    exact .inr (.inl ⟨a, xs, rfl, q, fun hz => p _ F T H (.refl _ _ _) w ⟨s.gives, by rw [← r.length]; exact hz⟩⟩)
  | str z =>
    have e := b.str
    subst e
    refine .inr (.inr ⟨z, rfl, ?_⟩)
    by_cases c : z.length ≤ sizeLine
    · rw [items_str c] at p
      exact p _ F T H (.refl _ _ _) w ⟨gives_str z, by rw [len_str]; exact c⟩
    · rw [items_str' c] at p
      exact p.elim
  | _ => exact p.elim
theorem any_pf (w : WF K F T st H) {v : V} {d : D} (b : Rep K F T v d) (p : Post K W σ F T H (rItF K) (ofO (itemsD d) st) R) :
    (∃ a xs, v = .ref a ∧ SqL K H a xs ∧ (xs.length ≤ sizeLine → R (Itl K a) H)) ∨ (∃ a xs, v = .ref a ∧ SqT K H a xs ∧ (xs.length ≤ sizeLine → R (Itt K a) H)) ∨ ∃ z, v = .str z ∧ R (Its z) H := by
  cases d with
  | lst ds =>
    obtain ⟨a, rfl, s⟩ := srcL_rep b
    obtain ⟨xs, q, r⟩ := s _ _ _ _ ⟨.refl _, .refl _⟩ w
    exact .inl ⟨a, xs, rfl, q, fun hz => p _ F T H (.refl _ _ _) w ⟨s.gives, by rw [← r.length]; exact hz⟩⟩
  | tup ds =>
    obtain ⟨a, rfl, s⟩ := srcT_rep b
    obtain ⟨xs, q, r⟩ := s _ _ _ _ ⟨.refl _, .refl _⟩ w
    exact .inr (.inl ⟨a, xs, rfl, q, fun hz => p _ F T H (.refl _ _ _) w ⟨s.gives, by rw [← r.length]; exact hz⟩⟩)
  | str z =>
    cases b
    refine .inr (.inr ⟨z, rfl, ?_⟩)
    by_cases c : z.length ≤ sizeLine
    · rw [items_str c] at p
      exact p _ F T H (.refl _ _ _) w ⟨gives_str z, by rw [len_str]; exact c⟩
    · rw [items_str' c] at p
      exact p.elim
  | _ => exact p.elim
theorem enum_items {d : D} : enumD d = (itemsD d).map numD := rfl
theorem enum_px (w : WF K F T st H) {v : V} {d : D} (b : Bor K F T H v d) (p : Post K W σ F T H (rIt K) (ofO (enumD d) st) R) :
    (∃ a xs, [v] = [.ref a] ∧ SqL K H a xs ∧ (xs.length ≤ sizeLine → R (Ite K a) H)) ∨ (∃ a xs, [v] = [.ref a] ∧ SqT K H a xs ∧ (xs.length ≤ sizeLine → R (IteT K a) H)) ∨ ∃ z, [v] = [.str z] ∧ R (IteS z) H := by
  rw [enum_items] at p
  cases d with
  | lst ds =>
    obtain ⟨a, rfl, s⟩ := srcL_bor b
    obtain ⟨xs, q, r⟩ := s _ _ _ _ (.refl _ _ _) w
    exact .inl ⟨a, xs, rfl, q, fun hz => p _ F T H (.refl _ _ _) w ⟨s.nums, by rw [numD_length, ← r.length]; exact hz⟩⟩
  | tup ds =>
    obtain ⟨a, rfl, s⟩ := srcT_bor b
    obtain ⟨xs, q, r⟩ := s _ _ _ _ (.refl _ _ _) w
    exact .inr (.inl ⟨a, xs, rfl, q, fun hz => p _ F T H (.refl _ _ _) w ⟨s.nums, by rw [numD_length, ← r.length]; exact hz⟩⟩)
  | str z =>
    have e := b.str
    subst e
    refine .inr (.inr ⟨z, rfl, ?_⟩)
    by_cases c : z.length ≤ sizeLine
    · rw [items_str c] at p
      exact p _ F T H (.refl _ _ _) w ⟨nums_str z, by rw [numD_length, len_str]; exact c⟩
    · rw [items_str' c] at p
      exact p.elim
  | _ => exact p.elim
theorem enum_pf (w : WF K F T st H) {v : V} {d : D} (b : Rep K F T v d) (p : Post K W σ F T H (rItF K) (ofO (enumD d) st) R) :
    (∃ a xs, [v] = [.ref a] ∧ SqL K H a xs ∧ (xs.length ≤ sizeLine → R (Ite K a) H)) ∨ (∃ a xs, [v] = [.ref a] ∧ SqT K H a xs ∧ (xs.length ≤ sizeLine → R (IteT K a) H)) ∨ ∃ z, [v] = [.str z] ∧ R (IteS z) H := by
  rw [enum_items] at p
  cases d with
  | lst ds =>
    obtain ⟨a, rfl, s⟩ := srcL_rep b
    obtain ⟨xs, q, r⟩ := s _ _ _ _ ⟨.refl _, .refl _⟩ w
    exact .inl ⟨a, xs, rfl, q, fun hz => p _ F T H (.refl _ _ _) w ⟨s.nums, by rw [numD_length, ← r.length]; exact hz⟩⟩
  | tup ds =>
    obtain ⟨a, rfl, s⟩ := srcT_rep b
    obtain ⟨xs, q, r⟩ := s _ _ _ _ ⟨.refl _, .refl _⟩ w
    exact .inr (.inl ⟨a, xs, rfl, q, fun hz => p _ F T H (.refl _ _ _) w ⟨s.nums, by rw [numD_length, ← r.length]; exact hz⟩⟩)
  | str z =>
    cases b
    refine .inr (.inr ⟨z, rfl, ?_⟩)
    by_cases c : z.length ≤ sizeLine
    · rw [items_str c] at p
      exact p _ F T H (.refl _ _ _) w ⟨nums_str z, by rw [numD_length, len_str]; exact c⟩
    · rw [items_str' c] at p
      exact p.elim
  | _ => exact p.elim
end
section
variable {X : Cx} {W : WW} {C : Calls} {tg : Expr}
theorem i_seq {a : Expr} {ea : E} (ha : PE X a (tB X.K W C ea)) : PI X tg a (tI X.K W C (.seq ea)) :=
  impI (pi_any ha) fun σ H R ⟨F, T, st, env, w, eo, p⟩ => by
    have p : Post X.K W σ F T H (rIt X.K) ((bor env ea (evE C env ea) st).bnd fun x st => ofO (itemsD x) st) R := p
    exact ⟨F, T, st, env, w, eo, (Post.bnd (R1 := rBo X.K) sh_It p).mono fun x H1 ⟨F1, T1, st1, dx, x1, w1, r1, p1⟩ => any_px w1 r1 p1⟩
theorem i_seqF {a : Expr} {ea : E} (ha : PE X a (tE X.K W C ea)) : PI X tg a (tIF X.K W C (.seq ea)) :=
  impI (pi_any ha) fun σ H R ⟨F, T, st, env, w, eo, p⟩ => by
    have p : Post X.K W σ F T H (rItF X.K) ((evE C env ea st).bnd fun x st => ofO (itemsD x) st) R := p
    exact ⟨F, T, st, env, w, eo, (Post.bnd (R1 := rV X.K) sh_ItF p).mono fun x H1 ⟨F1, T1, st1, dx, x1, w1, r1, p1⟩ => any_pf w1 r1 p1⟩
theorem i_enum {a : Expr} {ea : E} {p pos tpos : Pos} {elts : List Expr} {kk : Nat} (hg : Gl X "enumerate") (hm : X.mg "enumerate" = none) (ha : PE X a (tB X.K W C ea)) (ok : okA a = true) :
    PI X (.Tuple elts kk tpos) (.Call (.Name "enumerate" p) [a] [] pos) (tI X.K W C (.enum ea)) :=
  impI (pi_enumA hg hm (pa_cons ha pa_nil (okA_star ok)) (okA_star ok)) fun σ H R ⟨F, T, st, env, w, eo, p⟩ => by
    have p : Post X.K W σ F T H (rIt X.K) ((bor env ea (evE C env ea) st).bnd fun x st => ofO (enumD x) st) R := p
    exact ⟨F, T, st, env, w, eo, (Post.bnd (R1 := rBo X.K) sh_It p).mono fun x H1 ⟨F1, T1, st1, dx, x1, w1, r1, p1⟩ => enum_px w1 r1 p1⟩
theorem i_enumF {a : Expr} {ea : E} {p pos tpos : Pos} {elts : List Expr} {kk : Nat} (hg : Gl X "enumerate") (hm : X.mg "enumerate" = none) (ha : PE X a (tE X.K W C ea)) (ok : okA a = true) :
    PI X (.Tuple elts kk tpos) (.Call (.Name "enumerate" p) [a] [] pos) (tIF X.K W C (.enum ea)) :=
  impI (pi_enumA hg hm (pa_cons ha pa_nil (okA_star ok)) (okA_star ok)) fun σ H R ⟨F, T, st, env, w, eo, p⟩ => by
    have p : Post X.K W σ F T H (rItF X.K) ((evE C env ea st).bnd fun x st => ofO (enumD x) st) R := p
    exact ⟨F, T, st, env, w, eo, (Post.bnd (R1 := rV X.K) sh_ItF p).mono fun x H1 ⟨F1, T1, st1, dx, x1, w1, r1, p1⟩ => enum_pf w1 r1 p1⟩
theorem rng_cases {ds is : List D} (h : rngD ds = some is) : (∃ n : Int, ds = [.int n] ∧ -(2 ^ 62) ≤ n ∧ n < 2 ^ 62 ∧ is.length ≤ sizeLine ∧ is = (List.range n.toNat).map fun (k : Nat) => D.int (0 + k)) ∨
    ∃ a b : Int, ds = [.int a, .int b] ∧ (-(2 ^ 62) ≤ a ∧ a < 2 ^ 62 ∧ -(2 ^ 62) ≤ b ∧ b < 2 ^ 62) ∧ is.length ≤ sizeLine ∧ is = (List.range (b - a).toNat).map fun (k : Nat) => D.int (a + k) := by
  have sl := sizeLine_eq
  unfold rngD at h
  split at h
  · split at h <;> rename_i c
    · cases h
      refine .inl ⟨_, rfl, c.1, by omega, ?_, rfl⟩
      rw [List.length_map, List.length_range]
      omega
    · cases h
  · split at h <;> rename_i c
    · cases h
      refine .inr ⟨_, _, rfl, ⟨c.1, c.2.1, c.2.2.2⟩, ?_, rfl⟩
      rw [List.length_map, List.length_range]
      omega
    · cases h
  · cases h
theorem i_rng1 {a : Expr} {es : Es} {p pos : Pos} (hg : Gl X "range") (hm : X.mg "range" = none) (ha : PA X [a] (tEs X.K W C es)) (ok : okA a = true) (h1 : ∀ env st ds st', evEs C env es st = .ok ds st' → ds.length = 1) : PI X tg (.Call (.Name "range" p) [a] [] pos) (tX X.K W (rItF X.K) fun env st => (evEs C env es st).bnd fun ds st => ofO (rngD ds) st) :=
  impI (pi_range1 hg hm ha (okA_star ok)) fun σ H R ⟨F, T, st, env, w, eo, p⟩ => by
    refine ⟨F, T, st, env, w, eo, ?_⟩
    have p : Post X.K W σ F T H (rItF X.K) ((evEs C env es st).bnd fun ds st => ofO (rngD ds) st) R := p
    have l := h1 env st
    show Post X.K W σ F T H (rVs X.K) (evEs C env es st) _
    revert p l
    cases evEs C env es st with
    | bad => exact fun p _ => p
    | ex c ks ds st => exact fun p _ => p
    | ok ds st' =>
      intro p l vs F1 T1 H1 x1 w1 r1
      have l := l _ _ rfl
      rw [Out.bnd_ok] at p
      cases e : rngD ds with
      | none => rw [e] at p; exact p.elim
      | some is =>
        rw [e] at p
        rcases rng_cases e with ⟨n, e1, h1, h2, h3, e2⟩ | ⟨a, b, e1, _⟩
        · subst e1 e2
          cases r1 with
          | cons r rr =>
            cases rr
            cases r
            exact ⟨n, rfl, h1, h2, p _ F1 T1 H1 x1 w1 ⟨gives_rng 0 n.toNat, h3⟩⟩
        · rw [e1] at l
          exact absurd l (by simp)
theorem i_rng2 {a b : Expr} {es : Es} {p pos : Pos} (hg : Gl X "range") (hm : X.mg "range" = none) (ha : PA X [a, b] (tEs X.K W C es)) (ok : okA a = true) (ok2 : okA b = true) (h1 : ∀ env st ds st', evEs C env es st = .ok ds st' → ds.length = 2) :
    PI X tg (.Call (.Name "range" p) [a, b] [] pos) (tX X.K W (rItF X.K) fun env st => (evEs C env es st).bnd fun ds st => ofO (rngD ds) st) :=
  impI (pi_range2 hg hm ha (by rw [okA_star ok, okA_star ok2]; rfl) (okA_star ok2)) fun σ H R ⟨F, T, st, env, w, eo, p⟩ => by
    refine ⟨F, T, st, env, w, eo, ?_⟩
    have p : Post X.K W σ F T H (rItF X.K) ((evEs C env es st).bnd fun ds st => ofO (rngD ds) st) R := p
    have l := h1 env st
    show Post X.K W σ F T H (rVs X.K) (evEs C env es st) _
    revert p l
    cases evEs C env es st with
    | bad => exact fun p _ => p
    | ex c ks ds st => exact fun p _ => p
    | ok ds st' =>
      intro p l vs F1 T1 H1 x1 w1 r1
      have l := l _ _ rfl
      rw [Out.bnd_ok] at p
      cases e : rngD ds with
      | none => rw [e] at p; exact p.elim
      | some is =>
        rw [e] at p
        rcases rng_cases e with ⟨n, e1, _⟩ | ⟨a, b, e1, h1, h3, e2⟩
        · rw [e1] at l
          exact absurd l (by simp)
        · subst e1 e2
          cases r1 with
          | cons r rr =>
            cases rr with
            | cons r' rr =>
              cases rr
              cases r
              cases r'
              exact ⟨a, b, rfl, h1, p _ F1 T1 H1 x1 w1 ⟨gives_rng a _, h3⟩⟩
/-- what stays is also what stays while nothing is changed -/
theorem i_ofF {e : Expr} {m : Env → Store → Out (List D)} (h : PI X tg e (tX X.K W (rItF X.K) m)) : PI X tg e (tX X.K W (rIt X.K) m) :=
  impI h fun σ H R ⟨F, T, st, env, w, eo, p⟩ => by
    refine ⟨F, T, st, env, w, eo, ?_⟩
    have p : Post X.K W σ F T H (rIt X.K) (m env st) R := p
    show Post X.K W σ F T H (rItF X.K) (m env st) R
    revert p
    cases m env st with
    | bad => exact id
    | ex c ks ds st => exact id
    | ok ds st' => exact fun p J F1 T1 H1 x1 w1 ⟨g, l⟩ => p J F1 T1 H1 x1 w1 ⟨g.imp fun _ _ _ x => px_pf x, l⟩
end
def Es.len : Es → Nat
  | .nil => 0
  | .cons _ es => es.len + 1
theorem evEs_len {C : Calls} {env : Env} : ∀ (es : Es) {st : Store} {ds : List D} {st' : Store}, evEs C env es st = .ok ds st' → ds.length = es.len
  | .nil, st, ds, st', h => by
    have h : Out.ok [] st = Out.ok ds st' := h
    cases h
    rfl
  | .cons e es, st, ds, st', h => by
    have h : ((evE C env e st).bnd fun d st => (evEs C env es st).bnd fun ds st => .ok (d :: ds) st) = .ok ds st' := h
    cases q : evE C env e st with
    | bad => rw [q] at h; cases h
    | ex c ks ds st => rw [q] at h; cases h
    | ok d st1 =>
      rw [q, Out.bnd_ok] at h
      cases q2 : evEs C env es st1 with
      | bad => rw [q2] at h; cases h
      | ex c ks ds st => rw [q2] at h; cases h
      | ok ds2 st2 =>
        rw [q2, Out.bnd_ok] at h
        cases h
        rw [List.length_cons, evEs_len es q2]
        rfl
end Eng
set_option Elab.async false
set_option linter.all false
set_option maxRecDepth 100000
/-! Eng 11: targets, list comprehensions, calls of the module's own defs -/
namespace Eng
open PySem PySem.Spec PyProof.Rows L2

/-! ### targets -/
mutual
def gT (K : PySem.W.Frag) : Tg → TG
  | .v i => gName i
  | .t ts => gTup K (lenT ts) (gTs K ts)
def gTs (K : PySem.W.Frag) : Tgs → TGs
  | .nil => gNil
  | .cons t ts => gCons (gT K t) (gTs K ts)
def lenT : Tgs → Nat
  | .nil => 0
  | .cons _ ts => lenT ts + 1
end
mutual
def ixT : Tg → List Nat
  | .v i => [i]
  | .t ts => ixTs ts
def ixTs : Tgs → List Nat
  | .nil => []
  | .cons t ts => ixT t ++ ixTs ts
end
/-- alike but at is -/
def Agr (is : List Nat) (σ σ' : L2.St) : Prop := σ'.length = σ.length ∧ ∀ j, j ∉ is → σ'[j]? = σ[j]?
theorem Agr.refl (is : List Nat) (σ : L2.St) : Agr is σ σ := ⟨rfl, fun _ _ => rfl⟩
theorem Agr.trans {is : List Nat} {a b c : L2.St} (h : Agr is a b) (k : Agr is b c) : Agr is a c := ⟨k.1.trans h.1, fun j hj => (k.2 j hj).trans (h.2 j hj)⟩
theorem Agr.mono {is js : List Nat} {a b : L2.St} (h : Agr is a b) (k : ∀ i ∈ is, i ∈ js) : Agr js a b := ⟨h.1, fun j hj => h.2 j fun z => hj (k j z)⟩
theorem Agr.set (i : Nat) (o : Option V) (σ : L2.St) : Agr [i] σ (σ.set i o) := ⟨List.length_set, fun j hj => List.getElem?_set_ne (fun e => hj (by simp [e]))⟩
theorem Agr.wipe {is vs : List Nat} {σ σ' : L2.St} (h : Agr is σ σ') (k : ∀ i ∈ is, i ∈ vs) : L2.wipe σ' vs = L2.wipe σ vs := by
  apply List.ext_getElem?
  intro j
  have key : ∀ (vs : List Nat) (τ : L2.St), (L2.wipe τ vs)[j]? = if j ∈ vs ∧ j < τ.length then some none else τ[j]? := by
    intro vs
    induction vs with
    | nil => intro τ; simp [L2.wipe]
    | cons v vs ih =>
      intro τ
      unfold L2.wipe
      rw [List.getElem?_set, L2.wipe_length, ih τ]
      by_cases e : v = j
      · subst e
        by_cases l : v < τ.length
        · simp [l]
        · simp [l]
      · have e' : j ≠ v := fun z => e z.symm
        simp [e, e']
  rw [key, key, h.1]
  by_cases m : j ∈ vs ∧ j < σ.length
  · rw [if_pos m, if_pos m]
  · rw [if_neg m, if_neg m]
    by_cases hj : j ∈ is
    · have : ¬ j < σ.length := fun l => m ⟨k j hj, l⟩
      rw [List.getElem?_eq_none (by rw [h.1]; omega), List.getElem?_eq_none (by omega)]
    · exact h.2 j hj
theorem agr_wipe (σ : L2.St) : ∀ vs : List Nat, Agr vs σ (L2.wipe σ vs)
  | [] => .refl _ _
  | v :: vs => by
    unfold L2.wipe
    exact ((agr_wipe σ vs).mono fun i hi => List.mem_cons_of_mem _ hi).trans ((Agr.set v none _).mono fun i hi => by rw [List.mem_singleton.mp hi]; exact List.mem_cons_self)
section
variable {K : PySem.W.Frag} {xi : XB} {F H : Hp} {T : List Addr} {st : Store}
theorem EnvOk.set {env : Env} {σ : L2.St} (eo : EnvOk K xi F T H env σ) (i : Nat) {d : D} {v : V} (r : Rep K F T v d) : EnvOk K xi F T H (env.set i (.val d)) (σ.set i (some v)) := by
  refine ⟨fun j s hs => ?_, by rw [List.length_set, List.length_set]; exact eo.len, fun a b d1 d2 p ne h1 h2 h3 h4 => ?_⟩
  · rw [List.getElem?_set] at hs
    split at hs <;> rename_i c
    · subst c
      split at hs <;> rename_i l
      · cases hs
        rw [List.getElem?_set_self (Nat.lt_of_lt_of_le l eo.len)]
        exact ⟨v, rfl, r⟩
      · cases hs
    · rw [List.getElem?_set_ne c]
      exact eo.at_ j s hs
  · have ha : a ≠ i := by
      rintro rfl
      rw [List.getElem?_set] at h1
      simp only [if_true] at h1
      split at h1 <;> cases h1
    have hb : b ≠ i := by
      rintro rfl
      rw [List.getElem?_set] at h2
      simp only [if_true] at h2
      split at h2 <;> cases h2
    rw [List.getElem?_set_ne (fun z => ha z.symm)] at h1 h3
    rw [List.getElem?_set_ne (fun z => hb z.symm)] at h2 h4
    exact eo.apart a b d1 d2 p ne h1 h2 h3 h4
/-- forgotten slots -/
theorem EnvOk.wipe {env : Env} {σ : L2.St} (eo : EnvOk K xi F T H env σ) : ∀ vs : List Nat, EnvOk K xi F T H (wipeE env vs) (L2.wipe σ vs)
  | [] => eo
  | i :: vs => by
    have h := eo.wipe vs
    refine ⟨fun j s hs => ?_, ?_, fun a b d1 d2 p ne h1 h2 h3 h4 => ?_⟩
    · unfold wipeE at hs
      unfold L2.wipe
      rw [List.getElem?_set] at hs
      split at hs <;> rename_i c
      · split at hs
        · cases hs; trivial
        · cases hs
      · rw [List.getElem?_set_ne c]
        exact h.at_ j s hs
    · unfold wipeE L2.wipe
      rw [List.length_set, List.length_set]
      exact h.len
    · unfold wipeE at h1 h2
      unfold L2.wipe at h3 h4
      have ha : a ≠ i := by
        rintro rfl
        rw [List.getElem?_set] at h1
        simp only [if_true] at h1
        split at h1 <;> cases h1
      have hb : b ≠ i := by
        rintro rfl
        rw [List.getElem?_set] at h2
        simp only [if_true] at h2
        split at h2 <;> cases h2
      rw [List.getElem?_set_ne (fun z => ha z.symm)] at h1 h3
      rw [List.getElem?_set_ne (fun z => hb z.symm)] at h2 h4
      exact h.apart a b d1 d2 p ne h1 h2 h3 h4
theorem binds_len : ∀ {ts : Tgs} {ds : List D} {env env' : Env}, binds ts ds env = some env' → ds.length = lenT ts
  | .nil, [], _, _, _ => rfl
  | .nil, _ :: _, _, _, h => by cases h
  | .cons _ _, [], _, _, h => by cases h
  | .cons t ts, d :: ds, env, env', h => by
    obtain ⟨e1, _, h2⟩ := Option.bind_eq_some_iff.mp h
    rw [List.length_cons, binds_len h2]
    rfl
mutual
theorem bind_ok (w : WF K F T st H) : ∀ {t : Tg} {d : D} {x : V} {env env' : Env} {σ : L2.St} {k : L2.St → Hp → Prop}, Rep K F T x d → EnvOk K xi F T H env σ → bind1 t d env = some env' → (∀ σ', EnvOk K xi F T H env' σ' → Agr (ixT t) σ σ' → k σ' H) → gT K t x σ H k
  | .v i, d, x, env, env', σ, k, r, eo, e, h => by
    have e : some (env.set i (.val d)) = some env' := e
    cases e
    exact h _ (eo.set i r) (Agr.set i _ σ)
  | .t ts, .tup ds, x, env, env', σ, k, r, eo, e, h => by
    have e : binds ts ds env = some env' := e
    cases r with
    | @tup a xs _ q r => exact ⟨a, xs, rfl, sqT_mono w.fr q, by rw [r.length, binds_len e], binds_ok w r eo e h⟩
  | .t _, .non, _, _, _, _, _, _, _, e, _ => by cases e
  | .t _, .bl _, _, _, _, _, _, _, _, e, _ => by cases e
  | .t _, .int _, _, _, _, _, _, _, _, e, _ => by cases e
  | .t _, .str _, _, _, _, _, _, _, _, e, _ => by cases e
  | .t _, .lst _, _, _, _, _, _, _, _, e, _ => by cases e
  | .t _, .dic _ _, _, _, _, _, _, _, _, e, _ => by cases e
  | .t _, .ins _ _ _, _, _, _, _, _, _, _, e, _ => by cases e
  | .t _, .obj _, _, _, _, _, _, _, _, e, _ => by cases e
  | .t _, .fn _, _, _, _, _, _, _, _, e, _ => by cases e
  | .t _, .scr _, _, _, _, _, _, _, _, e, _ => by cases e
theorem binds_ok (w : WF K F T st H) : ∀ {ts : Tgs} {ds : List D} {xs : List V} {env env' : Env} {σ : L2.St} {k : L2.St → Hp → Prop}, Reps K F T xs ds → EnvOk K xi F T H env σ → binds ts ds env = some env' → (∀ σ', EnvOk K xi F T H env' σ' → Agr (ixTs ts) σ σ' → k σ' H) → gTs K ts xs σ H k
  | .nil, [], _, env, env', σ, k, r, eo, e, h => by
    have e : some env = some env' := e
    cases e
    cases r
    exact ⟨rfl, h _ eo (.refl _ _)⟩
  | .nil, _ :: _, _, _, _, _, _, _, _, e, _ => by cases e
  | .cons _ _, [], _, _, _, _, _, _, _, e, _ => by cases e
  | .cons t ts, d :: ds, _, env, env', σ, k, r, eo, e, h => by
    obtain ⟨e1, h1, h2⟩ := Option.bind_eq_some_iff.mp (show ((bind1 t d env).bind fun env' => binds ts ds env') = some env' from e)
    cases r with
    | cons r rs =>
      refine ⟨_, _, rfl, bind_ok w r eo h1 fun σ1 eo1 a1 => binds_ok w rs eo1 h2 fun σ2 eo2 a2 => h σ2 eo2 ?_⟩
      exact (a1.mono fun i hi => List.mem_append_left _ hi).trans (a2.mono fun i hi => List.mem_append_right _ hi)
end
end

/-! ### the heap with one thing of ours changed -/
section
variable {K : PySem.W.Frag} {F H F0 H0 : Hp} {T T0 : List Addr} {st : Store} {p : Addr} {o : HO}
theorem wf_upd (w : WF K F T st H) (hF : F p = none) (hT : p ∉ T) : WF K F T st (upd H p o) := by
  refine ⟨fun b u e => ?_, w.len, w.nd, w.nf, fun n d e => ?_⟩
  · rw [upd_ne (ne_of_none e hF)]
    exact w.fr b u e
  · obtain ⟨a, h1, h2⟩ := w.at_ n d e
    refine ⟨a, h1, h2.mono (.refl _) (.refl _) fun o' e' => ?_⟩
    rw [upd_ne (fun z : a = p => hT (z ▸ List.mem_iff_getElem?.mpr ⟨n, h1⟩))]
    exact e'
theorem ext_upd (x : Ext F0 T0 H0 F T H) (h0 : H0 p = none) : Ext F0 T0 H0 F T (upd H p o) := by
  refine ⟨x.fr, x.pre, x.newF, x.newT, fun b u e n => ?_, fun b u e => ?_⟩
  · rw [upd_ne (ne_of_none e h0)]
    exact x.keep b u e n
  · obtain ⟨u', e'⟩ := x.there b u e
    exact ⟨u', by rw [upd_ne (ne_of_none e h0)]; exact e'⟩
end

/-! ### list comprehensions -/
/-- nothing may be raised -/
def noW (W : WW) : WW := ⟨fun _ _ _ _ => False, W.x, W.B, false⟩
theorem Out.nox_bnd {α β : Type} {o : Out α} {f : α → Store → Out β} : (o.bnd f).nox = o.nox.bnd fun a st => (f a st).nox := by cases o <;> rfl
theorem Out.bnd_assoc {α β γ : Type} {o : Out α} {f : α → Store → Out β} {g : β → Store → Out γ} : (o.bnd f).bnd g = o.bnd fun a st => (f a st).bnd g := by cases o <;> rfl
section
variable {α β γ δ : Type} {K : PySem.W.Frag} {W : WW} {σ σ2 : L2.St} {F0 H0 F H : Hp} {T0 T : List Addr} {R : RR α β} {R1 : RR γ δ} {Q : β → Hp → Prop}
/-- the next step of an evaluation in which nothing may be raised; what is to come keeps its base -/
theorem Post.nox {o : Out γ} {f : γ → Store → Out α} (h : Post K W σ F0 T0 H0 R (o.nox.bnd f) Q) :
    Post K (noW W) σ2 F T H R1 o fun b H1 => ∃ F1 T1 st1 a, Ext F T H F1 T1 H1 ∧ WF K F1 T1 st1 H1 ∧ R1 H F1 T1 H1 a b ∧ Post K W σ F0 T0 H0 R (f a st1) Q := by
  cases o with
  | bad => exact h
  | ok a st => exact fun b F' T' H' y w r => ⟨F', T', st, a, y, w, r, h⟩
  | ex c ks ds st => exact h.elim
end
section
variable {X : Cx} {W : WW} {C : Calls}
/-- no test, or one -/
abbrev tIf (K : PySem.W.Frag) (W : WW) (C : Calls) (o : Op) : TT := tX K W rEq fun env => evIf C env o
theorem if_none : PTs X [] (tIf X.K W C .no) := ⟨fun pins s σ H Q I ⟨F, T, st, env, w, eo, p⟩ => pts_nil.run pins s σ H Q I (p true F T H (.refl _ _ _) w rfl)⟩
theorem if_one {c : Expr} {e : E} (h : PT X c (tT X.K W C e)) : PTs X [c] (tIf X.K W C (.so e)) := pts_one h
theorem lc_rd {elt : E} {tg : Tg} {it : It} {ifs : Op} {ws : List Nat} (hw : ∀ i ∈ ixT tg, i ∈ ws) {σ : L2.St} {H : Hp} {Q : VK} (h : tDr X.K W C (.lc elt tg it ifs ws) σ H Q) :
    tLc (tI X.K W C it) (gT X.K tg) (tIf X.K (noW W) C ifs) (tE X.K (noW W) C elt) ws σ H Q := by
  obtain ⟨F, T, st, env, w, eo, p⟩ := h
  have p : Post X.K W σ F T H (rD X.K) ((evIt C env it st).bnd fun ds st => (lcGo (fun d st => (ofO (bind1 tg d (wipeE env ws)) st).bnd fun env' st => (evIf C env' ifs st).bnd fun r st => (match r with
      | true => (evE C env' elt st).bnd fun y st => .ok (some y) st
      | false => .ok none st)) ds st).bnd fun ys st => .ok (.lst ys) st) Q := p
  refine ⟨F, T, st, env, w, eo, (Post.bnd (R1 := rIt X.K) sh_D p).mono fun J H1 ⟨F1, T1, st1, ds, x1, w1, ⟨gv, hlen⟩, p1⟩ => ?_⟩
  generalize hs : (fun d st => (ofO (bind1 tg d (wipeE env ws)) st).bnd fun env' st => (evIf C env' ifs st).bnd fun r st => (match r with
      | true => (evE C env' elt st).bnd fun y st => .ok (some y) st
      | false => .ok none st)) = step at p1
  have eo1 := eo.ext x1
  intro L hD
  obtain ⟨fD, tD⟩ := w1.free hD
  refine ⟨fun i m H2 => m = ds.length - i ∧ i ≤ ds.length ∧ ∃ F2 T2 st2 acc accD, Ext F1 T1 H1 F2 T2 H2 ∧ WF X.K F2 T2 st2 H2 ∧ H2 L = some (.lst acc) ∧ F2 L = none ∧ L ∉ T2 ∧ Reps X.K F2 T2 acc accD ∧ acc.length ≤ i ∧
      Post X.K W σ F1 T1 H1 (rD X.K) ((lcGo step (ds.drop i) st2).bnd fun ys st => .ok (.lst (accD ++ ys)) st) Q, ⟨ds.length, rfl, Nat.zero_le _, F1, T1, st1, [], [], Ext.newO hD, w1.newO hD, upd_same, fD, tD, .nil, Nat.le_refl _, ?_⟩, ?_⟩
  · exact p1
  · rintro i m H2 ⟨em, le, F2, T2, st2, acc, accD, x2, w2, h2, f2, t2, r2, l2, p2⟩
    have g := gv F2 T2 st2 H2 x2 w2 i
    by_cases e : i = ds.length
    · subst e
      rw [List.drop_length] at p2
      have p2 : Post X.K W σ F1 T1 H1 (rD X.K) (.ok (.lst (accD ++ [])) st2) Q := p2
      rw [List.append_nil] at p2
      exact .inl ⟨g.2 rfl, p2 _ F2 T2 H2 x2 w2 (rD_c rfl ⟨L, rfl, ⟨acc, h2, r2⟩, f2, t2, hD⟩)⟩
    · have lt : i < ds.length := by omega
      obtain ⟨d, hd⟩ : ∃ d, ds[i]? = some d := ⟨_, List.getElem?_eq_getElem lt⟩
      obtain ⟨go, yl⟩ := g.1 d hd
      have ed : ds.drop i = d :: ds.drop (i + 1) := by
        have := List.getElem?_eq_some_iff.mp hd
        obtain ⟨l, e⟩ := this
        rw [← e]
        exact List.drop_eq_getElem_cons l
      rw [ed] at p2
      have p2 : Post X.K W σ F1 T1 H1 (rD X.K) ((((step d st2).nox).bnd fun r st1 => (lcGo step (ds.drop (i + 1)) st1).bnd fun acc st2 => .ok (match r with | some y => y :: acc | none => acc) st2).bnd fun ys st => .ok (.lst (accD ++ ys)) st) Q := p2
      rw [Out.bnd_assoc, ← hs] at p2
      rw [hs] at p2
      refine .inr ⟨go, fun H' => ∃ m', m' < m ∧ (m' = ds.length - (i + 1) ∧ i + 1 ≤ ds.length ∧ ∃ F2 T2 st2 acc accD, Ext F1 T1 H1 F2 T2 H' ∧ WF X.K F2 T2 st2 H' ∧ H' L = some (.lst acc) ∧ F2 L = none ∧ L ∉ T2 ∧ Reps X.K F2 T2 acc accD ∧ acc.length ≤ i + 1 ∧
          Post X.K W σ F1 T1 H1 (rD X.K) ((lcGo step (ds.drop (i + 1)) st2).bnd fun ys st => .ok (.lst (accD ++ ys)) st) Q), fun H' h => h, fun x H3 hy => ?_⟩
      obtain ⟨F3, x3, w3, r3⟩ := yl x H3 hy
      have x13 := x2.trans x3
      have eo3 := (eo1.ext x13).wipe ws
      have p3 : Post X.K W σ F1 T1 H1 (rD X.K) (((ofO (bind1 tg d (wipeE env ws)) st2).nox.bnd fun env' st => ((evIf C env' ifs st).nox.bnd fun r st => ((match r with
          | true => (evE C env' elt st).bnd fun y st => .ok (some y) st
          | false => .ok none st) : Out (Option D)).nox)).bnd fun r st1 => ((lcGo step (ds.drop (i + 1)) st1).bnd fun acc st2 => .ok (match r with | some y => y :: acc | none => acc) st2).bnd fun ys st => .ok (.lst (accD ++ ys)) st) Q := by
        have e1 : (step d st2).nox = ((ofO (bind1 tg d (wipeE env ws)) st2).nox.bnd fun env' st => ((evIf C env' ifs st).nox.bnd fun r st => ((match r with
          | true => (evE C env' elt st).bnd fun y st => .ok (some y) st
          | false => .ok none st) : Out (Option D)).nox)) := by
          rw [← hs]
          show Out.nox (Out.bnd _ _) = _
          rw [Out.nox_bnd]
          congr 1
          funext env' st
          rw [Out.nox_bnd]
        rw [← e1]
        exact p2
      cases eb : bind1 tg d (wipeE env ws) with
      | none => rw [eb] at p3; exact p3.elim
      | some env' =>
        rw [eb] at p3
        have p3 : Post X.K W σ F1 T1 H1 (rD X.K) (((evIf C env' ifs st2).nox.bnd fun r st => ((match r with
          | true => (evE C env' elt st).bnd fun y st => .ok (some y) st
          | false => .ok none st) : Out (Option D)).nox).bnd fun r st1 => ((lcGo step (ds.drop (i + 1)) st1).bnd fun acc st2 => .ok (match r with | some y => y :: acc | none => acc) st2).bnd fun ys st => .ok (.lst (accD ++ ys)) st) Q := p3
        rw [Out.bnd_assoc] at p3
        refine bind_ok w3 r3 eo3 eb fun σ2 eo4 ag => ⟨(ag.wipe hw).trans ((agr_wipe σ ws).wipe fun _ h => h), ?_⟩
        refine ⟨F3, T2, st2, env', w3, eo4, (Post.nox (R1 := rEq) p3).mono fun b H4 ⟨F4, T4, st4, b', x4, w4, rb, p4⟩ => ?_⟩
        have rb : b' = b := rb
        subst rb
        have d4 : H4 L = some (.lst acc) := x4.keep L _ (x3.keep L _ h2 t2) (by exact t2)
        have o4 := (x3.trans x4).own (d := .lst accD) ⟨acc, h2, r2⟩ f2 t2
        cases b' with
        | false =>
          simp only [Bool.false_eq_true, if_false]
          refine ⟨ds.length - (i + 1), by omega, rfl, by omega, F4, T4, st4, acc, accD, x13.trans x4, w4, d4, o4.2.1, o4.2.2, r2.mono (x3.trans x4).fr (x3.trans x4).pre, by omega, ?_⟩
          have p4 : Post X.K W σ F1 T1 H1 (rD X.K) (((lcGo step (ds.drop (i + 1)) st4).bnd fun acc st2 => .ok acc st2).bnd fun ys st => .ok (.lst (accD ++ ys)) st) Q := p4
          rw [Out.bnd_assoc] at p4
          exact p4
        | true =>
          simp only [if_true]
          have p4 : Post X.K W σ F1 T1 H1 (rD X.K) (((evE C env' elt st4).bnd fun y st => .ok (some y) st).nox.bnd fun r st1 => ((lcGo step (ds.drop (i + 1)) st1).bnd fun acc st2 => .ok (match r with | some y => y :: acc | none => acc) st2).bnd fun ys st => .ok (.lst (accD ++ ys)) st) Q := p4
          rw [Out.nox_bnd, Out.bnd_assoc] at p4
          refine ⟨F4, T4, st4, env', w4, eo4.ext x4, (Post.nox (R1 := rV X.K) p4).mono fun y H5 ⟨F5, T5, st5, dy, x5, w5, ry, p5⟩ => ?_⟩
          have ry : Rep X.K F5 T5 y dy := ry
          have o5 := ((x3.trans x4).trans x5).own (d := .lst accD) ⟨acc, h2, r2⟩ f2 t2
          have d5 : H5 L = some (.lst acc) := x5.keep L _ d4 o4.2.2
          refine ⟨acc, d5, by omega, ds.length - (i + 1), by omega, rfl, by omega, F5, T5, st5, acc ++ [y], accD ++ [dy], ext_upd ((x13.trans x4).trans x5) hD, wf_upd w5 o5.2.1 o5.2.2, upd_same, o5.2.1, o5.2.2, (r2.mono ((x3.trans x4).trans x5).fr ((x3.trans x4).trans x5).pre).append (.one ry), by rw [List.length_append]; exact Nat.succ_le_succ l2, ?_⟩
          have p5 : Post X.K W σ F1 T1 H1 (rD X.K) (((lcGo step (ds.drop (i + 1)) st5).bnd fun acc st2 => .ok (dy :: acc) st2).bnd fun ys st => .ok (.lst (accD ++ ys)) st) Q := p5
          rw [Out.bnd_assoc] at p5
          have e5 : (fun (ys : List D) (st : Store) => (Out.ok (.lst ((accD ++ [dy]) ++ ys)) st : Out D)) = fun ys st => (Out.ok (dy :: ys) st).bnd fun ys st => .ok (.lst (accD ++ ys)) st := by
            funext ys st
            show Out.ok (D.lst ((accD ++ [dy]) ++ ys)) st = Out.ok (.lst (accD ++ (dy :: ys))) st
            rw [List.append_assoc]
            rfl
          rw [e5]
          exact p5
end
end Eng
set_option Elab.async false
set_option linter.all false
set_option maxRecDepth 100000
/-! Eng 12: calls, isinstance, attributes, methods, instances -/
namespace Eng
open PySem PySem.Spec PyProof.Rows L2

/-! ### the module's constants -/
section
variable {X : Cx} {W : WW} {C : Calls}
theorem s_gl {x : Str} {d : D} {v : V} {u : Value} {pos : Pos} (hg : Gl X x) (hm : X.mg x = some u) (r : RelV v u) (h : vOf d = some v) (hd : (x == ("__debug__" : Str)) = false) : PE X (.Name x pos) (tE X.K W C (.gl x d)) :=
  s_const (pe_glob hg hm r hd) h fun _ _ => rfl
theorem s_glI {x : Str} {i : Int} {pos : Pos} (hg : Gl X x) (hm : ∃ t, X.mg x = some (.int i t)) (hd : (x == ("__debug__" : Str)) = false) : PE X (.Name x pos) (tE X.K W C (.gl x (.int i))) := by
  obtain ⟨t, hm⟩ := hm
  exact s_gl (v := .int i) hg hm ⟨t, rfl⟩ rfl hd
theorem s_glS {x : Str} {z : Str} {pos : Pos} (hg : Gl X x) (hm : ∃ t, X.mg x = some (.str z t)) (hd : (x == ("__debug__" : Str)) = false) : PE X (.Name x pos) (tE X.K W C (.gl x (.str z))) := by
  obtain ⟨t, hm⟩ := hm
  exact s_gl (v := .str z) hg hm ⟨t, rfl⟩ rfl hd
/-- a def of the module as a value -/
theorem s_fnV {x : Str} {pos : Pos} (hg : Gl X x) (hm : X.mg x = some (.ref (He.ga X.K x))) (hd : (x == ("__debug__" : Str)) = false) : PE X (.Name x pos) (tE X.K W C (.fn x)) :=
  impE (pe_glob (v := .ref (He.ga X.K x)) hg hm rfl hd) fun σ H Q ⟨F, T, st, env, w, eo, p⟩ => p _ F T H (.refl _ _ _) w .fn

/-! ### isinstance -/
def tyNames : List String := ["NoneType", "bool", "int", "str", "tuple", "list", "dict"]
def tyAsk : List String := ["bool", "int", "str", "tuple", "list", "dict"]
theorem kit_tab : (tyNames.all fun a => tyAsk.all fun t => decide (kitB a t = some (tyIs a t))) = true := by decide +kernel
theorem kit_of_tab {K : PySem.W.Frag} {a t : String} (ha : a ∈ tyNames) (ht : t ∈ tyAsk) : PySem.W.kitOne K (.type a) (.type t) = some (tyIs a t) :=
  kit_ty (of_decide_eq_true (List.all_eq_true.mp (List.all_eq_true.mp kit_tab a ha) t ht))
theorem kitAny_tab {K : PySem.W.Frag} {a : String} (ha : a ∈ tyNames) : ∀ {ts : List String}, (∀ t ∈ ts, t ∈ tyAsk) → PySem.W.kitAny K (.type a) (ts.map .type) = some (ts.any (tyIs a))
  | [], _ => rfl
  | t :: ts, h => by
    refine kitAny_cons (kit_of_tab ha (h t List.mem_cons_self)) (fun e => ?_) fun e => ?_
    · rw [kitAny_tab ha fun t ht => h t (List.mem_cons_of_mem _ ht), List.any_cons, e]
      rfl
    · rw [List.any_cons, e]
      rfl
theorem tyx_bor {K : PySem.W.Frag} {F H : Hp} {T : List Addr} {st : Store} (w : WF K F T st H) {d : D} {v : V} {n : String} (h : tyN d = some n) (b : Bor K F T H v d) : n ∈ tyNames ∧ TyX K H v (.type n) := by
  cases d with
  | non => cases h; rw [b.non]; exact ⟨by decide, .base .non⟩
  | bl k => cases h; rw [b.bl]; exact ⟨by decide, .base (.bl _)⟩
  | int k => cases h; rw [b.int]; exact ⟨by decide, .base (.int _)⟩
  | str k => cases h; rw [b.str]; exact ⟨by decide, .base (.str _)⟩
  | tup ds =>
    cases h
    obtain ⟨a, xs, rfl, q, _⟩ := b.tup w
    rcases q with (q | ⟨o, q⟩) | ⟨o, its, n, hk, hc, _⟩
    · exact ⟨by decide, .base (.tup q)⟩
    · exact ⟨by decide, .fTuple q⟩
    · exact ⟨by decide, .kTuple hk hc⟩
  | lst ds =>
    cases h
    obtain ⟨a, xs, rfl, q, _⟩ := b.lst w
    exact ⟨by decide, .base (.lst q)⟩
  | dic ks ds =>
    cases h
    obtain ⟨a, xs, rfl, q, _⟩ := b.dic w
    exact ⟨by decide, .base (.dK q)⟩
  | _ => cases h
theorem isTys_of {ts : List String} {d : D} {r : Bool} (h : isTys ts d = some r) : ∃ n, tyN d = some n ∧ r = ts.any (tyIs n) := by
  obtain ⟨n, e, rfl⟩ := Option.map_eq_some_iff.mp h
  exact ⟨n, e, rfl⟩
theorem isi_post {K : PySem.W.Frag} {σ : L2.St} {F H : Hp} {T : List Addr} {st : Store} {o : Option Bool} {Q : VK} (p : Post K W σ F T H (rV K) (ofO (o.map .bl) st) Q) :
    ∃ b, o = some b ∧ ∀ F' T' H', Ext F T H F' T' H' → WF K F' T' st H' → Q (.bl b) H' := by
  cases o with
  | none => exact p.elim
  | some b => exact ⟨b, rfl, fun F' T' H' x w => p _ F' T' H' x w (.bl b)⟩
theorem boot_isi : bootBuiltins "isinstance" = some (.builtin "isinstance") := by decide +kernel
theorem s_isi {a b : Expr} {ea : E} {t : String} {p pos : Pos} (hg : Gl X "isinstance") (hm : X.mg "isinstance" = none) (ha : PE X a (tB X.K W C ea)) (ok : okA a = true) (hb : PE X b (tC (.ty t))) (ok2 : okA b = true) (ht : t ∈ tyAsk) :
    PE X (.Call (.Name "isinstance" p) [a, b] [] pos) (tE X.K W C (.isi ea [t])) :=
  impE (pe_callB call_isi hg hm boot_isi (pa_cons ha (pa_cons hb pa_nil (okA_star ok2)) (okA_star ok)) (by decide) (by decide) (okA_star ok) (by rw [okA_star ok2]; rfl)) fun σ H Q ⟨F, T, st, env, w, eo, p⟩ => by
    have p : Post X.K W σ F T H (rV X.K) ((bor env ea (evE C env ea) st).bnd fun x st => ofO ((isTys [t] x).map .bl) st) Q := p
    refine ⟨F, T, st, env, w, eo, (Post.bnd (R1 := rBo X.K) sh_V p).mono fun x H1 ⟨F1, T1, st1, d, x1, w1, r1, p1⟩ => ?_⟩
    obtain ⟨b, e, q⟩ := isi_post p1
    obtain ⟨n, en, er⟩ := isTys_of e
    obtain ⟨hn, ty⟩ := tyx_bor w1 en r1
    refine ⟨x, .ty t, .type n, .type t, b, rfl, .ty t, ty, ?_, q F1 T1 H1 (.refl _ _ _) w1⟩
    rw [er, kit_of_tab hn ht]
    simp
/-- names of types -/
inductive TyNs (X : Cx) : List Expr → List String → Prop
  | nil : TyNs X [] []
  | cons {e : Expr} {es : List Expr} {t : String} {ts : List String} : PE X e (tC (.ty t)) → okA e = true → TyNs X es ts → TyNs X (e :: es) (t :: ts)
theorem TyNs.pa : ∀ {es : List Expr} {ts : List String}, TyNs X es ts → PA X es (fun _ H Q => Q (ts.map .ty) H)
  | _, _, .nil => pa_nil
  | _, _, .cons h ok r => pa_cons h r.pa (okA_star ok)
theorem cls_tys : ∀ ts : List String, Paired ClsV (ts.map .ty) (ts.map .type)
  | [] => .nil
  | t :: ts => .cons (.ty t) (cls_tys ts)
theorem s_isiT {a : Expr} {es : List Expr} {k : Nat} {tpos : Pos} {ea : E} {ts : List String} {p pos : Pos} (hg : Gl X "isinstance") (hm : X.mg "isinstance" = none) (ha : PE X a (tB X.K W C ea)) (ok : okA a = true) (hb : TyNs X es ts) (ht : ∀ t ∈ ts, t ∈ tyAsk) (hl : ts.length ≤ sizeLine) :
    PE X (.Call (.Name "isinstance" p) [a, .Tuple es k tpos] [] pos) (tE X.K W C (.isi ea ts)) :=
  impE (pe_callB call_isiT hg hm boot_isi (pa_cons ha (pa_cons (pe_tup hb.pa) pa_nil rfl) (okA_star ok)) (by decide) (by decide) (okA_star ok) rfl) fun σ H Q ⟨F, T, st, env, w, eo, p⟩ => by
    have p : Post X.K W σ F T H (rV X.K) ((bor env ea (evE C env ea) st).bnd fun x st => ofO ((isTys ts x).map .bl) st) Q := p
    refine ⟨F, T, st, env, w, eo, (Post.bnd (R1 := rBo X.K) sh_V p).mono fun x H1 ⟨F1, T1, st1, d, x1, w1, r1, p1⟩ => ?_⟩
    obtain ⟨b, e, q⟩ := isi_post p1
    obtain ⟨n, en, er⟩ := isTys_of e
    refine ⟨by rw [List.length_map]; exact hl, fun L hL => ?_⟩
    have x2 : Ext F1 T1 H1 F1 T1 (L2.upd H1 L (.tup (ts.map .ty))) := Ext.newO hL
    have w2 : WF X.K F1 T1 st1 (L2.upd H1 L (.tup (ts.map .ty))) := w1.newO hL
    obtain ⟨hn, ty⟩ := tyx_bor w2 en (r1.ext x2)
    refine ⟨x, L, ts.map .ty, .type n, ts.map .type, b, rfl, upd_same, cls_tys ts, ty, ?_, q F1 T1 _ x2 w2⟩
    rw [er, kitAny_tab hn ht]

/-! ### own instances -/
/-- what isinstance asks of the class at C -/
structure IsC (K : PySem.W.Frag) (C : Addr) : Prop where
  cl : Cls K C
  ha : PySem.W.findIn K (.ref C) "__class__" = some (some (.builtin "object.__class__"))
  hn : PySem.W.specialIn K (.builtin "object.__class__") "__get__" = some (some (.builtin "getset_descriptor.__get__"))
  ht : PySem.W.takesIn K (.builtin "object.__class__") = some true
  hm : PySem.W.mroIn K C (.type "object") = some true
def isCB (K : PySem.W.Frag) (C : Addr) : Bool := decide (PySem.W.findIn K (.ref C) "__class__" = some (some (.builtin "object.__class__"))) && (decide (PySem.W.specialIn K (.builtin "object.__class__") "__get__" = some (some (.builtin "getset_descriptor.__get__"))) && (decide (PySem.W.takesIn K (.builtin "object.__class__") = some true) && decide (PySem.W.mroIn K C (.type "object") = some true)))
theorem isCB_ok {K : PySem.W.Frag} {C : Addr} (c : Cls K C) (h : isCB K C = true) : IsC K C := by
  obtain ⟨h1, h⟩ := He.ba h
  obtain ⟨h2, h⟩ := He.ba h
  obtain ⟨h3, h4⟩ := He.ba h
  exact ⟨c, of_decide_eq_true h1, of_decide_eq_true h2, of_decide_eq_true h3, of_decide_eq_true h4⟩
theorem lookup_fld {K : PySem.W.Frag} {F : Hp} {T : List Addr} {f : Str} : ∀ {fs : List (Str × V)} {ds : List D} {d : D}, Reps K F T (fs.map (·.2)) ds → fldD f (fs.map (·.1)) ds = some d → ∃ v, fs.lookup f = some v ∧ Rep K F T v d
  | [], _, _, r, h => by cases r; cases h
  | (k, v) :: fs, _, d, r, h => by
    cases r with
    | @cons _ _ e es r rs =>
      have h : (if k = f then some e else fldD f (fs.map (·.1)) es) = some d := h
      split at h <;> rename_i c
      · cases h
        subst c
        exact ⟨v, by simp [List.lookup], r⟩
      · obtain ⟨v', e1, r'⟩ := lookup_fld rs h
        refine ⟨v', ?_, r'⟩
        have : (f == k) = false := by
          rw [beq_eq_false_iff_ne]
          exact fun z => c z.symm
        show (match f == k with | true => some v | false => fs.lookup f) = some v'
        rw [this]
        exact e1
theorem lookup_no {f : Str} : ∀ {fs : List (Str × V)}, (fs.map (·.1)).contains f = false → fs.lookup f = none
  | [], _ => rfl
  | (k, v) :: fs, h => by
    have h : (f == k || (fs.map (·.1)).contains f) = false := h
    obtain ⟨h1, h2⟩ := Bool.or_eq_false_iff.mp h
    show (match f == k with | true => some v | false => fs.lookup f) = none
    rw [h1]
    exact lookup_no h2
/-- where an instance stands -/
theorem ins_at {K : PySem.W.Frag} {F H : Hp} {T : List Addr} {st : Store} (w : WF K F T st H) {v : V} {d : D} {c : Str} {ks : List Str} {ds : List D} (b : Bor K F T H v d) (e : deref st d = some (.ins c ks ds)) :
    ∃ a dx fs, v = .ref a ∧ H a = some (.ins (He.ga K c) dx fs) ∧ fs.map (·.1) = ks ∧ Reps K F T (fs.map (·.2)) ds := by
  rcases bor_deref w b e with (b | ⟨a, e, ⟨dx, fs, h1, h2, h3⟩, _⟩) | ⟨a, e, dx, fs, h1, h2, h3⟩
  · cases b with
    | ins q e r => exact ⟨_, _, _, rfl, w.fr _ _ q, e, r⟩
  · exact ⟨a, dx, fs, e, h1, h2, h3⟩
  · exact ⟨a, dx, fs, e, h1, h2, h3⟩
theorem s_attr {o : Expr} {eo : E} {c f : Str} {pos : Pos} (hc : Cls X.K (He.ga X.K c)) (hn : NoAttr X.K (He.ga X.K c) f) (ho : PE X o (tB X.K W C eo)) (ok : okB o = true) : PE X (.Attribute o f pos) (tE X.K W C (.attr eo c f)) :=
  impE (pe_fld ho (okB_base ok)) fun σ H Q ⟨F, T, st, env, w, eo', p⟩ => by
    have p : Post X.K W σ F T H (rV X.K) ((bor env eo (evE C env eo) st).bnd fun x st => ofO ((deref st x).bind (attrD c f)) st) Q := p
    refine ⟨F, T, st, env, w, eo', (Post.bnd (R1 := rBo X.K) sh_V p).mono fun x H1 ⟨F1, T1, st1, d, x1, w1, r1, p1⟩ => ?_⟩
    cases e : deref st1 d with
    | none => rw [e] at p1; exact p1.elim
    | some d' =>
      rw [e] at p1
      cases d' with
      | ins c' ks ds =>
        have p2 : Post X.K W σ F1 T1 H1 (rV X.K) (ofO (if c' = c then fldD f ks ds else none) st1) Q := p1
        by_cases hcc : c' = c
        · subst hcc
          rw [if_pos rfl] at p2
          cases q : fldD f ks ds with
          | none => rw [q] at p2; exact p2.elim
          | some y =>
            rw [q] at p2
            obtain ⟨a, dx, fs, ev, ha, hk, rs⟩ := ins_at w1 r1 e
            subst hk
            obtain ⟨v, l, rv⟩ := lookup_fld rs q
            exact ⟨a, _, dx, fs, v, ev, ha, hc, hn, l, p2 v F1 T1 H1 (.refl _ _ _) w1 rv⟩
        · rw [if_neg hcc] at p2
          exact p2.elim
      | _ => exact p1.elim

end

/-! ### calls of the module's own defs -/
/-- what a def promises, by the evaluator -/
def spN (K : PySem.W.Frag) (C : Calls) (n : Nat) : Sp := fun vs H Q E => ∃ F T st ds, WF K F T st H ∧ Reps K F T vs ds ∧ Post K ⟨fun c d _ H => E c d H, none, {}, false⟩ [] F T H (rV K) (C n ds st) Q
/-- what an __init__ promises: the new instance at x -/
def spI (K : PySem.W.Frag) (C : Calls) (n : Nat) (c : Str) : Sp := fun vs H Q E => ∃ F T st ds H1 x dx ws, vs = .ref x :: ws ∧ H1 x = none ∧ H1 dx = none ∧ dx ≠ x ∧ H = L2.upd (L2.upd H1 dx (.own x)) x (.ins (He.ga K c) dx []) ∧
  WF K F T st H1 ∧ Reps K F T ws ds ∧ Post (β := Unit) K ⟨fun c d _ H => E c d H, none, {}, false⟩ [] F T H1 (fun _ F' T' _ d _ => Rep K F' T' (.ref x) d) (C n ds st) fun _ H' => Q .non H'
structure DefOk (P : Program) (w : World) (K : PySem.W.Frag) (mg : Str → Option Value) (base : Heap) (k : Nat) (C : Calls) (f : Str) (n : Nat) : Prop where
  fn : ∃ fd ps, FnOk P w K mg base (L2.CX P w) k (He.ga K f) fd ps (spN K C n) ∧ Binds K fd ps []
  mg : mg f = some (.ref (He.ga K f))
  kp : PySem.W.keepIn K (.ref (He.ga K f)) = true
/-- the method m of the class c -/
structure MethOk (P : Program) (w : World) (K : PySem.W.Frag) (mg : Str → Option Value) (base : Heap) (k : Nat) (C : Calls) (c m : Str) (n : Nat) : Prop where
  fn : ∃ fd ps, FnOk P w K mg base (L2.CX P w) k (He.ma K (He.ga K c) m) fd ps (spN K C n) ∧ Binds K fd ps []
  cl : Cls K (He.ga K c)
  me : Meth K (He.ga K c) m (He.ma K (He.ga K c) m)
/-- the class c, made -/
structure MakeOk (P : Program) (w : World) (K : PySem.W.Frag) (mg : Str → Option Value) (base : Heap) (k : Nat) (C : Calls) (c : Str) (n : Nat) : Prop where
  fn : ∃ fd ps, FnOk P w K mg base (L2.CX P w) k (He.ma K (He.ga K c) "__init__") fd ps (spI K C n c) ∧ Binds K fd ps []
  mg : mg c = some (.ref (He.ga K c))
  mkr : Mk K (He.ga K c) (He.ma K (He.ga K c) "__init__")
section
variable {X : Cx} {W : WW} {C : Calls}
theorem post_call {K : PySem.W.Frag} {α β : Type} {R : RR α β} {σ : L2.St} {F H : Hp} {T : List Addr} {o : Out α} {Q : β → Hp → Prop} (p : Post K W σ F T H R o Q) : Post K ⟨fun c d _ H => WE W σ c d H, none, {}, false⟩ [] F T H R o Q := by
  cases o with
  | ok a st => exact p
  | ex c ks ds st => exact p
  | bad => exact p
theorem s_call {k n : Nat} {f : Str} {a : Expr} {as : List Expr} {es : Es} {p pos : Pos} (h : DefOk X.prog X.w X.K X.mg X.base k C f n) (hr : Room k X.A) (hg : Gl X f) (tk : Takes X W) (ha : PA X (a :: as) (tEs X.K W C es)) (ok : okA a = true) (oks : okAs as = true) (hd : (f == ("__debug__" : Str)) = false) :
    PE X (.Call (.Name f p) (a :: as) [] pos) (tE X.K W C (.call n es)) := by
  obtain ⟨fd, ps, F, b⟩ := h.fn
  refine impE (pe_callSD (E := fun σ => WE W σ) F hr hg h.mg h.kp b .nil (passAt tk) ha hd (okA_star ok) (okAs_plain oks)) fun σ H Q ⟨F, T, st, env, w, eo, p⟩ => ?_
  have p : Post X.K W σ F T H (rV X.K) ((evEs C env es st).bnd fun ds st => C n ds st) Q := p
  refine ⟨F, T, st, env, w, eo, (Post.bnd (R1 := rVs X.K) sh_V p).mono fun vs H1 ⟨F1, T1, st1, ds, x1, w1, r1, p1⟩ => ?_⟩
  exact ⟨F1, T1, st1, ds, w1, by rw [List.append_nil]; exact r1, post_call p1⟩
theorem s_call0 {k n : Nat} {f : Str} {p pos : Pos} (h : DefOk X.prog X.w X.K X.mg X.base k C f n) (hr : Room k X.A) (hg : Gl X f) (tk : Takes X W) (hd : (f == ("__debug__" : Str)) = false) :
    PE X (.Call (.Name f p) [] [] pos) (tE X.K W C (.call n .nil)) := by
  obtain ⟨fd, ps, F, b⟩ := h.fn
  refine ⟨fun pins s σ H Q I ⟨F0, T, st, env, w, eo, q⟩ => wpAny_Call_Name_kw (ld_glob I hg h.mg ?_ hd)⟩
  exact PySem.W.callWith_K0 I.kIn h.kp (run_fnSD (E := fun σ => WE W σ) (us := []) (vs := []) F hr b .nil (passAt tk σ) I .nil ⟨F0, T, st, [], w, .nil, post_call q⟩)
end
end Eng
set_option Elab.async false
set_option linter.all false
set_option maxRecDepth 100000
/-! Eng 13: statements -/
namespace Eng
open PySem PySem.Spec PyProof.Rows L2

/-- where a statement's flow is wished -/
def PostF (K : PySem.W.Frag) (xi : XB) (F : Hp) (T : List Addr) (H : Hp) (σ : L2.St) (D : Ends) : Fl → Prop
  | .nx e => EnvOk K xi F T H e σ → D.nx σ H
  | .bk e => EnvOk K xi F T H e σ → D.bk σ H
  | .ct e => EnvOk K xi F T H e σ → D.ct σ H
  | .rt d => ∀ v, Rep K F T v d → D.rt v H
/-- behind a statement: from the ghost (F, T) on; env is what a clause may look at -/
def PostS (K : PySem.W.Frag) (W : WW) (F : Hp) (T : List Addr) (env : Env) (o : Out Fl) (D : Ends) : Prop := match o with
  | .ok f st' => ∀ F' T' H' σ', Same F F' → Pre T T' → Ext W.B.F W.B.T W.B.H F' T' H' → WF K F' T' st' H' → PostF K W.xi F' T' H' σ' D f
  | .ex c ks ds st' => ∀ dx F' T' H' σ', Same F F' → Pre T T' → Ext W.B.F W.B.T W.B.H F' T' H' → WF K F' T' st' H' → XRep K F' T' H' ks ds dx → (W.sv = true → EnvOk K W.xi F' T' H' env σ') → W (.ref (He.ga K c)) dx σ' H'
  | .bad => False
/-- a statement's reading, by the evaluator -/
def tS (K : PySem.W.Frag) (W : WW) (m : Env → Store → Out Fl) : TS := fun D σ H => ∃ F T st env, Ext W.B.F W.B.T W.B.H F T H ∧ WF K F T st H ∧ EnvOk K W.xi F T H env σ ∧ PostS K W F T env (m env st) D
section
variable {α β : Type} {K : PySem.W.Frag} {W : WW} {F F1 H : Hp} {T T1 : List Addr} {st : Store} {env : Env} {σ : L2.St} {D : Ends}
theorem PostS.shift {o : Out Fl} (p : PostS K W F T env o D) (hF : Same F F1) (hT : Pre T T1) : PostS K W F1 T1 env o D := by
  cases o with
  | bad => exact p
  | ok f st => exact fun F' T' H' σ' a b => p F' T' H' σ' (hF.trans a) (hT.trans b)
  | ex c ks ds st => exact fun dx F' T' H' σ' a b => p dx F' T' H' σ' (hF.trans a) (hT.trans b)
/-- the first step of a statement is an evaluation -/
theorem PostS.step {R1 : RR α β} {o : Out α} {f : α → Store → Out Fl} (x : Ext W.B.F W.B.T W.B.H F T H) (eo : W.sv = true → EnvOk K W.xi F T H env σ) (p : PostS K W F T env (o.bnd f) D) :
    Post K W σ F T H R1 o fun b H1 => ∃ F1 T1 st1 a, Ext F T H F1 T1 H1 ∧ WF K F1 T1 st1 H1 ∧ R1 H F1 T1 H1 a b ∧ PostS K W F1 T1 env (f a st1) D := by
  cases o with
  | bad => exact p
  | ok a st => exact fun b F' T' H' y w r => ⟨F', T', st, a, y, w, r, p.shift y.fr y.pre⟩
  | ex c ks ds st => exact fun dx F' T' H' y w r => p dx F' T' H' σ y.fr y.pre (x.trans y) w r fun h => (eo h).ext y
/-- the first step of a statement is a statement -/
theorem PostS.bnd {o : Out Fl} {f : Fl → Store → Out Fl} {D' : Ends} (p : PostS K W F T env (o.bnd f) D)
    (h : ∀ F' T' H' σ' g st', Same F F' → Pre T T' → Ext W.B.F W.B.T W.B.H F' T' H' → WF K F' T' st' H' → o = .ok g st' → PostS K W F' T' env (f g st') D → PostF K W.xi F' T' H' σ' D' g) : PostS K W F T env o D' := by
  cases o with
  | bad => exact p
  | ok g st => exact fun F' T' H' σ' a b x w => h F' T' H' σ' g st a b x w rfl (p.shift a b)
  | ex c ks ds st => exact p
end

/-! ### things of the frame's own become frozen -/
theorem freeze_get {env : Env} {j : Nat} {s : Sl} : ∀ {fz : List Nat}, (freeze env fz)[j]? = some s → ∃ s0, env[j]? = some s0 ∧ (s = s0 ∨ s = freeze1 s0)
  | [], h => ⟨s, h, .inl rfl⟩
  | i :: fz, h => by
    unfold freeze at h
    rw [List.getElem?_modify] at h
    cases e : (freeze env fz)[j]? with
    | none => rw [e] at h; cases h
    | some s1 =>
      obtain ⟨s0, h0, h1⟩ := freeze_get e
      rw [e] at h
      have h : some (if i = j then freeze1 s1 else s1) = some s := h
      refine ⟨s0, h0, ?_⟩
      by_cases c : i = j
      · rw [if_pos c] at h
        cases h
        rcases h1 with h1 | h1
        · exact .inr (by rw [h1])
        · refine .inr ?_
          rw [h1]
          cases s0 <;> rfl
      · rw [if_neg c] at h
        cases h
        exact h1
section
variable {K : PySem.W.Frag} {xi : XB} {F H : Hp} {T : List Addr} {st : Store} {env : Env} {σ : L2.St} {F0 : Hp} {T0 : List Addr}
theorem freeze_one (i : Nat) (x : Ext F0 T0 xi.H0 F T H) (w : WF K F T st H) (eo : EnvOk K xi F T H env σ) : ∃ F1, Same F F1 ∧ Ext F0 T0 xi.H0 F1 T H ∧ WF K F1 T st H ∧ EnvOk K xi F1 T H (env.modify i freeze1) σ := by
  have same : (∀ d, env[i]? ≠ some (.own d)) → env.modify i freeze1 = env := fun h => by
    apply List.ext_getElem?
    intro j
    rw [List.getElem?_modify]
    cases e : env[j]? with
    | none => rfl
    | some s =>
      show some (if i = j then freeze1 s else s) = some s
      by_cases c : i = j
      · subst c
        rw [if_pos rfl]
        cases s with
        | own d => exact absurd e (h d)
        | _ => rfl
      · rw [if_neg c]
  by_cases hi : ∃ d, env[i]? = some (.own d)
  · obtain ⟨d, hd⟩ := hi
    obtain ⟨a, e1, r, f, n, z⟩ := eo.at_ i _ hd
    obtain ⟨o, ho⟩ := r.there
    have sm : Same F (L2.upd F a o) := fun b u e => by rw [upd_ne (ne_of_none e f)]; exact e
    refine ⟨L2.upd F a o, sm, Ext.freeze ho f n x z, w.freeze ho f n, ⟨fun j s hs => ?_, by rw [List.length_modify]; exact eo.len, fun j l d1 d2 p ne h1 h2 h3 h4 => ?_⟩⟩
    · rw [List.getElem?_modify] at hs
      cases e : env[j]? with
      | none => rw [e] at hs; cases hs
      | some s0 =>
        rw [e] at hs
        have hs : some (if i = j then freeze1 s0 else s0) = some s := hs
        by_cases c : i = j
        · subst c
          rw [if_pos rfl] at hs
          rw [hd] at e
          cases e
          cases hs
          exact ⟨.ref a, e1, r.rep sm fun o' e' => by rw [upd_same, ← e', ho]⟩
        · rw [if_neg c] at hs
          cases hs
          have q := eo.at_ j s e
          cases s with
          | no => trivial
          | val d' => obtain ⟨v, h1, h2⟩ := q; exact ⟨v, h1, h2.mono sm (.refl _)⟩
          | own d' =>
            obtain ⟨b, h1, h2, h3, h4, h5⟩ := q
            have nb : b ≠ a := fun z => eo.apart i j d d' a c hd e e1 (by rw [← z]; exact h1)
            exact ⟨b, h1, h2.mono sm (.refl _) fun _ h => h, by rw [upd_ne nb]; exact h3, h4, h5⟩
          | xc c' ks ds =>
            obtain ⟨y, h1, h2, h3, h4⟩ := q
            refine ⟨y, h1, h2, h3, ?_⟩
            rcases h4 with h4 | ⟨b, fs, g1, g2, g3, g4, g5⟩
            · exact .inl h4
            · exact .inr ⟨b, fs, g1, g2, g3, g4, g5.mono sm (.refl _)⟩
    · have own_of : ∀ {j : Nat} {d1 : D}, (env.modify i freeze1)[j]? = some (.own d1) → env[j]? = some (.own d1) := fun {j d1} h => by
        rw [List.getElem?_modify] at h
        cases e : env[j]? with
        | none => rw [e] at h; cases h
        | some s0 =>
          rw [e] at h
          have h : some (if i = j then freeze1 s0 else s0) = some (Sl.own d1) := h
          by_cases c : i = j
          · rw [if_pos c] at h
            cases s0 <;> cases h
          · rw [if_neg c] at h
            exact h
      exact eo.apart j l d1 d2 p ne (own_of h1) (own_of h2) h3 h4
  · rw [same fun d h => hi ⟨d, h⟩]
    exact ⟨F, .refl _, x, w, eo⟩
theorem freeze_ok (x : Ext F0 T0 xi.H0 F T H) (w : WF K F T st H) (eo : EnvOk K xi F T H env σ) : ∀ fz : List Nat, ∃ F1, Same F F1 ∧ Ext F0 T0 xi.H0 F1 T H ∧ WF K F1 T st H ∧ EnvOk K xi F1 T H (freeze env fz) σ
  | [] => ⟨F, .refl _, x, w, eo⟩
  | i :: fz => by
    obtain ⟨F1, a1, x1, w1, e1⟩ := freeze_ok x w eo fz
    obtain ⟨F2, a2, x2, w2, e2⟩ := freeze_one i x1 w1 e1
    exact ⟨F2, a1.trans a2, x2, w2, e2⟩
end

/-! ### sequences -/
section
variable {X : Cx} {W : WW} {C : Calls}
abbrev tSt (K : PySem.W.Frag) (W : WW) (C : Calls) (s : S) : TS := tS K W (evS C s)
abbrev tSs (K : PySem.W.Frag) (W : WW) (C : Calls) (ss : Ss) : TS := tS K W (evSs C ss)
theorem ss_nil : PSs X [] (tSs X.K W C .nil) := impSs pss_nil fun D σ H ⟨F, T, st, env, x, w, eo, p⟩ => p F T H σ (.refl _) (.refl _) x w eo
theorem ss_rd {s : S} {ss : Ss} (hsv : W.sv = false ∨ ∀ env st env' st', evS C s env st = .ok (.nx env') st' → env' = env) {D : Ends} {σ : L2.St} {H : Hp} (h : tSs X.K W C (.cons s ss) D σ H) : tSeq (tSt X.K W C s) (tSs X.K W C ss) D σ H := by
  obtain ⟨F, T, st, env, x, w, eo, p⟩ := h
  have p : PostS X.K W F T env ((evS C s env st).bnd fun f st => (match f with
    | .nx env' => evSs C ss env' st
    | .rt d => .ok (.rt d) st
    | .bk env => .ok (.bk env) st
    | .ct env => .ok (.ct env) st)) D := p
  refine ⟨F, T, st, env, x, w, eo, p.bnd fun F' T' H' σ' g st' a b x' w' e p' => ?_⟩
  cases g with
  | nx env' =>
    intro eo'
    refine ⟨F', T', st', env', x', w', eo', ?_⟩
    have p' : PostS X.K W F' T' env (evSs C ss env' st') D := p'
    rcases hsv with hsv | hsv
    · revert p'
      cases evSs C ss env' st' with
      | bad => exact id
      | ok f st => exact id
      | ex c ks ds st => exact fun p' dx F' T' H' σ' a b x w r _ => p' dx F' T' H' σ' a b x w r fun h => by rw [hsv] at h; cases h
    · rw [hsv _ _ _ _ e]
      rw [hsv _ _ _ _ e] at p'
      exact p'
  | rt d => exact p' F' T' H' σ' (.refl _) (.refl _) x' w'
  | bk env' => exact p' F' T' H' σ' (.refl _) (.refl _) x' w'
  | ct env' => exact p' F' T' H' σ' (.refl _) (.refl _) x' w'
theorem ss_cons {a : Stmt} {as : List Stmt} {s : S} {ss : Ss} (hsv : W.sv = false ∨ ∀ env st env' st', evS C s env st = .ok (.nx env') st' → env' = env) (h : PS X a (tSt X.K W C s)) (hs : PSs X as (tSs X.K W C ss)) : PSs X (a :: as) (tSs X.K W C (.cons s ss)) :=
  impSs (pss_cons h hs) fun D σ H h => ss_rd hsv h

/-! ### the simple ones -/
theorem ss_pass {pos : Pos} : PS X (.Pass pos) (tSt X.K W C .pass) := impS ps_pass fun D σ H ⟨F, T, st, env, x, w, eo, p⟩ => p F T H σ (.refl _) (.refl _) x w eo
theorem ss_brk {pos : Pos} : PS X (.Break pos) (tSt X.K W C .brk) := impS ps_break fun D σ H ⟨F, T, st, env, x, w, eo, p⟩ => p F T H σ (.refl _) (.refl _) x w eo
theorem ss_cont {pos : Pos} : PS X (.Continue pos) (tSt X.K W C .cont) := impS ps_continue fun D σ H ⟨F, T, st, env, x, w, eo, p⟩ => p F T H σ (.refl _) (.refl _) x w eo
theorem ss_doc {x : Str} {j : Nat} {pos pos' : Pos} : PS X (.Expr (.Constant (.str x) j pos) pos') (tSt X.K W C .pass) := impS ps_doc fun D σ H ⟨F, T, st, env, x, w, eo, p⟩ => p F T H σ (.refl _) (.refl _) x w eo
/-- the ghost, after things have been frozen ahead of a statement -/
theorem fz_go {fz : List Nat} (hz : W.sv = false ∨ fz = []) {F H : Hp} {T : List Addr} {st : Store} {env : Env} {σ : L2.St} {o : Out Fl} {D : Ends} (x : Ext W.B.F W.B.T W.B.H F T H) (w : WF X.K F T st H) (eo : EnvOk X.K W.xi F T H env σ)
    (p : PostS X.K W F T env o D) : ∃ F1, Ext W.B.F W.B.T W.B.H F1 T H ∧ WF X.K F1 T st H ∧ EnvOk X.K W.xi F1 T H (freeze env fz) σ ∧ (W.sv = true → EnvOk X.K W.xi F1 T H env σ) ∧ PostS X.K W F1 T env o D := by
  obtain ⟨F1, a, x1, w1, e1⟩ := freeze_ok x w eo fz
  refine ⟨F1, x1, w1, e1, fun h => ?_, p.shift a (.refl _)⟩
  rcases hz with hz | hz
  · rw [hz] at h; cases h
  · subst hz
    exact e1
theorem ss_ret {e : Expr} {ir : E} {fz : List Nat} {pos : Pos} (hz : W.sv = false ∨ fz = []) (he : PE X e (tE X.K W C ir)) : PS X (.Return (some e) pos) (tSt X.K W C (.ret fz ir)) :=
  impS (ps_ret he) fun D σ H ⟨F, T, st, env, x, w, eo, p⟩ => by
    have p : PostS X.K W F T env ((evE C (freeze env fz) ir st).bnd fun d st => .ok (.rt d) st) D := p
    obtain ⟨F1, x1, w1, eo1, es1, p1⟩ := fz_go hz x w eo p
    refine ⟨F1, T, st, _, w1, eo1, (p1.step (R1 := rV X.K) x1 es1).mono fun v H2 ⟨F2, T2, st2, d, x2, w2, r2, p2⟩ => ?_⟩
    exact p2 F2 T2 H2 σ (.refl _) (.refl _) (x1.trans x2) w2 v r2
theorem ss_retN {pos : Pos} : PS X (.Return none pos) (tSt X.K W C (.ret [] (.c .non))) :=
  impS ps_retN fun D σ H ⟨F, T, st, env, x, w, eo, p⟩ => p F T H σ (.refl _) (.refl _) x w .non .non
theorem ss_ex {e : Expr} {ir : E} {pos : Pos} (he : PE X e (tE X.K W C ir)) (hs : swapsWith e none pos.line X.env = pure false) : PS X (.Expr e pos) (tSt X.K W C (.ex ir)) :=
  impS (ps_expr he hs) fun D σ H ⟨F, T, st, env, x, w, eo, p⟩ => by
    have p : PostS X.K W F T env ((evE C env ir st).bnd fun _ st => .ok (.nx env) st) D := p
    refine ⟨F, T, st, env, w, eo, (p.step (R1 := rV X.K) x fun _ => eo).mono fun v H2 ⟨F2, T2, st2, d, x2, w2, r2, p2⟩ => ?_⟩
    exact p2 F2 T2 H2 σ (.refl _) (.refl _) (x.trans x2) w2 (eo.ext x2)
theorem ss_if {c : Expr} {a b : List Stmt} {ic : E} {ia ib : Ss} {pos : Pos} (hc : PT X c (tT X.K W C ic)) (ha : PSs X a (tSs X.K W C ia)) (hb : PSs X b (tSs X.K W C ib)) : PS X (.If c a b pos) (tSt X.K W C (.ifs ic ia ib)) :=
  impS (ps_if hc ha hb) fun D σ H ⟨F, T, st, env, x, w, eo, p⟩ => by
    have p : PostS X.K W F T env ((evT C env ic st).bnd fun r st => (match r with | true => evSs C ia env st | false => evSs C ib env st)) D := p
    refine ⟨F, T, st, env, w, eo, (p.step (R1 := rEq) x fun _ => eo).mono fun r H2 ⟨F2, T2, st2, d, x2, w2, r2, p2⟩ => ?_⟩
    have r2 : d = r := r2
    subst r2
    cases d with
    | true => simp only [if_true]; exact ⟨F2, T2, st2, env, x.trans x2, w2, eo.ext x2, p2⟩
    | false => simp only [Bool.false_eq_true, if_false]; exact ⟨F2, T2, st2, env, x.trans x2, w2, eo.ext x2, p2⟩
theorem asg_rd {fz : List Nat} {tg : Tg} {ir : E} (hz : W.sv = false ∨ fz = []) {D : Ends} {σ : L2.St} {H : Hp} (h : tSt X.K W C (.asg fz tg ir) D σ H) : tAsg (tE X.K W C ir) (gT X.K tg) D σ H := by
  obtain ⟨F, T, st, env, x, w, eo, p⟩ := h
  have p : PostS X.K W F T env ((evE C (freeze env fz) ir st).bnd fun d st => (ofO (bind1 tg d (freeze env fz)) st).bnd fun env' st => .ok (.nx env') st) D := p
  obtain ⟨F1, x1, w1, eo1, es1, p1⟩ := fz_go hz x w eo p
  refine ⟨F1, T, st, _, w1, eo1, (p1.step (R1 := rV X.K) x1 es1).mono fun v H2 ⟨F2, T2, st2, d, x2, w2, r2, p2⟩ => ?_⟩
  cases e : bind1 tg d (freeze env fz) with
  | none => rw [e] at p2; exact p2.elim
  | some env' =>
    rw [e] at p2
    exact bind_ok w2 r2 (eo1.ext x2) e fun σ' eo' _ => p2 F2 T2 H2 σ' (.refl _) (.refl _) (x1.trans x2) w2 eo'
theorem ss_set {i : Nat} {y : Str} {e : Expr} {ir : E} {fz : List Nat} {pos pos' : Pos} (hz : W.sv = false ∨ fz = []) (hN : X.N.Nodup) (hi : X.N[i]? = some y) (hx : Loc X.env.scope y) (he : PE X e (tE X.K W C ir)) (hs : swapsWith e (some (.Name y pos')) pos.line X.env = pure false)
    (hf : X.fn y = true ∨ X.env.scope.names.lookup y = some .local) : PS X (.Assign [.Name y pos'] e pos) (tSt X.K W C (.asg fz (.v i) ir)) :=
  impS (ps_set hN hi hx he hs hf) fun D σ H h => asg_rd hz h
theorem ss_asg {tg e : Expr} {tgI : Tg} {ir : E} {fz : List Nat} {pos : Pos} (hz : W.sv = false ∨ fz = []) (he : PE X e (tE X.K W C ir)) (hg : PG X tg (gT X.K tgI)) (hs : swapsWithSole [tg] e pos.line X.env = pure false) (hw : swappedStores [tg] e X.env = pure none)
    (h1 : (assignEach [tg] X.env).map (·.2) = [assign tg X.env]) : PS X (.Assign [tg] e pos) (tSt X.K W C (.asg fz tgI ir)) :=
  impS (ps_asg he hg hs hw h1) fun D σ H h => asg_rd hz h
/-! ### targets -/
theorem g_v {i : Nat} {y : Str} {pos : Pos} (hN : X.N.Nodup) (hi : X.N[i]? = some y) (hx : Loc X.env.scope y) (hf : X.fn y = true ∨ X.env.scope.names.lookup y = some .local) : PG X (.Name y pos) (gT X.K (.v i)) := pg_name hN hi hx hf
theorem g_nil : PGs X [] (gTs X.K .nil) := pgs_nil
theorem g_cons {e : Expr} {es : List Expr} {t : Tg} {ts : Tgs} (h1 : PG X e (gT X.K t)) (h2 : PGs X es (gTs X.K ts)) (hs : (assignEach (e :: es) X.env).map (·.2) = assign e X.env :: (assignEach es X.env).map (·.2)) : PGs X (e :: es) (gTs X.K (.cons t ts)) := pgs_cons h1 h2 hs
theorem g_t {es : List Expr} {k : Nat} {ts : Tgs} {pos : Pos} (hc : X.calm = true) (h : PGs X es (gTs X.K ts)) (hn : (assignEach es X.env).length = lenT ts) (hst : (assignEach es X.env).findIdx? (·.1) = none) : PG X (.Tuple es k pos) (gT X.K (.t ts)) := pg_tup hc h hn hst

/-! ### fresh things -/
theorem fresh_of {K : PySem.W.Frag} {H F H' : Hp} {T : List Addr} {d : D} {v : V} (c : isCont d = true) (r : rD K H F T H' d v) : Fresh K H F T H' d v := by
  unfold rD at r
  rw [if_pos c] at r
  exact r
theorem EnvOk.setOwn {xi : XB} {K : PySem.W.Frag} {F H : Hp} {T : List Addr} {env : Env} {σ : L2.St} (eo : EnvOk K xi F T H env σ) (i : Nat) {d : D} {a : Addr} (r : RepTop K F T H a d) (f : F a = none) (n : a ∉ T) (z : xi.H0 a = none)
    (ap : ∀ j d', env[j]? = some (.own d') → σ[j]? = some (some (.ref a)) → j = i) : EnvOk K xi F T H (env.set i (.own d)) (σ.set i (some (.ref a))) := by
  refine ⟨fun j s hs => ?_, by rw [List.length_set, List.length_set]; exact eo.len, fun j l d1 d2 p ne h1 h2 h3 h4 => ?_⟩
  · rw [List.getElem?_set] at hs
    split at hs <;> rename_i c
    · subst c
      split at hs <;> rename_i l
      · cases hs
        rw [List.getElem?_set_self (Nat.lt_of_lt_of_le l eo.len)]
        exact ⟨a, rfl, r, f, n, z⟩
      · cases hs
    · rw [List.getElem?_set_ne c]
      exact eo.at_ j s hs
  · by_cases c : i = j
    · subst c
      have c2 : i ≠ l := ne
      rw [List.getElem?_set_ne c2] at h2 h4
      have li : i < σ.length := by
        by_cases q : i < σ.length
        · exact q
        · rw [List.getElem?_eq_none (by rw [List.length_set]; omega)] at h3
          cases h3
      rw [List.getElem?_set_self li] at h3
      cases h3
      exact c2 (ap l d2 h2 h4).symm
    · rw [List.getElem?_set_ne c] at h1 h3
      by_cases c2 : i = l
      · subst c2
        have li : i < σ.length := by
          by_cases q : i < σ.length
          · exact q
          · rw [List.getElem?_eq_none (by rw [List.length_set]; omega)] at h4
            cases h4
        rw [List.getElem?_set_self li] at h4
        cases h4
        exact c (ap j d1 h1 h3).symm
      · rw [List.getElem?_set_ne c2] at h2 h4
        exact eo.apart j l d1 d2 p ne h1 h2 h3 h4
/-- nothing stands at a new address -/
theorem no_old {xi : XB} {K : PySem.W.Frag} {F H : Hp} {T : List Addr} {env : Env} {σ : L2.St} (eo : EnvOk K xi F T H env σ) {a : Addr} (h : H a = none) (i : Nat) : ∀ j d', env[j]? = some (.own d') → σ[j]? = some (some (.ref a)) → j = i := fun j d' h1 h2 => by
  obtain ⟨b, e1, r, _⟩ := eo.at_ j _ h1
  rw [h2] at e1
  cases e1
  obtain ⟨o, ho⟩ := r.there
  rw [h] at ho
  cases ho
theorem own_rd {i : Nat} {ir : E} {te : TE} (hte : ∀ σ H Q, tDr X.K W C ir σ H Q → te σ H Q) {D : Ends} {σ : L2.St} {H : Hp} (h : tSt X.K W C (.own i ir) D σ H) : tAsg te (gName i) D σ H := by
  obtain ⟨F, T, st, env, x, w, eo, p⟩ := h
  have p : PostS X.K W F T env ((evE C env ir st).bnd fun d st => chkO (isCont d) (.ok (.nx (env.set i (.own d))) st)) D := p
  refine hte σ H _ ⟨F, T, st, env, w, eo, (p.step (R1 := rD X.K) x fun _ => eo).mono fun v H2 ⟨F2, T2, st2, d, x2, w2, r2, p2⟩ => ?_⟩
  cases c : isCont d with
  | false => rw [c] at p2; exact p2.elim
  | true =>
    rw [c] at p2
    obtain ⟨a, e, rt, f, n, z⟩ := fresh_of c r2
    subst e
    exact p2 F2 T2 H2 _ (.refl _) (.refl _) (x.trans x2) w2 ((eo.ext x2).setOwn i rt f n (x.none a z) fun j d' h1 h2 => no_old eo z i j d' h1 h2)
theorem ss_own {i : Nat} {y : Str} {e : Expr} {ir : E} {pos pos' : Pos} (hN : X.N.Nodup) (hi : X.N[i]? = some y) (hx : Loc X.env.scope y) (he : PE X e (tDr X.K W C ir)) (hs : swapsWith e (some (.Name y pos')) pos.line X.env = pure false)
    (hf : X.fn y = true ∨ X.env.scope.names.lookup y = some .local) : PS X (.Assign [.Name y pos'] e pos) (tSt X.K W C (.own i ir)) :=
  impS (ps_set hN hi hx he hs hf) fun D σ H h => own_rd (fun _ _ _ h => h) h
end
end Eng
set_option Elab.async false
set_option linter.all false
set_option maxRecDepth 100000
/-! Eng 14: statements that change things; loops -/
namespace Eng
open PySem PySem.Spec PyProof.Rows L2

section
variable {K : PySem.W.Frag} {xi : XB} {F H F0 : Hp} {T T0 : List Addr} {st : Store} {env : Env} {σ : L2.St} {a : Addr} {o : HO}
/-- a fresh thing comes into the store -/
theorem wf_track (w : WF K F T st H) {d : D} (r : RepTop K F T H a d) (f : F a = none) (n : a ∉ T) : WF K F (T ++ [a]) (st ++ [d]) H := by
  refine ⟨w.fr, by rw [List.length_append, List.length_append, w.len]; rfl, ?_, fun b hb => ?_, fun i d' e => ?_⟩
  · rw [List.nodup_append]
    refine ⟨w.nd, List.pairwise_singleton _ _, fun x hx y hy => ?_⟩
    rw [List.mem_singleton.mp hy]
    exact fun z => n (z ▸ hx)
  · rcases List.mem_append.mp hb with h | h
    · exact w.nf b h
    · rw [List.mem_singleton.mp h]
      exact f
  · by_cases c : i < st.length
    · rw [List.getElem?_append_left c] at e
      obtain ⟨b, h1, h2⟩ := w.at_ i d' e
      exact ⟨b, Pre.snoc T a i b h1, h2.mono (.refl _) (Pre.snoc T a) fun _ h => h⟩
    · rw [List.getElem?_append_right (by omega)] at e
      have ei : i = st.length := by
        by_cases q : i - st.length = 0
        · omega
        · rw [List.getElem?_eq_none (by simp; omega)] at e
          cases e
      subst ei
      rw [Nat.sub_self] at e
      cases e
      refine ⟨a, ?_, r.mono (.refl _) (Pre.snoc T a) fun _ h => h⟩
      rw [w.len, List.getElem?_append_right (Nat.le_refl _), Nat.sub_self]
      rfl
theorem ext_track {H0 : Hp} (x : Ext F0 T0 H0 F T H) (z : H0 a = none) : Ext F0 T0 H0 F (T ++ [a]) H := by
  refine ⟨x.fr, x.pre.trans (Pre.snoc T a), x.newF, fun b hb nb => ?_, x.keep, x.there⟩
  rcases List.mem_append.mp hb with h | h
  · exact x.newT b h nb
  · rw [List.mem_singleton.mp h]
    exact z
theorem env_track (eo : EnvOk K xi F T H env σ) (n : ∀ (j : Nat) (d' : D), env[j]? = some (Sl.own d') → σ[j]? ≠ some (some (V.ref a))) (nx : ∀ fs, H a ≠ some (.xd fs)) : EnvOk K xi F (T ++ [a]) H env σ := by
  refine ⟨fun j s e => ?_, eo.len, eo.apart⟩
  have q := eo.at_ j s e
  cases s with
  | no => trivial
  | val d => obtain ⟨v, h1, h2⟩ := q; exact ⟨v, h1, h2.mono (.refl _) (Pre.snoc T a)⟩
  | own d =>
    obtain ⟨b, h1, h2, h3, h4, h5⟩ := q
    refine ⟨b, h1, h2.mono (.refl _) (Pre.snoc T a) fun _ h => h, h3, fun m => ?_, h5⟩
    rcases List.mem_append.mp m with h | h
    · exact h4 h
    · rw [List.mem_singleton.mp h] at h1
      exact n j d e h1
  | xc c ks ds =>
    obtain ⟨y, h1, h2, h3, h4⟩ := q
    refine ⟨y, h1, h2, h3, ?_⟩
    rcases h4 with h4 | ⟨b, fs, g1, g2, g3, g4, g5⟩
    · exact .inl h4
    · refine .inr ⟨b, fs, g1, g2, fun m => ?_, g4, g5.mono (.refl _) (Pre.snoc T a)⟩
      rcases List.mem_append.mp m with h | h
      · exact g3 h
      · rw [List.mem_singleton.mp h] at g2
        exact nx fs g2
/-- a thing of the frame's own is changed -/
theorem env_updOwn (eo : EnvOk K xi F T H env σ) {i : Nat} {d d' : D} (hi : env[i]? = some (.own d)) (ha : σ[i]? = some (some (.ref a))) (r : RepTop K F T (L2.upd H a o) a d') (nx : ∀ fs, H a ≠ some (.xd fs)) :
    EnvOk K xi F T (L2.upd H a o) (env.set i (.own d')) σ := by
  obtain ⟨a', e1, r0, f, n, z⟩ := eo.at_ i _ hi
  rw [ha] at e1
  cases e1
  refine ⟨fun j s e => ?_, by rw [List.length_set]; exact eo.len, fun j l d1 d2 p ne h1 h2 h3 h4 => ?_⟩
  · rw [List.getElem?_set] at e
    split at e <;> rename_i c
    · subst c
      split at e
      · cases e
        exact ⟨a, ha, r, f, n, z⟩
      · cases e
    · have q := eo.at_ j s e
      cases s with
      | no => trivial
      | val d => exact q
      | own d2 =>
        obtain ⟨b, h1, h2, h3, h4, h5⟩ := q
        have nb : b ≠ a := fun z => eo.apart i j _ _ a c hi e ha (by rw [← z]; exact h1)
        exact ⟨b, h1, h2.mono (.refl _) (.refl _) fun o' e' => by
          by_cases q : b = a
          · exact absurd q nb
          · rw [upd_ne q]; exact e', h3, h4, h5⟩
      | xc c ks ds =>
        obtain ⟨y, h1, h2, h3, h4⟩ := q
        refine ⟨y, h1, h2, h3, ?_⟩
        rcases h4 with h4 | ⟨b, fs, g1, g2, g3, g4, g5⟩
        · exact .inl h4
        · refine .inr ⟨b, fs, g1, ?_, g3, g4, g5⟩
          rw [upd_ne (fun z => nx fs (by rw [← z]; exact g2))]
          exact g2
  · have own_of : ∀ {k : Nat} {d3 : D}, (env.set i (.own d'))[k]? = some (.own d3) → ∃ d4, env[k]? = some (.own d4) := fun {k d3} h => by
      rw [List.getElem?_set] at h
      split at h <;> rename_i c
      · subst c
        exact ⟨d, hi⟩
      · exact ⟨d3, h⟩
    obtain ⟨d3, q1⟩ := own_of h1
    obtain ⟨d4, q2⟩ := own_of h2
    exact eo.apart j l d3 d4 p ne q1 q2 h3 h4
/-- a thing of the store is changed -/
theorem wf_updT (w : WF K F T st H) {n : Nat} {d' : D} (hn : T[n]? = some a) (r : RepTop K F T (L2.upd H a o) a d') : WF K F T (st.set n d') (L2.upd H a o) := by
  have mem : a ∈ T := List.mem_iff_getElem?.mpr ⟨n, hn⟩
  refine ⟨fun b u e => ?_, by rw [List.length_set]; exact w.len, w.nd, w.nf, fun i d e => ?_⟩
  · rw [upd_ne (ne_of_none e (w.nf a mem))]
    exact w.fr b u e
  · rw [List.getElem?_set] at e
    split at e <;> rename_i c
    · subst c
      split at e
      · cases e
        exact ⟨a, hn, r⟩
      · cases e
    · obtain ⟨b, h1, h2⟩ := w.at_ i d e
      have nb : b ≠ a := fun z => by
        subst z
        have l1 := List.getElem?_eq_some_iff.mp hn
        have l2 := List.getElem?_eq_some_iff.mp h1
        obtain ⟨l1, e1⟩ := l1
        obtain ⟨l2, e2⟩ := l2
        exact c ((List.getElem_inj w.nd).mp (e1.trans e2.symm))
      exact ⟨b, h1, h2.mono (.refl _) (.refl _) fun o' e' => by
          by_cases q : b = a
          · exact absurd q nb
          · rw [upd_ne q]; exact e'⟩
theorem ext_updT {H0 : Hp} (x : Ext F0 T0 H0 F T H) (m : a ∈ T) (h : H a ≠ none) : Ext F0 T0 H0 F T (L2.upd H a o) := by
  refine ⟨x.fr, x.pre, x.newF, x.newT, fun b u e n => ?_, fun b u e => ?_⟩
  · have nb : b ≠ a := fun z => by
      subst z
      have := x.newT b m n
      rw [e] at this
      cases this
    rw [upd_ne nb]
    exact x.keep b u e n
  · by_cases q : b = a
    · subst q
      exact ⟨o, upd_same⟩
    · obtain ⟨u', e'⟩ := x.there b u e
      exact ⟨u', by rw [upd_ne q]; exact e'⟩
theorem env_updT (eo : EnvOk K xi F T H env σ) (m : a ∈ T) : EnvOk K xi F T (L2.upd H a o) env σ := by
  refine ⟨fun j s e => ?_, eo.len, eo.apart⟩
  have q := eo.at_ j s e
  cases s with
  | no => trivial
  | val d => exact q
  | own d2 =>
    obtain ⟨b, h1, h2, h3, h4, h5⟩ := q
    have nb : b ≠ a := fun z => h4 (z ▸ m)
    exact ⟨b, h1, h2.mono (.refl _) (.refl _) fun o' e' => by rw [upd_ne nb]; exact e', h3, h4, h5⟩
  | xc c ks ds =>
    obtain ⟨y, h1, h2, h3, h4⟩ := q
    refine ⟨y, h1, h2, h3, ?_⟩
    rcases h4 with h4 | ⟨b, fs, g1, g2, g3, g4, g5⟩
    · exact .inl h4
    · refine .inr ⟨b, fs, g1, ?_, g3, g4, g5⟩
      have nb : b ≠ a := fun z => g3 (z ▸ m)
      rw [upd_ne nb]
      exact g2
theorem ext_own {H0 : Hp} (x : Ext F0 T0 H0 F T H) (z : H0 a = none) : Ext F0 T0 H0 F T (L2.upd H a o) := ext_upd x z
end

section
variable {X : Cx} {W : WW} {C : Calls}
theorem top_nx {K : PySem.W.Frag} {F H : Hp} {T : List Addr} {a : Addr} {d : D} (r : RepTop K F T H a d) : ∀ fs, H a ≠ some (.xd fs) := fun fs e => by
  cases d with
  | lst ds => obtain ⟨xs, h, _⟩ := r; rw [e] at h; cases h
  | dic ks ds => obtain ⟨xs, h, _⟩ := r; rw [e] at h; cases h
  | ins c ks ds => obtain ⟨dx, xs, h, _⟩ := r; rw [e] at h; cases h
  | _ => exact r.elim
/-! ### a fresh thing into the store -/
theorem ss_obj {i : Nat} {y : Str} {e : Expr} {ir : E} {pos pos' : Pos} (hN : X.N.Nodup) (hi : X.N[i]? = some y) (hx : Loc X.env.scope y) (he : PE X e (tDr X.K W C ir)) (hs : swapsWith e (some (.Name y pos')) pos.line X.env = pure false)
    (hf : X.fn y = true ∨ X.env.scope.names.lookup y = some .local) : PS X (.Assign [.Name y pos'] e pos) (tSt X.K W C (.obj i ir)) :=
  impS (ps_set hN hi hx he hs hf) fun D σ H ⟨F, T, st, env, x, w, eo, p⟩ => by
    have p : PostS X.K W F T env ((evE C env ir st).bnd fun d st => chkO (isCont d) (.ok (.nx (env.set i (.val (.obj st.length)))) (st ++ [d]))) D := p
    refine ⟨F, T, st, env, w, eo, (p.step (R1 := rD X.K) x fun _ => eo).mono fun v H2 ⟨F2, T2, st2, d, x2, w2, r2, p2⟩ => ?_⟩
    cases c : isCont d with
    | false => rw [c] at p2; exact p2.elim
    | true =>
      rw [c] at p2
      obtain ⟨a, e, rt, f, n, z⟩ := fresh_of c r2
      subst e
      have w3 := wf_track w2 rt f n
      have eo3 : EnvOk X.K W.xi F2 (T2 ++ [a]) H2 env σ := env_track (eo.ext x2) (fun j d' h1 h2 => by
        obtain ⟨b, e1, r, _⟩ := eo.at_ j _ h1
        rw [h2] at e1
        cases e1
        obtain ⟨o, ho⟩ := r.there
        rw [z] at ho
        cases ho) (top_nx rt)
      have ro : Rep X.K F2 (T2 ++ [a]) (.ref a) (.obj st2.length) := .obj (by
        rw [w2.len, List.getElem?_append_right (Nat.le_refl _), Nat.sub_self]
        rfl)
      exact p2 F2 (T2 ++ [a]) H2 _ (.refl _) (Pre.snoc T2 a) (ext_track (x.trans x2) (x.none a z)) w3 (eo3.set i ro)

/-! ### name op= e -/
def ipD (K : PySem.W.Frag) (op : Operator) : TIp := fun x y H Q => ∃ F T st dx dy d, WF K F T st H ∧ Rep K F T x dx ∧ Rep K F T y dy ∧ augD op dx dy = some d ∧ Cont K F T st H (rV K) d Q
theorem ip_aug {op : Operator} : PIp X op (ipD X.K op) := by
  intro pins s σ H x y v u Q I rx ry ⟨F, T, st, dx, dy, d, w, bx, by_, e, c⟩
  unfold augD at e
  split at e
  · cases e; cases bx; cases by_
    exact ip_add pins s σ H _ _ v u Q I rx ry ⟨_, _, rfl, rfl, c.flatV w (.int _)⟩
  · cases e; cases bx; cases by_
    exact ip_sub pins s σ H _ _ v u Q I rx ry ⟨_, _, rfl, rfl, c.flatV w (.int _)⟩
  · split at e <;> rename_i q
    · cases e; cases bx; cases by_
      obtain ⟨t, rfl⟩ := rx
      obtain ⟨t', rfl⟩ := ry
      exact imul_int ⟨.int _, H, I.tok _, ⟨_, rfl⟩, c.flatV w (.int _)⟩ (CMul.ok q)
    · cases e
  · split at e <;> rename_i q
    · cases e; cases bx; cases by_
      obtain ⟨t, rfl⟩ := rx
      obtain ⟨t', rfl⟩ := ry
      exact iadd_str (fun t' tk => ⟨.str _, H, I.tok _, ⟨_, rfl⟩, c.flatV w (.str _)⟩) q
    · cases e
  · cases e
theorem ss_aug {i : Nat} {y : Str} {e : Expr} {ir : E} {op : Operator} {pos pos' : Pos} (hN : X.N.Nodup) (hi : X.N[i]? = some y) (hx : Loc X.env.scope y) (he : PE X e (tE X.K W C ir)) (hf : X.fn y = true ∨ X.env.scope.names.lookup y = some .local) :
    PS X (.AugAssign (.Name y pos') op e pos) (tSt X.K W C (.aug i op ir)) :=
  impS (ps_aug hN hi hx he ip_aug hf) fun D σ H ⟨F, T, st, env, x, w, eo, p⟩ => by
    have p : PostS X.K W F T env ((ofO (getV env i) st).bnd fun x st => (evE C env ir st).bnd fun y st => (ofO (augD op x y) st).bnd fun z st => .ok (.nx (env.set i (.val z))) st) D := p
    cases eg : getV env i with
    | none => rw [eg] at p; exact p.elim
    | some d =>
      rw [eg] at p
      have p : PostS X.K W F T env ((evE C env ir st).bnd fun y st => (ofO (augD op d y) st).bnd fun z st => .ok (.nx (env.set i (.val z))) st) D := p
      obtain ⟨v, e1, r⟩ := eo.at_ i _ (getV_some eg)
      refine ⟨v, e1, F, T, st, env, w, eo, (p.step (R1 := rV X.K) x fun _ => eo).mono fun u H2 ⟨F2, T2, st2, dy, x2, w2, r2, p2⟩ => ?_⟩
      cases ea : augD op d dy with
      | none => rw [ea] at p2; exact p2.elim
      | some z =>
        rw [ea] at p2
        refine ⟨F2, T2, st2, d, dy, z, w2, r.mono x2.fr x2.pre, r2, ea, fun v3 F3 T3 H3 x3 w3 r3 => ?_⟩
        exact p2 F3 T3 H3 _ x3.fr x3.pre ((x.trans x2).trans x3) w3 (((eo.ext x2).ext x3).set i r3)

/-! ### own lists: append -/
theorem ownL_some {env : Env} {i : Nat} {ds : List D} (h : ownL env i = some ds) : env[i]? = some (.own (.lst ds)) := by
  unfold ownL at h
  split at h
  · rename_i e; cases h; exact e
  · cases h
theorem ss_app {i : Nat} {y : Str} {e : Expr} {ir : E} {fz : List Nat} {p1 apos cpos pos : Pos} (hz : W.sv = false) (hN : X.N[i]? = some y) (hv : Vis X.env.scope y) (hd : (y == ("__debug__" : Str)) = false) (hcd : (y == ("__classdict__" : Str)) = false) (he : PE X e (tE X.K W C ir)) (ok : okA e = true)
    (hline : (apos.endLine == cpos.line) = true) (hs : swapsWith (.Call (.Attribute (.Name y p1) "append" apos) [e] [] cpos) none pos.line X.env = pure false) :
    PS X (.Expr (.Call (.Attribute (.Name y p1) "append" apos) [e] [] cpos) pos) (tSt X.K W C (.app fz i ir)) :=
  impS (ps_expr (pe_bm PySem.F.plainAttrs_list PySem.F.slot_list_append PySem.F.type_list_append mt_append (pe_var hN hv hd hcd) (pa_cons he pa_nil (okA_star ok)) rfl (by rw [okA_star ok]; rfl) hline (okA_star ok) rfl) hs) fun D σ H ⟨F, T, st, env, x, w, eo, p⟩ => by
    have p : PostS X.K W F T env ((ofO (ownL (freeze env fz) i) st).bnd fun ds st => (evE C (freeze env fz) ir st).bnd fun d st => chkO (decide (ds.length < sizeLine)) (.ok (.nx ((freeze env fz).set i (.own (.lst (ds ++ [d]))))) st)) D := p
    obtain ⟨F1, x1, w1, eo1, _, p1⟩ := fz_go (.inl hz) x w eo p
    cases eg : ownL (freeze env fz) i with
    | none => rw [eg] at p1; exact p1.elim
    | some ds =>
      rw [eg] at p1
      have p1 : PostS X.K W F1 T env ((evE C (freeze env fz) ir st).bnd fun d st => chkO (decide (ds.length < sizeLine)) (.ok (.nx ((freeze env fz).set i (.own (.lst (ds ++ [d]))))) st)) D := p1
      have ei := ownL_some eg
      obtain ⟨a, e1, ⟨xs, hxs, rs⟩, f, n, z⟩ := eo1.at_ i _ ei
      refine ⟨.ref a, e1, .inl ⟨rfl, _, .inl (.inl hxs)⟩, F1, T, st, _, w1, eo1, (p1.step (R1 := rV X.K) x1 fun h => by rw [hz] at h; cases h).mono fun u H2 ⟨F2, T2, st2, dy, x2, w2, r2, p2⟩ => ?_⟩
      obtain ⟨o2, f2, n2⟩ := x2.own (d := .lst ds) ⟨xs, hxs, rs⟩ f n
      obtain ⟨xs', hxs', rs'⟩ := o2
      have p2 : PostS X.K W F2 T2 env (chkO (decide (ds.length < sizeLine)) (.ok (.nx ((freeze env fz).set i (.own (.lst (ds ++ [dy]))))) st2)) D := p2
      cases c : decide (ds.length < sizeLine) with
      | false => rw [c] at p2; exact p2.elim
      | true =>
        rw [c] at p2
        refine ⟨a, xs', u, rfl, rfl, hxs', by rw [rs'.length]; exact of_decide_eq_true c, ?_⟩
        have r3 : RepTop X.K F2 T2 (L2.upd H2 a (.lst (xs' ++ [u]))) a (.lst (ds ++ [dy])) := ⟨_, upd_same, rs'.append (.one r2)⟩
        exact p2 F2 T2 _ σ (.refl _) (.refl _) (ext_own (x1.trans x2) z) (wf_upd w2 f2 n2) (env_updOwn (eo1.ext x2) ei e1 r3 (top_nx (d := .lst ds) ⟨xs', hxs', rs'⟩))

/-! ### o[k] = v -/
def rSetA (K : PySem.W.Frag) : TSet := fun o i v H Q => rSetL o i v H Q ∨ rSetD o i v H Q
theorem set_any (hu : X.A.units + 1 < cLine) : PSet X (rSetA X.K) := by
  intro pins s σ H o i v ov iv u Q I ro ri rv h
  rcases h with h | h
  · exact set_list pins s σ H o i v ov iv u Q I ro ri rv h
  · exact set_dict hu pins s σ H o i v ov iv u Q I ro ri rv h
end
end Eng
set_option Elab.async false
set_option linter.all false
set_option maxRecDepth 100000
/-! Eng 15: o[k] = v, self.f = v, parallel targets, loops -/
namespace Eng
open PySem PySem.Spec PyProof.Rows L2

section
variable {X : Cx} {W : WW} {C : Calls}
/-! ### o[k] = v -/
theorem isPut_cases {env : Env} {i : Nat} (h : isPut env i = true) : (∃ d, env[i]? = some (.own d)) ∨ ∃ n, env[i]? = some (.val (.obj n)) := by
  unfold isPut at h
  split at h
  · rename_i d e; exact .inl ⟨d, e⟩
  · rename_i n e; exact .inr ⟨n, e⟩
  · cases h
theorem putD_lst {o k v d' : D} {ds : List D} (eo : o = .lst ds) (h : putD o k v = some d') : ∃ i j, k = .int i ∧ ixN ds.length i = some j ∧ d' = .lst (ds.set j v) := by
  subst eo
  cases k with
  | int i =>
    have h : (ixN ds.length i).map (fun j => D.lst (ds.set j v)) = some d' := h
    obtain ⟨j, e, rfl⟩ := Option.map_eq_some_iff.mp h
    exact ⟨i, j, rfl, e, rfl⟩
  | _ => cases h
theorem dicPut_rep {K : PySem.W.Frag} {F : Hp} {T : List Addr} {k : Key} {v : V} {d : D} (r : Rep K F T v d) {kvs : List (Key × V)} {ds : List D} (rs : Reps K F T (kvs.map (·.2)) ds) :
    (putK kvs k v).map (·.1) = (dicPut (kvs.map (·.1)) ds k d).1 ∧ Reps K F T ((putK kvs k v).map (·.2)) (dicPut (kvs.map (·.1)) ds k d).2 := by
  have ea : (kvs.any fun kv => decide (kv.1 = k)) = ((kvs.map (·.1)).any fun q => decide (q = k)) := by rw [List.any_map]; rfl
  unfold putK dicPut
  rw [← ea]
  by_cases c : (kvs.any fun kv => decide (kv.1 = k)) = true
  · rw [if_pos c, if_pos c]
    refine ⟨?_, ?_⟩
    · show List.map (fun x => x.fst) (List.map (fun kv => if kv.fst = k then (kv.fst, v) else kv) kvs) = List.map (fun x => x.fst) kvs
      rw [List.map_map]
      apply List.map_congr_left
      intro kv _
      show (if kv.fst = k then (kv.fst, v) else kv).1 = kv.1
      split <;> rfl
    · show Reps K F T (List.map (fun x => x.snd) (List.map (fun kv => if kv.fst = k then (kv.fst, v) else kv) kvs)) (List.zipWith (fun q e => if q = k then d else e) (List.map (fun x => x.fst) kvs) ds)
      clear c ea
      induction kvs generalizing ds with
      | nil => cases rs; exact .nil
      | cons kv kvs ih =>
        cases rs with
        | cons r1 rs =>
          refine .cons ?_ (ih rs)
          show Rep K F T (if kv.fst = k then (kv.fst, v) else kv).2 (if kv.fst = k then d else _)
          by_cases q : kv.fst = k
          · rw [if_pos q, if_pos q]; exact r
          · rw [if_neg q, if_neg q]; exact r1
  · rw [if_neg c, if_neg c]
    refine ⟨by rw [List.map_append]; rfl, ?_⟩
    rw [List.map_append]
    exact rs.append (.one r)
/-- a container's part set, by the heap -/
theorem put_top {F T H} {a : Addr} {o k v d' : D} {x y : V} (rt : RepTop X.K F T H a o) (rk : Rep X.K F T x k) (rv : Rep X.K F T y v) (h : putD o k v = some d') {Q : Hp → Prop}
    (q : ∀ u, RepTop X.K F T (L2.upd H a u) a d' → Q (L2.upd H a u)) : rSetA X.K (.ref a) x y H Q := by
  cases o with
  | lst ds =>
    obtain ⟨i, j, rfl, hj, rfl⟩ := putD_lst rfl h
    obtain ⟨xs, hx, rs⟩ := rt
    cases rk
    exact .inl ⟨a, xs, i, j, rfl, rfl, hx, by rw [rs.length]; exact hj, q _ ⟨_, upd_same, rs.set rv j⟩⟩
  | dic ks ds =>
    have h : ((keyD k).bind fun k => if ks.length < sizeLine then some (D.dic (dicPut ks ds k v).1 (dicPut ks ds k v).2) else none) = some d' := h
    obtain ⟨kk, ek, h⟩ := Option.bind_eq_some_iff.mp h
    split at h <;> rename_i c
    · cases h
      obtain ⟨kvs, hk, e, rs⟩ := rt
      subst e
      have ex : x = kV kk := by
        cases k with
        | int i => cases ek; cases rk; rfl
        | str z => cases ek; cases rk; rfl
        | _ => cases ek
      subst ex
      obtain ⟨e1, e2⟩ := dicPut_rep rv (k := kk) rs
      exact .inr ⟨a, _, rfl, .inl ⟨kvs, kk, hk, rfl, by rw [List.length_map] at c; exact c, rfl⟩, q _ ⟨_, upd_same, e1, e2⟩⟩
    · cases h
  | _ => cases h
theorem ss_setI {i : Nat} {y : Str} {k e : Expr} {ik ir : E} {fz : List Nat} {p1 sp pos : Pos} (hu : X.A.units + 1 < cLine) (hz : W.sv = false) (hN : X.N[i]? = some y) (hv : Vis X.env.scope y) (hd : (y == ("__debug__" : Str)) = false) (hcd : (y == ("__classdict__" : Str)) = false)
    (hk : PE X k (tE X.K W C ik)) (he : PE X e (tE X.K W C ir)) (hs : swapsWithSole [.Subscript (.Name y p1) k sp] e pos.line X.env = pure false) (hw : swappedStores [.Subscript (.Name y p1) k sp] e X.env = pure none)
    (h1 : (assignEach [.Subscript (.Name y p1) k sp] X.env).map (·.2) = [assign (.Subscript (.Name y p1) k sp) X.env])
    (ha : ∀ v, assign (.Subscript (.Name y p1) k sp) X.env v = (do
      let ov ← holding [v] (eval (.Name y p1) X.env)
      let iv ← holding [v, ov] (eval k X.env)
      standAt sp
      holding [v, ov, iv] (setItem ov iv v)
      release [v, ov, iv] [])) :
    PS X (.Assign [.Subscript (.Name y p1) k sp] e pos) (tSt X.K W C (.setI fz i ik ir)) :=
  impS (ps_asg he (pg_sub (pe_var hN hv hd hcd) hk (set_any hu) ha) hs hw h1) fun D σ H ⟨F, T, st, env, x, w, eo, p⟩ => by
    have p : PostS X.K W F T env ((evE C (freeze env fz) ir st).bnd fun d st => chkO (isPut (freeze env fz) i) ((evE C (freeze env fz) ik st).bnd fun x st => (setIx (freeze env fz) i x d st).bnd fun env' st => .ok (.nx env') st)) D := p
    obtain ⟨F1, x1, w1, eo1, _, p1⟩ := fz_go (.inl hz) x w eo p
    have nosv : ∀ {P : Prop}, W.sv = true → P := fun h => by rw [hz] at h; cases h
    refine ⟨F1, T, st, _, w1, eo1, (p1.step (R1 := rV X.K) x1 nosv).mono fun u H2 ⟨F2, T2, st2, d, x2, w2, r2, p2⟩ => ?_⟩
    have r2 : Rep X.K F2 T2 u d := r2
    cases c : isPut (freeze env fz) i with
    | false => rw [c] at p2; exact p2.elim
    | true =>
      rw [c] at p2
      have p2 : PostS X.K W F2 T2 env ((evE C (freeze env fz) ik st2).bnd fun x st => (setIx (freeze env fz) i x d st).bnd fun env' st => .ok (.nx env') st) D := p2
      have eo2 := eo1.ext x2
      have x12 := x1.trans x2
      rcases isPut_cases c with ⟨o, ei⟩ | ⟨n, ei⟩
      · obtain ⟨a, e1, rt, f, nt, z⟩ := eo2.at_ i _ ei
        refine ⟨.ref a, e1, F2, T2, st2, _, w2, eo2, (p2.step (R1 := rV X.K) x12 nosv).mono fun kx H3 ⟨F3, T3, st3, dk, x3, w3, r3, p3⟩ => ?_⟩
        obtain ⟨rt3, f3, nt3⟩ := x3.own rt f nt
        have p3 : PostS X.K W F3 T3 env ((setIx (freeze env fz) i dk d st3).bnd fun env' st => .ok (.nx env') st) D := p3
        unfold setIx at p3
        rw [ei] at p3
        have p3 : PostS X.K W F3 T3 env (((ofO (putD o dk d) st3).bnd fun d' st => .ok ((freeze env fz).set i (.own d')) st).bnd fun env' st => .ok (.nx env') st) D := p3
        cases ep : putD o dk d with
        | none => rw [ep] at p3; exact p3.elim
        | some d' =>
          rw [ep] at p3
          refine put_top rt3 r3 (r2.mono x3.fr x3.pre) ep fun u rt4 => ?_
          exact p3 F3 T3 _ σ (.refl _) (.refl _) (ext_own (x12.trans x3) z) (wf_upd w3 f3 nt3) (env_updOwn (eo2.ext x3) ei e1 rt4 (top_nx rt3))
      · obtain ⟨v, e1, rv⟩ := eo2.at_ i _ ei
        cases rv with
        | @obj _ a ha =>
          refine ⟨.ref a, e1, F2, T2, st2, _, w2, eo2, (p2.step (R1 := rV X.K) x12 nosv).mono fun kx H3 ⟨F3, T3, st3, dk, x3, w3, r3, p3⟩ => ?_⟩
          have ha3 : T3[n]? = some a := x3.pre n a ha
          have p3 : PostS X.K W F3 T3 env ((setIx (freeze env fz) i dk d st3).bnd fun env' st => .ok (.nx env') st) D := p3
          unfold setIx at p3
          rw [ei] at p3
          have p3 : PostS X.K W F3 T3 env ((match st3[n]? with
            | some o => (ofO (putD o dk d) st3).bnd fun d' st => .ok (freeze env fz) (st.set n d')
            | none => Out.bad).bnd fun env' st => .ok (.nx env') st) D := p3
          cases es : st3[n]? with
          | none => rw [es] at p3; exact p3.elim
          | some o =>
            rw [es] at p3
            have p3 : PostS X.K W F3 T3 env (((ofO (putD o dk d) st3).bnd fun d' st => .ok (freeze env fz) (st.set n d')).bnd fun env' st => .ok (.nx env') st) D := p3
            obtain ⟨a', h1, rt3⟩ := w3.at_ n o es
            rw [ha3] at h1
            cases h1
            have mem : a ∈ T3 := List.mem_iff_getElem?.mpr ⟨n, ha3⟩
            cases ep : putD o dk d with
            | none => rw [ep] at p3; exact p3.elim
            | some d' =>
              rw [ep] at p3
              refine put_top rt3 r3 (r2.mono x3.fr x3.pre) ep fun u rt4 => ?_
              have hne : H3 a ≠ none := by
                obtain ⟨o', ho⟩ := rt3.there
                rw [ho]
                exact fun h => nomatch h
              exact p3 F3 T3 _ σ (.refl _) (.refl _) (ext_updT (x12.trans x3) mem hne) (wf_updT w3 ha3 rt4) (env_updT (eo2.ext x3) mem)

/-! ### self.f = v -/
theorem putF_rep {K : PySem.W.Frag} {F : Hp} {T : List Addr} {f : Str} {v : V} {d : D} (r : Rep K F T v d) : ∀ {fs : List (Str × V)} {ds : List D}, Reps K F T (fs.map (·.2)) ds →
    (putF f v fs).map (·.1) = (putFld f d (fs.map (·.1)) ds).1 ∧ Reps K F T ((putF f v fs).map (·.2)) (putFld f d (fs.map (·.1)) ds).2
  | [], _, rs => by cases rs; exact ⟨rfl, .one r⟩
  | (g, x) :: fs, _, rs => by
    cases rs with
    | @cons _ _ e es r1 rs =>
      obtain ⟨h1, h2⟩ := putF_rep (f := f) r rs
      show (if g = f then (g, v) :: fs else (g, x) :: putF f v fs).map (·.1) = (if g = f then (g :: fs.map (·.1), d :: es) else (g :: (putFld f d (fs.map (·.1)) es).1, e :: (putFld f d (fs.map (·.1)) es).2)).1 ∧
        Reps K F T ((if g = f then (g, v) :: fs else (g, x) :: putF f v fs).map (·.2)) (if g = f then (g :: fs.map (·.1), d :: es) else (g :: (putFld f d (fs.map (·.1)) es).1, e :: (putFld f d (fs.map (·.1)) es).2)).2
      by_cases c : g = f
      · rw [if_pos c, if_pos c]
        exact ⟨rfl, .cons r rs⟩
      · rw [if_neg c, if_neg c]
        exact ⟨by rw [List.map_cons, h1], .cons r1 h2⟩
theorem fldPut_some {c f : Str} {v o d' : D} (h : fldPut c f v o = some d') : ∃ ks ds, o = .ins c ks ds ∧ ks.length < 1000 ∧ d' = .ins c (putFld f v ks ds).1 (putFld f v ks ds).2 := by
  cases o with
  | ins c' ks ds =>
    have h : (if c' = c ∧ ks.length < 1000 then some (D.ins c' (putFld f v ks ds).1 (putFld f v ks ds).2) else none) = some d' := h
    split at h <;> rename_i q
    · cases h
      obtain ⟨rfl, l⟩ := q
      exact ⟨ks, ds, rfl, l, rfl⟩
    · cases h
  | _ => cases h
theorem ss_fld {i : Nat} {y c f : Str} {e : Expr} {ir : E} {fz : List Nat} {p1 p2' pos : Pos} (hz : W.sv = false) (hN : X.N[i]? = some y) (hv : Vis X.env.scope y) (hd : (y == ("__debug__" : Str)) = false) (hcd : (y == ("__classdict__" : Str)) = false)
    (cl : Cls X.K (He.ga X.K c)) (na : NoAttr X.K (He.ga X.K c) f) (he : PE X e (tE X.K W C ir)) (hs : swapsWith e (some (.Attribute (.Name y p1) f p2')) pos.line X.env = pure false) :
    PS X (.Assign [.Attribute (.Name y p1) f p2'] e pos) (tSt X.K W C (.fld fz i c f ir)) :=
  impS (ps_fld (pe_var hN hv hd hcd) he hs) fun D σ H ⟨F, T, st, env, x, w, eo, p⟩ => by
    have p : PostS X.K W F T env ((evE C (freeze env fz) ir st).bnd fun d st => (setFld (freeze env fz) i c f d st).bnd fun env' st => .ok (.nx env') st) D := p
    obtain ⟨F1, x1, w1, eo1, _, p1⟩ := fz_go (.inl hz) x w eo p
    have nosv : ∀ {P : Prop}, W.sv = true → P := fun h => by rw [hz] at h; cases h
    refine ⟨F1, T, st, _, w1, eo1, (p1.step (R1 := rV X.K) x1 nosv).mono fun u H2 ⟨F2, T2, st2, d, x2, w2, r2, p2⟩ => ?_⟩
    have r2 : Rep X.K F2 T2 u d := r2
    have eo2 := eo1.ext x2
    have x12 := x1.trans x2
    unfold setFld at p2
    cases ei : (freeze env fz)[i]? with
    | none => rw [ei] at p2; exact p2.elim
    | some s =>
      rw [ei] at p2
      cases s with
      | no => exact p2.elim
      | xc c ks ds => exact p2.elim
      | own o =>
        have p2 : PostS X.K W F2 T2 env (((ofO (fldPut c f d o) st2).bnd fun d' st => .ok ((freeze env fz).set i (.own d')) st).bnd fun env' st => .ok (.nx env') st) D := p2
        obtain ⟨a, e1, rt, fa, nt, z⟩ := eo2.at_ i _ ei
        cases ep : fldPut c f d o with
        | none => rw [ep] at p2; exact p2.elim
        | some d' =>
          rw [ep] at p2
          obtain ⟨ks, ds, rfl, l, rfl⟩ := fldPut_some ep
          obtain ⟨dx, fs, h1, h2, h3⟩ := id rt
          subst h2
          obtain ⟨q1, q2⟩ := putF_rep (f := f) r2 h3
          refine ⟨.ref a, e1, a, _, dx, fs, rfl, h1, cl, na, by rw [List.length_map] at l; exact l, ?_⟩
          have rt4 : RepTop X.K F2 T2 (L2.upd H2 a (.ins (He.ga X.K c) dx (putF f u fs))) a (.ins c (putFld f d (fs.map (·.1)) ds).1 (putFld f d (fs.map (·.1)) ds).2) := ⟨dx, _, upd_same, q1, q2⟩
          exact p2 F2 T2 _ σ (.refl _) (.refl _) (ext_own x12 z) (wf_upd w2 fa nt) (env_updOwn eo2 ei e1 rt4 (top_nx rt))
      | val o =>
        cases o with
        | obj n =>
          obtain ⟨v, e1, rv⟩ := eo2.at_ i _ ei
          cases rv with
          | @obj _ a ha =>
            have p2 : PostS X.K W F2 T2 env ((match st2[n]? with
              | some o => (ofO (fldPut c f d o) st2).bnd fun d' st => .ok (freeze env fz) (st.set n d')
              | none => Out.bad).bnd fun env' st => .ok (.nx env') st) D := p2
            cases es : st2[n]? with
            | none => rw [es] at p2; exact p2.elim
            | some o =>
              rw [es] at p2
              have p2 : PostS X.K W F2 T2 env (((ofO (fldPut c f d o) st2).bnd fun d' st => .ok (freeze env fz) (st.set n d')).bnd fun env' st => .ok (.nx env') st) D := p2
              obtain ⟨a', ha', rt⟩ := w2.at_ n o es
              rw [ha] at ha'
              cases ha'
              have mem : a ∈ T2 := List.mem_iff_getElem?.mpr ⟨n, ha⟩
              cases ep : fldPut c f d o with
              | none => rw [ep] at p2; exact p2.elim
              | some d' =>
                rw [ep] at p2
                obtain ⟨ks, ds, rfl, l, rfl⟩ := fldPut_some ep
                obtain ⟨dx, fs, h1, h2, h3⟩ := id rt
                subst h2
                obtain ⟨q1, q2⟩ := putF_rep (f := f) r2 h3
                refine ⟨.ref a, e1, a, _, dx, fs, rfl, h1, cl, na, by rw [List.length_map] at l; exact l, ?_⟩
                have rt4 : RepTop X.K F2 T2 (L2.upd H2 a (.ins (He.ga X.K c) dx (putF f u fs))) a (.ins c (putFld f d (fs.map (·.1)) ds).1 (putFld f d (fs.map (·.1)) ds).2) := ⟨dx, _, upd_same, q1, q2⟩
                exact p2 F2 T2 _ σ (.refl _) (.refl _) (ext_updT x12 mem (by rw [h1]; exact fun h => nomatch h)) (wf_updT w2 ha rt4) (env_updT eo2 mem)
        | _ => exact p2.elim

/-! ### a comprehension bound to a name -/
theorem E_to_D {e : E} {σ : L2.St} {H : Hp} {Q : VK} (h : tE X.K W C e σ H Q) : tDr X.K W C e σ H Q := by
  obtain ⟨F, T, st, env, w, eo, p⟩ := h
  refine ⟨F, T, st, env, w, eo, ?_⟩
  have p : Post X.K W σ F T H (rV X.K) (evE C env e st) Q := p
  show Post X.K W σ F T H (rD X.K) (evE C env e st) Q
  revert p
  cases evE C env e st with
  | bad => exact id
  | ex c ks ds st => exact id
  | ok d st' =>
    intro p v F' T' H' x w' r
    obtain ⟨F2, x2, w2, r2⟩ := rD_rV x w' r
    exact p v F2 T' H' x2 w2 r2
/-- the parts of a comprehension's block -/
structure LcOk (X : Cx) (W : WW) (C : Calls) (tg : Expr) (ifs : List Expr) (elt : Expr) (scope : Scope) (tgI : Tg) (ifI : Op) (eI : E) : Prop where
  g : ∀ (s : Shared) (H : Hp) (c : Addr) (cl : List (Str × Addr)) (fp : List Addr), PG (X.blk s H scope (compEnvC scope cl c X.env) fp) tg (gT X.K tgI)
  t : ∀ (s : Shared) (H : Hp) (c : Addr) (cl : List (Str × Addr)) (fp : List Addr), PTs (X.blk s H scope (compEnvC scope cl c X.env) fp) ifs (tIf X.K (noW W) C ifI)
  e : ∀ (s : Shared) (H : Hp) (c : Addr) (cl : List (Str × Addr)) (fp : List Addr), PE (X.blk s H scope (compEnvC scope cl c X.env) fp) elt (tE X.K (noW W) C eI)
theorem s_lc {elt tg iter : Expr} {ifs : List Expr} {scope : Scope} {own : List (Str × Nat)} {pos : Pos} {tgI : Tg} {ifI : Op} {eI : E} {it : It} {ws : List Nat} (hc : X.calm = true) (hN : X.N.Nodup) (hi : PI X tg iter (tI X.K W C it)) (ok : blkC X.N X.env.scope scope own = true)
    (hw : own.map (·.2) = ws) (hws : ∀ i ∈ ixT tgI, i ∈ ws) (l : LcOk X W C tg ifs elt scope tgI ifI eI) (hs : ∀ x, foldedSetIterable iter X.env x = pure x) : PE X (.ListComp elt [⟨tg, iter, ifs, 0⟩] scope pos) (tDr X.K W C (.lc eI tgI it ifI ws)) := by
  subst hw
  exact impE (pe_lc hc hN hi (blkOk_by ok) l.g l.t l.e hs) fun σ H Q h => lc_rd hws h
theorem ss_setLc {fz : List Nat} {i : Nat} {y : Str} {py : Pos} {elt tg iter : Expr} {ifs : List Expr} {scope : Scope} {own : List (Str × Nat)} {pos spos : Pos} {tgI : Tg} {ifI : Op} {eI : E} {it : It} {ws : List Nat} (hz : W.sv = false ∨ fz = []) (hc : X.calm = true) (hN : X.N.Nodup) (hy : X.N[i]? = some y) (hyl : X.env.scope.names.lookup y = some .local)
    (hsw : swapsWith (.ListComp elt [⟨tg, iter, ifs, 0⟩] scope pos) (some (.Name y py)) spos.line X.env = pure true) (hi : PI X tg iter (tI X.K W C it)) (ok : blkC X.N X.env.scope scope own = true)
    (hw : own.map (·.2) = ws) (hws : ∀ i ∈ ixT tgI, i ∈ ws) (l : LcOk X W C tg ifs elt scope tgI ifI eI) (hs : ∀ x, foldedSetIterable iter X.env x = pure x) :
    PS X (.Assign [.Name y py] (.ListComp elt [⟨tg, iter, ifs, 0⟩] scope pos) spos) (tSt X.K W C (.asg fz (.v i) (.lc eI tgI it ifI ws))) := by
  subst hw
  refine impS (ps_setLc hc hN hy hyl hsw hi (blkOk_by ok) l.g l.t l.e hs) fun D σ H h => ?_
  exact lc_rd hws (E_to_D (asg_rd hz h))
theorem ss_ownLc {i : Nat} {y : Str} {py : Pos} {elt tg iter : Expr} {ifs : List Expr} {scope : Scope} {own : List (Str × Nat)} {pos spos : Pos} {tgI : Tg} {ifI : Op} {eI : E} {it : It} {ws : List Nat} (hc : X.calm = true) (hN : X.N.Nodup) (hy : X.N[i]? = some y) (hyl : X.env.scope.names.lookup y = some .local)
    (hsw : swapsWith (.ListComp elt [⟨tg, iter, ifs, 0⟩] scope pos) (some (.Name y py)) spos.line X.env = pure true) (hi : PI X tg iter (tI X.K W C it)) (ok : blkC X.N X.env.scope scope own = true)
    (hw : own.map (·.2) = ws) (hws : ∀ i ∈ ixT tgI, i ∈ ws) (l : LcOk X W C tg ifs elt scope tgI ifI eI) (hs : ∀ x, foldedSetIterable iter X.env x = pure x) :
    PS X (.Assign [.Name y py] (.ListComp elt [⟨tg, iter, ifs, 0⟩] scope pos) spos) (tSt X.K W C (.own i (.lc eI tgI it ifI ws))) := by
  subst hw
  refine impS (ps_setLc hc hN hy hyl hsw hi (blkOk_by ok) l.g l.t l.e hs) fun D σ H h => ?_
  exact own_rd (fun _ _ _ h => lc_rd hws h) h

/-! ### loops -/
theorem ss_for {tg iter : Expr} {body : List Stmt} {tgI : Tg} {it : It} {ib : Ss} {fz : List Nat} {pos : Pos} (hz : W.sv = false) (hp : PassesOwn (model X.prog X.w) X.A X.env X.xe) (hc : X.calm = true) (hi : PI X tg iter (tIF X.K W C it)) (hg : PG X tg (gT X.K tgI)) (hb : PSs X body (tSs X.K W C ib))
    (hs : ∀ x, foldedSetIterable iter X.env x = pure x) : PS X (.For tg iter body [] pos) (tSt X.K W C (.for_ fz tgI it ib)) :=
  impS (ps_for hp hc hi hg hb hs) fun D σ H ⟨F, T, st, env, x, w, eo, p⟩ => by
    have p : PostS X.K W F T env ((evItV C (freeze env fz) it st).bnd fun ds st => forGo (fun d env st => (ofO (bind1 tgI d env) st).bnd fun env' st => evSs C ib env' st) ds (freeze env fz) st) D := p
    have nosv : ∀ {P : Prop}, W.sv = true → P := fun h => by rw [hz] at h; cases h
    obtain ⟨F1, x1, w1, eo1, _, p1⟩ := fz_go (.inl hz) x w eo p
    refine ⟨F1, T, st, _, w1, eo1, (p1.step (R1 := rItF X.K) x1 nosv).mono fun J H2 ⟨F2, T2, st2, ds, x2, w2, ⟨gv, hlen⟩, p2⟩ => ?_⟩
    have eo2 := eo1.ext x2
    have x12 := x1.trans x2
    refine ⟨fun i m σ3 H3 => m = ds.length - i ∧ i ≤ ds.length ∧ ∃ F3 T3 st3 env3, Same F2 F3 ∧ Pre T2 T3 ∧ Ext W.B.F W.B.T W.B.H F3 T3 H3 ∧ WF X.K F3 T3 st3 H3 ∧ EnvOk X.K W.xi F3 T3 H3 env3 σ3 ∧
      PostS X.K W F3 T3 env (forGo (fun d env st => (ofO (bind1 tgI d env) st).bnd fun env' st => evSs C ib env' st) (ds.drop i) env3 st3) D, ⟨ds.length, rfl, Nat.zero_le _, F2, T2, st2, _, .refl _, .refl _, x12, w2, eo2, p2⟩, ?_⟩
    rintro i m σ3 H3 ⟨em, le, F3, T3, st3, env3, sm, pr, x3, w3, eo3, p3⟩
    have g := gv F3 T3 st3 H3 ⟨sm, pr⟩ w3 i
    by_cases e : i = ds.length
    · subst e
      rw [List.drop_length] at p3
      exact .inl ⟨g.2 rfl, p3 F3 T3 H3 σ3 (.refl _) (.refl _) x3 w3 eo3⟩
    · have lt : i < ds.length := by omega
      obtain ⟨d, hd⟩ : ∃ d, ds[i]? = some d := ⟨_, List.getElem?_eq_getElem lt⟩
      obtain ⟨go, yl⟩ := g.1 d hd
      have ed : ds.drop i = d :: ds.drop (i + 1) := by
        obtain ⟨l, e⟩ := List.getElem?_eq_some_iff.mp hd
        rw [← e]
        exact List.drop_eq_getElem_cons l
      rw [ed] at p3
      have p3 : PostS X.K W F3 T3 env (((ofO (bind1 tgI d env3) st3).bnd fun env' st => evSs C ib env' st).bnd fun f st1 => (match f with
        | .nx env1 => forGo (fun d env st => (ofO (bind1 tgI d env) st).bnd fun env' st => evSs C ib env' st) (ds.drop (i + 1)) env1 st1
        | .ct env1 => forGo (fun d env st => (ofO (bind1 tgI d env) st).bnd fun env' st => evSs C ib env' st) (ds.drop (i + 1)) env1 st1
        | .bk env1 => .ok (.nx env1) st1
        | .rt d => .ok (.rt d) st1)) D := p3
      refine .inr ⟨go, fun σ4 H4 => ∃ m', m' < m ∧ (m' = ds.length - (i + 1) ∧ i + 1 ≤ ds.length ∧ ∃ F3 T3 st3 env3, Same F2 F3 ∧ Pre T2 T3 ∧ Ext W.B.F W.B.T W.B.H F3 T3 H4 ∧ WF X.K F3 T3 st3 H4 ∧ EnvOk X.K W.xi F3 T3 H4 env3 σ4 ∧
        PostS X.K W F3 T3 env (forGo (fun d env st => (ofO (bind1 tgI d env) st).bnd fun env' st => evSs C ib env' st) (ds.drop (i + 1)) env3 st3) D), fun σ' H' h => h, fun y H4 hy => ?_⟩
      obtain ⟨F4, x4, w4, r4⟩ := yl y H4 hy
      cases eb : bind1 tgI d env3 with
      | none => rw [eb] at p3; exact p3.elim
      | some env4 =>
        rw [eb] at p3
        have p3 : PostS X.K W F3 T3 env ((evSs C ib env4 st3).bnd fun f st1 => (match f with
          | .nx env1 => forGo (fun d env st => (ofO (bind1 tgI d env) st).bnd fun env' st => evSs C ib env' st) (ds.drop (i + 1)) env1 st1
          | .ct env1 => forGo (fun d env st => (ofO (bind1 tgI d env) st).bnd fun env' st => evSs C ib env' st) (ds.drop (i + 1)) env1 st1
          | .bk env1 => .ok (.nx env1) st1
          | .rt d => .ok (.rt d) st1)) D := p3
        refine bind_ok w4 r4 (eo3.ext x4) eb fun σ5 eo5 _ => ⟨F4, T3, st3, env4, x3.trans x4, w4, eo5, ?_⟩
        have p4 := (p3.shift x4.fr x4.pre).bnd (D' := { D with nx := fun σ4 H4 => ∃ m', m' < m ∧ (m' = ds.length - (i + 1) ∧ i + 1 ≤ ds.length ∧ ∃ F3 T3 st3 env3, Same F2 F3 ∧ Pre T2 T3 ∧ Ext W.B.F W.B.T W.B.H F3 T3 H4 ∧ WF X.K F3 T3 st3 H4 ∧ EnvOk X.K W.xi F3 T3 H4 env3 σ4 ∧
          PostS X.K W F3 T3 env (forGo (fun d env st => (ofO (bind1 tgI d env) st).bnd fun env' st => evSs C ib env' st) (ds.drop (i + 1)) env3 st3) D), ct := fun σ4 H4 => ∃ m', m' < m ∧ (m' = ds.length - (i + 1) ∧ i + 1 ≤ ds.length ∧ ∃ F3 T3 st3 env3, Same F2 F3 ∧ Pre T2 T3 ∧ Ext W.B.F W.B.T W.B.H F3 T3 H4 ∧ WF X.K F3 T3 st3 H4 ∧ EnvOk X.K W.xi F3 T3 H4 env3 σ4 ∧
          PostS X.K W F3 T3 env (forGo (fun d env st => (ofO (bind1 tgI d env) st).bnd fun env' st => evSs C ib env' st) (ds.drop (i + 1)) env3 st3) D), bk := D.nx }) fun F6 T6 H6 σ6 f st6 a6 b6 x6 w6 e6 p6 => ?_
        · revert p4
          cases evSs C ib env4 st3 with
          | bad => exact id
          | ok f st => exact id
          | ex c ks ds st => exact fun p4 dx F' T' H' σ' a b x w r _ => p4 dx F' T' H' σ' a b x w r nosv
        · cases f with
          | nx env6 => exact fun eo6 => ⟨ds.length - (i + 1), by omega, rfl, by omega, F6, T6, st6, env6, sm.trans (x4.fr.trans a6), pr.trans (x4.pre.trans b6), x6, w6, eo6, p6⟩
          | ct env6 => exact fun eo6 => ⟨ds.length - (i + 1), by omega, rfl, by omega, F6, T6, st6, env6, sm.trans (x4.fr.trans a6), pr.trans (x4.pre.trans b6), x6, w6, eo6, p6⟩
          | bk env6 => exact p6 F6 T6 H6 σ6 (.refl _) (.refl _) x6 w6
          | rt d => exact p6 F6 T6 H6 σ6 (.refl _) (.refl _) x6 w6
theorem ss_whl {c : Expr} {body : List Stmt} {ic : E} {ib : Ss} {n : Nat} {pos : Pos} (hz : W.sv = false) (hp : PassesOwn (model X.prog X.w) X.A X.env X.xe) (hc : PT X c (tT X.K W C ic)) (hb : PSs X body (tSs X.K W C ib)) : PS X (.While c body [] pos) (tSt X.K W C (.whl n ic ib)) :=
  impS (ps_while hp hc hb) fun D σ H ⟨F, T, st, env, x, w, eo, p⟩ => by
    have p : PostS X.K W F T env (whlGo (fun env st => evT C env ic st) (evSs C ib) n env st) D := p
    have nosv : ∀ {P : Prop}, W.sv = true → P := fun h => by rw [hz] at h; cases h
    refine ⟨fun m σ3 H3 => ∃ F3 T3 st3 env3, Ext W.B.F W.B.T W.B.H F3 T3 H3 ∧ WF X.K F3 T3 st3 H3 ∧ EnvOk X.K W.xi F3 T3 H3 env3 σ3 ∧ PostS X.K W F3 T3 env (whlGo (fun env st => evT C env ic st) (evSs C ib) m env3 st3) D, ⟨n, F, T, st, env, x, w, eo, p⟩, ?_⟩
    rintro m σ3 H3 ⟨F3, T3, st3, env3, x3, w3, eo3, p3⟩
    cases m with
    | zero => exact p3.elim
    | succ m =>
      have p3 : PostS X.K W F3 T3 env ((evT C env3 ic st3).bnd fun b st1 => (match b with
        | false => .ok (.nx env3) st1
        | true => (evSs C ib env3 st1).bnd fun f st2 => (match f with
          | .nx env1 => whlGo (fun env st => evT C env ic st) (evSs C ib) m env1 st2
          | .ct env1 => whlGo (fun env st => evT C env ic st) (evSs C ib) m env1 st2
          | .bk env1 => .ok (.nx env1) st2
          | .rt d => .ok (.rt d) st2))) D := p3
      refine ⟨F3, T3, st3, env3, w3, eo3, (p3.step (R1 := rEq) x3 nosv).mono fun b H4 ⟨F4, T4, st4, b', x4, w4, rb, p4⟩ => ?_⟩
      have rb : b' = b := rb
      subst rb
      have x34 := x3.trans x4
      have eo4 := eo3.ext x4
      cases b' with
      | false =>
        simp only [Bool.false_eq_true, if_false]
        exact p4 F4 T4 H4 σ3 (.refl _) (.refl _) x34 w4 eo4
      | true =>
        simp only [if_true]
        refine ⟨fun σ5 H5 => ∃ m', m' < m + 1 ∧ ∃ F3 T3 st3 env3, Ext W.B.F W.B.T W.B.H F3 T3 H5 ∧ WF X.K F3 T3 st3 H5 ∧ EnvOk X.K W.xi F3 T3 H5 env3 σ5 ∧ PostS X.K W F3 T3 env (whlGo (fun env st => evT C env ic st) (evSs C ib) m' env3 st3) D, fun _ _ h => h, F4, T4, st4, env3, x34, w4, eo4, ?_⟩
        have p4 : PostS X.K W F4 T4 env ((evSs C ib env3 st4).bnd fun f st2 => (match f with
          | .nx env1 => whlGo (fun env st => evT C env ic st) (evSs C ib) m env1 st2
          | .ct env1 => whlGo (fun env st => evT C env ic st) (evSs C ib) m env1 st2
          | .bk env1 => .ok (.nx env1) st2
          | .rt d => .ok (.rt d) st2)) D := p4
        have p5 := p4.bnd (D' := { D with nx := fun σ5 H5 => ∃ m', m' < m + 1 ∧ ∃ F3 T3 st3 env3, Ext W.B.F W.B.T W.B.H F3 T3 H5 ∧ WF X.K F3 T3 st3 H5 ∧ EnvOk X.K W.xi F3 T3 H5 env3 σ5 ∧ PostS X.K W F3 T3 env (whlGo (fun env st => evT C env ic st) (evSs C ib) m' env3 st3) D, ct := fun σ5 H5 => ∃ m', m' < m + 1 ∧ ∃ F3 T3 st3 env3, Ext W.B.F W.B.T W.B.H F3 T3 H5 ∧ WF X.K F3 T3 st3 H5 ∧ EnvOk X.K W.xi F3 T3 H5 env3 σ5 ∧ PostS X.K W F3 T3 env (whlGo (fun env st => evT C env ic st) (evSs C ib) m' env3 st3) D, bk := D.nx }) fun F6 T6 H6 σ6 f st6 a6 b6 x6 w6 e6 p6 => ?_
        · revert p5
          cases evSs C ib env3 st4 with
          | bad => exact id
          | ok f st => exact id
          | ex c ks ds st => exact fun p4 dx F' T' H' σ' a b x w r _ => p4 dx F' T' H' σ' a b x w r nosv
        · cases f with
          | nx env6 => exact fun eo6 => ⟨m, Nat.lt_succ_self _, F6, T6, st6, env6, x6, w6, eo6, p6⟩
          | ct env6 => exact fun eo6 => ⟨m, Nat.lt_succ_self _, F6, T6, st6, env6, x6, w6, eo6, p6⟩
          | bk env6 => exact p6 F6 T6 H6 σ6 (.refl _) (.refl _) x6 w6
          | rt d => exact p6 F6 T6 H6 σ6 (.refl _) (.refl _) x6 w6
end
end Eng
set_option Elab.async false
set_option linter.all false
set_option maxRecDepth 100000
set_option maxHeartbeats 2000000
/-! Eng 16: the package's errors: super().__init__(p, ..), then self.p = p -/
namespace Eng
open PySem PySem.Spec PySem.W PySem.Calls PyProof.Rows PySem.HandSPX

/-- what the written part says of an error class at C; its __init__, at fI, is a def with the cell of its class -/
structure SupC (K : Frag) (file : Str) (C fI : Addr) (qual : Str) (params : Arguments) (body : List Stmt) (scope : Scope) : Prop where
  cls : ∃ nm q N bs bm sn sub ab col dd k0 k1 k2 k3 k5, K.lookup C = some (excClassObj nm q C N bs bm true sn sub ab col dd k0 k1 k2 k3 k5 "ValueError.__new__") ∧ refsVE bm = true ∧ alongIn K "__init__" bm = some (some (.builtin "ValueError.__init__"))
  sa : findIn K (.ref C) "__setattr__" = some (some (.builtin "object.__setattr__"))
  iC : findIn K (.ref C) "__init__" = some (some (.ref fI))
  tI : typeIn K (.ref fI) = some (.type "function")
  veC : subIn K (.ref C) (.type "ValueError") = some true
  self : mroIn K C (.ref C) = some true
  op : nsIn K cStatics "thirdparty.any" = some none
  fn : ∃ (oc : Value) (od : Option Addr) (doc pm : Value) (an : Option Addr) (cda : Addr) (ct : Value) (osl : Array (Option Value)) (cc : Addr) (ccl : Value) (cdd : Option Addr) (vs : Array Value) (ccs : Array (Option Value)) (tf : Tok) (cl : Value) (cld : Option Addr) (csl : Array (Option Value)),
    K.lookup fI = some ⟨oc, od, .func (ksFn "__init__" qual params body scope .none .none doc pm an (.ref cda) ct cc), osl⟩ ∧ codeIn K (.ref cda) qual = true ∧ K.lookup cda = some ⟨ccl, cdd, .fields vs, ccs⟩ ∧ vs[2]? = some (.str file tf) ∧
    K.lookup cc = some ⟨cl, cld, .cell (some (.ref C)), csl⟩
/-- what the module says of super -/
structure SupG (h : Heap) (mg mb : Str → Option Value) : Prop where
  g : h.Ns mainGlobals mg
  b : h.Ns builtinsNs mb
  mg : mg "super" = none
  mb : mb "super" = some (.type "super")
section
variable {prog : Program} {w : World} {A : Around} {E : Value → Shared → Prop} {K : Frag} {file : Str} {C fI : Addr} {qual : Str} {params : Arguments} {body : List Stmt} {scope : Scope} {mg mb : Str → Option Value}
/-- ValueError.__init__ bound to the exception, called -/
theorem bw_call {h : Heap} {g : Array GenState} {d : Drawn} {t : Nat} {os : OsState} {u x t0 : Addr} {rest : List Value} {Q : Value → Shared → Prop} {nm q : Str} {N : Addr} {bs bm : List Value} {hdct : Bool} {sn : List Str} {sub : List Value} {ab : Bool} {col : Option Bool} {dd : Option Addr} {k0 k1 k2 k3 k5 : Option Value}
    (hC : h.get? C = some (excClassObj nm q C N bs bm hdct sn sub ab col dd k0 k1 k2 k3 k5 "ValueError.__new__")) (he : h.get? x = some (excO C t0)) (hu : h.get? u = some (kxs_mw "ValueError.__init__" x)) (hz : rest.length ≤ sizeLine)
    (hq : ∀ h' t1, (∀ b o, b ≠ x → h.get? b = some o → h'.get? b = some o) → h'.get? x = some (excO C t1) → Q .none ⟨h', g, d, t, os⟩) :
    wpAny (model prog w) A (call (.ref u) rest) Q E ⟨h, g, d, t, os⟩ := by
  refine wpAny_call (codeAny_of_tree ?_)
  show wpAny _ A.in1 (callAny (.ref u) ⟨rest, []⟩) _ _ _
  simp only [callAny]
  refine wpAny_bind (wpAny_load hu ?_)
  simp only [kxs_mw, show (Value.type "method-wrapper" == Value.type "method" || Value.type "method-wrapper" == Value.type "builtin_function_or_method" || Value.type "method-wrapper" == Value.type "method-wrapper") = true by decide, if_true]
  refine KFB.if_so (by decide) ?_
  refine wpAny_bind (check_bound_init F.excBase_ValueError.toExcCallFacts hC he rfl ?_)
  refine wpAny_bind (wpAny_pure (wpAny_pure ?_))
  refine ⟨plainId_quiet F.excBase_ValueError.init.plain _, codeAny_builtin F.excBase_ValueError.initEntry ?_⟩
  exact exc_init_tree (cls := .ref C) (t0 := t0) (dv := none) (c2 := .none) (c3 := .none) (b4 := .bool false) he hz fun h' k e' _ => hq h' h.objs.size k e'

/-- super() and its __init__, as the frame of the class's own __init__ has them -/
theorem sup_expr {h : Heap} {g : Array GenState} {d : Drawn} {t : Nat} {os : OsState} {L x t0 cda cc : Addr} {m : Str → Option Value} {es : List Expr} {a1 a2 a3 a5 : Pos} {Q : Value → Shared → Prop} {ar : Arg} {oc : Value} {od : Option Addr} {doc pm : Value} {an : Option Addr} {ct : Value} {osl : Array (Option Value)} {pl : Sem Bool}
    {ccl : Value} {cdd : Option Addr} {vs : Array Value} {ccs : Array (Option Value)} {tf : Tok} {cl : Value} {cld : Option Addr} {csl : Array (Option Value)}
    (S : SupC K file C fI qual params body scope) (X : K.In h) (G : SupG h mg mb) (hx : h.get? x = some (excO C t0)) (hL : h.Ns L m)
    (hf : K.lookup fI = some ⟨oc, od, .func (ksFn "__init__" qual params body scope .none .none doc pm an (.ref cda) ct cc), osl⟩) (hcode : K.lookup cda = some ⟨ccl, cdd, .fields vs, ccs⟩) (hvs : vs[2]? = some (.str file tf)) (hcell : K.lookup cc = some ⟨cl, cld, .cell (some (.ref C)), csl⟩)
    (hfile : ((prog.main.file : Str) == file) = true) (htop : (prog.main.scope.names.lookup ("super" : Str)).isSome = false)
    (hp : (params.posonlyargs ++ params.args).head? = some ar) (hself : m ar.arg = some (.ref x)) (hks : scope.names.lookup ("super" : Str) = some .globalImplicit) (hkc : scope.names.lookup ("__class__" : Str) = some .free) (hka : scope.names.lookup ar.arg = some .local) (hk : scope.kind = .function)
    (h1 : ∀ u h1 t1, (∀ b o, h.get? b = some o → h1.get? b = some o) → h1.get? u = some (kxs_mw "ValueError.__init__" x) →
      wpAny (model prog w) A (callWith a5 (.ref u) [] (backTo a5 (starEach es (ksEnv qual scope L fI (.ref cda) cc))) []) Q E ⟨h1, g, d, t1, os⟩)
    (he : eval (.Call (.Attribute (.Call (.Name "super" a1) [] [] a2) "__init__" a3) es [] a5) (ksEnv qual scope L fI (.ref cda) cc) = (do
      let ov ← attributeBase (.Call (.Name "super" a1) [] [] a2) "__init__" (ksEnv qual scope L fI (.ref cda) cc) (eval (.Call (.Name "super" a1) [] [] a2) (ksEnv qual scope L fI (.ref cda) cc))
      standAt a3.atName
      let (f, first) ← holding [ov] (getMethod ov "__init__" pl)
      callWith a5 f first (backTo a5 (starEach es (ksEnv qual scope L fI (.ref cda) cc))) [])) :
    _root_.PySem.wpAt (model prog w) A (.func body (ksEnv qual scope L fI (.ref cda) cc)) (eval (.Call (.Attribute (.Call (.Name "super" a1) [] [] a2) "__init__" a3) es [] a5) (ksEnv qual scope L fI (.ref cda) cc)) Q E ⟨h, g, d, t, os⟩ := by
  obtain ⟨nm, q, N, bs, bm, sn, sub, ab, col, dd, k0, k1, k2, k3, k5, hC, hbm, hal⟩ := S.cls
  have hD1 := X _ _ hC
  refine ks_wpAt_MethodCall (pl := pl) ?_ he
  refine ks_wpAt_super_base (env := ksEnv qual scope L fI (.ref cda) cc) hks hkc (by decide) rfl (X _ _ hf) rfl hp rfl (X _ _ hcode) rfl hvs hfile htop ?_
  refine ks_loadName_global hk hks (loadGlobal_builtin (env := ksEnv qual scope L fI (.ref cda) cc) G.g G.mg G.b G.mb ⟨rfl, ?_⟩)
  refine wpAny_loadName_free hk hkc rfl ⟨_, X _ _ hcell, rfl⟩ ?_
  refine wpAny_loadName_local hk hka hL hself ?_
  refine ks_wpAny_isType_cls hD1 rfl ⟨rfl, ?_⟩
  refine ks_wpAny_call_super hD1 rfl hx rfl (fun c e => by cases (show Data.fields _ = Data.cls c from e)) (looks_mroIn X S.self) (fun h' e k => ?_)
  have X' : K.In h' := X.keeps k
  have hx' := k _ _ hx
  have I : InstAt h' x (excO C t0) C none := ⟨hx', rfl, rfl, trivial⟩
  have hcl : clsIn K C = some { name := nm, bases := bs, mro := .ref C :: bm, ns := N, qualname := q, hasDict := true, slotNames := sn, subclasses := sub, abstract := ab, collection := col, hasDel := false } := by unfold clsIn; rw [hC] <;> rfl
  have hmro : Looks (model prog w) h' (mroOf (.ref C)) (.ref C :: bm) := fun A Q E s k q => wpAny_bind ((looks_clsIn X' hcl) A _ E s k (wpAny_pure q))
  refine kxs_getMethod kxs_ValueError e (looks_opaque X' S.op) hmro (l := bm) (by simp [List.dropWhile_cons]) X' hal (I.type.andThen (looks_subIn X' S.veC)) (ks_ne X' I hcl) (by decide) ?_
  refine h1 _ _ _ (fun b o z => Heap.get?_push_of_some _ (k b o z)) (Heap.get?_push_at rfl rfl)
end
end Eng
set_option Elab.async false
set_option linter.all false
set_option maxRecDepth 100000
set_option maxHeartbeats 2000000
/-! Eng 17: an error class of the package, made -/
namespace Eng
open PySem PySem.Spec PySem.W PySem.Calls PyProof.Rows PySem.HandSPX

/-- an exception is made: at e, its dict at d -/
structure XMade (h h' : Heap) (e C d : Addr) (mA : Str → Option Value) : Prop where
  keep : ∀ b o, h.get? b = some o → h'.get? b = some o
  new : h.objs.size ≤ e
  obj : ∃ t1 : Addr, h'.get? e = some ({ cls := .ref C, dict := some d, data := .fields #[.ref t1, .none, .none, .none, .bool false, .none] } : Obj)
  dbig : h.objs.size ≤ d
  dne : d ≠ e
  ns : h'.Ns1 d mA
/-- what an __init__ leaves of a fresh exception at x -/
structure XInit (h h' : Heap) (x C dx : Addr) (mA : Str → Option Value) : Prop where
  keep : ∀ b o, b ≠ x → h.get? b = some o → h'.get? b = some o
  obj : ∃ t1 : Addr, h'.get? x = some ({ cls := .ref C, dict := some dx, data := .fields #[.ref t1, .none, .none, .none, .bool false, .none] } : Obj)
  dbig : h.objs.size ≤ dx
  dne : dx ≠ x
  ns : h'.Ns1 dx mA
section
variable {prog : Program} {w : World} {A : Around} {E : Value → Shared → Prop} {R : Result → Shared → Prop} {s : Shared} {K : Frag} {file : Str} {C fI : Addr} {qual : Str} {params : Arguments} {body : List Stmt} {scope : Scope} {mg mb : Str → Option Value}
/-- from its __init__ to the class called -/
theorem made_of (S : SupC K file C fI qual params body scope) {us : List Value} {mA : Str → Option Value} (X : K.In s.heap) (hlim : s.heap.NoLimit) (hz : us.length ≤ sizeLine)
    (hi : ∀ (A : Around) (R : Result → Shared → Prop) (s' : Shared) (x t0 : Addr), A.depth = A.depth → K.In s'.heap → s'.heap.NoLimit → s'.heap.get? x = some (excO C t0) → (∀ b o, s.heap.get? b = some o → s'.heap.get? b = some o) → s.heap.objs.size ≤ x →
      (∀ h' tk dx, XInit s'.heap h' x C dx mA → R (.ok (.ret .none)) { s' with heap := h', toks := tk }) → (A.depth < recursionLimit) → codeAny (model prog w) A (.call (.ref fI) ⟨.ref x :: us, []⟩) R s') (hroom : A.depth + 1 < recursionLimit)
    (hq : ∀ h' tk e d, XMade s.heap h' e C d mA → R (.ok (.ret (.ref e))) { s with heap := h', toks := tk }) : codeAny (model prog w) A (.call (.ref C) ⟨us, []⟩) R s := by
  obtain ⟨nm, q, N, bs, bm, sn, sub, ab, col, dd, k0, k1, k2, k3, k5, hC, hbm, hal⟩ := S.cls
  obtain ⟨hp, g, dr, tk, os⟩ := s
  have k : ∀ b o, hp.get? b = some o → ((hp.push (kdv_tup us)).push (excO C hp.objs.size)).get? b = some o := fun b o e => Heap.get?_push_of_some _ (Heap.get?_push_of_some _ e)
  have hget : ((hp.push (kdv_tup us)).push (excO C hp.objs.size)).get? (hp.objs.size + 1) = some (excO C hp.objs.size) := by heap_get
  refine call_own F.excBase_ValueError (fun Y => refsVE_contains Y bm hbm) (X _ _ hC) (looks_findIn X S.iC) (fun self => bind_fn X self S.tI) hz ?_
  refine hi _ _ ⟨(hp.push (kdv_tup us)).push (excO C hp.objs.size), g, dr, tk, os⟩ (hp.objs.size + 1) hp.objs.size rfl (X.keeps k) (hlim.keeps k) hget k (Nat.le_succ _) (fun h' tk' dx M => ?_) hroom
  have z : hp.objs.size + 1 + 1 ≤ dx := by
    have q := M.dbig
    rw [Heap.size_push, Heap.size_push] at q
    exact q
  exact ⟨rfl, hq h' tk' (hp.objs.size + 1) dx ⟨fun b o e => M.keep b o (Nat.ne_of_lt (Nat.lt_succ_of_lt (Heap.lt_size e))) (k b o e), Nat.le_succ _, M.obj, by show hp.objs.size ≤ dx; omega, M.dne, M.ns⟩⟩
/-- the statement super().__init__(p, ..) walked in the frame -/
theorem sup_stmt {h : Heap} {g : Array GenState} {d : Drawn} {t : Nat} {os : OsState} {L x t0 cda cc : Addr} {m : Str → Option Value} {es : List Expr} {a1 a2 a3 a5 a6 : Pos} {us : List Value} {rest : List Stmt} {Q : Flow → Shared → Prop} {ar : Arg} {oc : Value} {od : Option Addr} {doc pm : Value} {an : Option Addr} {ct : Value} {osl : Array (Option Value)}
    {ccl : Value} {cdd : Option Addr} {vs : Array Value} {ccs : Array (Option Value)} {tf : Tok} {cl : Value} {cld : Option Addr} {csl : Array (Option Value)} {pl : Sem Bool}
    (S : SupC K file C fI qual params body scope) (X : K.In h) (G : SupG h mg mb) (hx : h.get? x = some (excO C t0)) (hxL : L ≠ x) (hL : h.Ns L m)
    (hf : K.lookup fI = some ⟨oc, od, .func (ksFn "__init__" qual params body scope .none .none doc pm an (.ref cda) ct cc), osl⟩) (hcode : K.lookup cda = some ⟨ccl, cdd, .fields vs, ccs⟩) (hvs : vs[2]? = some (.str file tf)) (hcell : K.lookup cc = some ⟨cl, cld, .cell (some (.ref C)), csl⟩)
    (hfile : ((prog.main.file : Str) == file) = true) (htop : (prog.main.scope.names.lookup ("super" : Str)).isSome = false)
    (hp : (params.posonlyargs ++ params.args).head? = some ar) (hself : m ar.arg = some (.ref x)) (hks : scope.names.lookup ("super" : Str) = some .globalImplicit) (hkc : scope.names.lookup ("__class__" : Str) = some .free) (hka : scope.names.lookup ar.arg = some .local) (hk : scope.kind = .function)
    (he : eval (.Call (.Attribute (.Call (.Name "super" a1) [] [] a2) "__init__" a3) es [] a5) (ksEnv qual scope L fI (.ref cda) cc) = (do
      let ov ← attributeBase (.Call (.Name "super" a1) [] [] a2) "__init__" (ksEnv qual scope L fI (.ref cda) cc) (eval (.Call (.Name "super" a1) [] [] a2) (ksEnv qual scope L fI (.ref cda) cc))
      standAt a3.atName
      let (f, first) ← holding [ov] (getMethod ov "__init__" pl)
      callWith a5 f first (backTo a5 (starEach es (ksEnv qual scope L fI (.ref cda) cc))) []))
    (hpl : (backTo a5 (starEach es (ksEnv qual scope L fI (.ref cda) cc))).any (·.1) = false) (hz : us.length ≤ sizeLine)
    (ha : ∀ (s1 : Shared) (Q1 : Args → Shared → Prop) (E1 : Value → Shared → Prop) (u : Addr), s1.heap.Ns L m → Q1 ⟨us, []⟩ s1 → wpAny (model prog w) A (evalArgs (.ref u) true (backTo a5 (starEach es (ksEnv qual scope L fI (.ref cda) cc))) []) Q1 E1 s1)
    (hsw : swapsWith (.Call (.Attribute (.Call (.Name "super" a1) [] [] a2) "__init__" a3) es [] a5) none a6.line (ksEnv qual scope L fI (.ref cda) cc) = pure false) (hin : interactive (ksEnv qual scope L fI (.ref cda) cc) = false)
    (hq : ∀ h' t1 tk, (∀ b o, b ≠ x → h.get? b = some o → h'.get? b = some o) → h'.get? x = some (excO C t1) → h'.Ns L m →
      _root_.PySem.wpAt (model prog w) A (.func body (ksEnv qual scope L fI (.ref cda) cc)) (execs rest (ksEnv qual scope L fI (.ref cda) cc)) Q E ⟨h', g, d, tk, os⟩) :
    _root_.PySem.wpAt (model prog w) A (.func body (ksEnv qual scope L fI (.ref cda) cc)) (execs (.Expr (.Call (.Attribute (.Call (.Name "super" a1) [] [] a2) "__init__" a3) es [] a5) a6 :: rest) (ksEnv qual scope L fI (.ref cda) cc)) Q E ⟨h, g, d, t, os⟩ := by
  obtain ⟨nm, q, N, bs, bm, sn, sub, ab, col, dd, k0, k1, k2, k3, k5, hC, hbm, hal⟩ := S.cls
  refine ks_wpAt_execs_cons (ks_wpAt_Expr_any ?_ hin hsw)
  refine sup_expr S X G hx hL hf hcode hvs hcell hfile htop hp hself hks hkc hka hk (fun u h1 t1 k1 hu => ?_) he
  refine kxs_callWith (i := "ValueError.__init__") (x := x) hpl ?_
  refine ha _ _ _ u (hL.keeps k1) ⟨hu, ?_⟩
  rw [List.nil_append]
  refine bw_call (X.keeps k1 _ _ hC) (k1 _ _ hx) hu hz fun h2 t2 k2 hx2 => ?_
  refine hq h2 t2 _ (fun b o hb e => k2 b o hb (k1 b o e)) hx2 ?_
  obtain ⟨o, es', ep, ho, r⟩ := hL.keeps k1
  exact ⟨o, es', ep, k2 _ _ hxL ho, r⟩
/-- self.f = p, the first one -/
theorem sup_set {h : Heap} {g : Array GenState} {d : Drawn} {t : Nat} {os : OsState} {L x t0 cda cc : Addr} {m : Str → Option Value} {f p : Str} {v : Value} {b1 b2 b3 b4 : Pos} {rest : List Stmt} {Q : Flow → Shared → Prop}
    (S : SupC K file C fI qual params body scope) (X : K.In h) (hx : h.get? x = some (excO C t0)) (hxL : L ≠ x) (hL : h.Ns L m) (no : findIn K (.ref C) f = some none)
    (hself : m "self" = some (.ref x)) (hv : m p = some v) (hks : scope.names.lookup ("self" : Str) = some .local) (hkp : scope.names.lookup p = some .local) (hk : scope.kind = .function) (hpd : (p == ("__debug__" : Str)) = false)
    (hsw : swapsWith (.Name p b3) (some (.Attribute (.Name "self" b1) f b2)) b4.line (ksEnv qual scope L fI (.ref cda) cc) = pure false)
    (hq : ∀ h' dx tk, (∀ b o, b ≠ x → h.get? b = some o → h'.get? b = some o) → h.objs.size ≤ dx → dx ≠ x → h'.get? x = some ({ cls := .ref C, dict := some dx, data := .fields #[.ref t0, .none, .none, .none, .bool false, .none] } : Obj) → h'.Ns1 dx (fun y => if y = f then some v else none) → h'.Ns L m →
      _root_.PySem.wpAt (model prog w) A (.func body (ksEnv qual scope L fI (.ref cda) cc)) (execs rest (ksEnv qual scope L fI (.ref cda) cc)) Q E ⟨h', g, d, tk, os⟩) :
    _root_.PySem.wpAt (model prog w) A (.func body (ksEnv qual scope L fI (.ref cda) cc)) (execs (.Assign [.Attribute (.Name "self" b1) f b2] (.Name p b3) b4 :: rest) (ksEnv qual scope L fI (.ref cda) cc)) Q E ⟨h, g, d, t, os⟩ := by
  obtain ⟨nm, q, N, bs, bm, sn, sub, ab, col, dd, k0, k1, k2, k3, k5, hC, hbm, hal⟩ := S.cls
  have hcl : clsIn K C = some { name := nm, bases := bs, mro := .ref C :: bm, ns := N, qualname := q, hasDict := true, slotNames := sn, subclasses := sub, abstract := ab, collection := col, hasDel := false } := by unfold clsIn; rw [hC] <;> rfl
  refine ks_wpAt_execs_cons (ks_wpAt_Assign_Attr (wpAt_of_wpAny ?_) hsw)
  refine ESX.ldL (m := m) hL hv (ESX.ldL (m := m) hL hself ?_ hk hks (by decide)) hk hkp hpd
  refine set_plain X (ox := excO C t0) (od := none) ⟨hx, rfl, rfl, trivial⟩ S.sa ?_
  refine exc_osa X hx hcl (show refsVE (.ref C :: bm) = true from hbm) rfl no (fun h3 tk3 dx k dn dne hx3 hn3 => ?_)
  obtain ⟨o, es', ep, ho, r⟩ := id hL
  exact hq h3 dx _ k dn dne hx3 hn3 ⟨o, es', ep, k _ _ hxL ho, r⟩
/-- self.f = p, a further one -/
theorem sup_set2 {h : Heap} {g : Array GenState} {d : Drawn} {t : Nat} {os : OsState} {L x t0 cda cc dx : Addr} {m mA : Str → Option Value} {f p : Str} {v : Value} {b1 b2 b3 b4 : Pos} {rest : List Stmt} {Q : Flow → Shared → Prop} {nl : List Str}
    (S : SupC K file C fI qual params body scope) (X : K.In h) (hx : h.get? x = some ({ cls := .ref C, dict := some dx, data := .fields #[.ref t0, .none, .none, .none, .bool false, .none] } : Obj)) (hns : h.Ns1 dx mA) (hw : Within mA nl) (hz : nl.length ≤ 1000) (hdL : L ≠ dx) (hL : h.Ns L m) (no : findIn K (.ref C) f = some none)
    (hself : m "self" = some (.ref x)) (hv : m p = some v) (hks : scope.names.lookup ("self" : Str) = some .local) (hkp : scope.names.lookup p = some .local) (hk : scope.kind = .function) (hpd : (p == ("__debug__" : Str)) = false)
    (hsw : swapsWith (.Name p b3) (some (.Attribute (.Name "self" b1) f b2)) b4.line (ksEnv qual scope L fI (.ref cda) cc) = pure false)
    (hq : ∀ h' tk, (∀ b o, b ≠ dx → h.get? b = some o → h'.get? b = some o) → h'.Ns1 dx (fun y => if y = f then some v else mA y) → h'.Ns L m →
      _root_.PySem.wpAt (model prog w) A (.func body (ksEnv qual scope L fI (.ref cda) cc)) (execs rest (ksEnv qual scope L fI (.ref cda) cc)) Q E ⟨h', g, d, tk, os⟩) :
    _root_.PySem.wpAt (model prog w) A (.func body (ksEnv qual scope L fI (.ref cda) cc)) (execs (.Assign [.Attribute (.Name "self" b1) f b2] (.Name p b3) b4 :: rest) (ksEnv qual scope L fI (.ref cda) cc)) Q E ⟨h, g, d, t, os⟩ := by
  obtain ⟨nm, q, N, bs, bm, sn, sub, ab, col, dd, k0, k1, k2, k3, k5, hC, hbm, hal⟩ := S.cls
  have hcl : clsIn K C = some { name := nm, bases := bs, mro := .ref C :: bm, ns := N, qualname := q, hasDict := true, slotNames := sn, subclasses := sub, abstract := ab, collection := col, hasDel := false } := by unfold clsIn; rw [hC] <;> rfl
  obtain ⟨oD, _, _, hoD, _, _⟩ := hns.count hw
  refine ks_wpAt_execs_cons (ks_wpAt_Assign_Attr (wpAt_of_wpAny ?_) hsw)
  refine ESX.ldL (m := m) hL hv (ESX.ldL (m := m) hL hself ?_ hk hks (by decide)) hk hkp hpd
  refine set_plain X (ox := { cls := .ref C, dict := some dx, data := .fields #[.ref t0, .none, .none, .none, .bool false, .none] }) (od := some oD) ⟨hx, rfl, rfl, hoD⟩ S.sa ?_
  refine OEX.osa_old X hx hns hw hz hcl (show refsVE (.ref C :: bm) = true from hbm) rfl no (fun h3 tk3 k hn3 => ?_)
  obtain ⟨o, es', ep, ho, r⟩ := id hL
  exact hq h3 _ k hn3 ⟨o, es', ep, k _ _ hdL ho, r⟩
end
end Eng
set_option Elab.async false
set_option linter.all false
set_option maxRecDepth 100000
set_option maxHeartbeats 2000000
/-! Eng 18: an error of one field, of two fields; raise -/
namespace Eng
open PySem PySem.Spec PySem.W PySem.Calls PyProof.Rows PySem.HandSPX

/-- what the text of such an __init__ must say -/
structure SupT (qual : Str) (params : Arguments) (scope : Scope) : Prop where
  hp : ∃ ar, (params.posonlyargs ++ params.args).head? = some ar ∧ ar.arg = ("self" : Str)
  hks : scope.names.lookup ("super" : Str) = some .globalImplicit
  hkc : scope.names.lookup ("__class__" : Str) = some .free
  hse : scope.names.lookup ("self" : Str) = some .local
  hk : scope.kind = .function
  hco : scope.isCoroutine = false
  hgen : scope.isGenerator = false
  hcell : (scope.names.all fun y => decide (y.2 ≠ .cell)) = true
/-- what the statement super().__init__(es) must say -/
structure SupE (qual : Str) (scope : Scope) (a1 a2 a3 a5 a6 : Pos) (es : List Expr) : Prop where
  he : ∀ (L fI cda cc : Addr), ∃ pl, eval (.Call (.Attribute (.Call (.Name "super" a1) [] [] a2) "__init__" a3) es [] a5) (ksEnv qual scope L fI (.ref cda) cc) = (do
      let ov ← attributeBase (.Call (.Name "super" a1) [] [] a2) "__init__" (ksEnv qual scope L fI (.ref cda) cc) (eval (.Call (.Name "super" a1) [] [] a2) (ksEnv qual scope L fI (.ref cda) cc))
      standAt a3.atName
      let (f, first) ← holding [ov] (getMethod ov "__init__" pl)
      callWith a5 f first (backTo a5 (starEach es (ksEnv qual scope L fI (.ref cda) cc))) [])
  sw : ∀ (L fI cda cc : Addr), swapsWith (.Call (.Attribute (.Call (.Name "super" a1) [] [] a2) "__init__" a3) es [] a5) none a6.line (ksEnv qual scope L fI (.ref cda) cc) = pure false
  inn : ∀ (L fI cda cc : Addr), interactive (ksEnv qual scope L fI (.ref cda) cc) = false
theorem SupG.keeps {h h' : Heap} {mg mb : Str → Option Value} (G : SupG h mg mb) (k : ∀ b o, h.get? b = some o → h'.get? b = some o) : SupG h' mg mb := ⟨G.g.keeps k, G.b.keeps k, G.mg, G.mb⟩
theorem in_but {K : Frag} {h0 h h' : Heap} {x : Addr} (X0 : K.In h0) (hx : h0.objs.size ≤ x) (X : K.In h) (k : ∀ b o, b ≠ x → h.get? b = some o → h'.get? b = some o) : K.In h' := fun a o e =>
  k a o (Nat.ne_of_lt (Nat.lt_of_lt_of_le (Heap.lt_size (X0 a o e)) hx)) (X a o e)
section
variable {prog : Program} {w : World} {A : Around} {E : Value → Shared → Prop} {R : Result → Shared → Prop} {s : Shared} {K : Frag} {file : Str} {C fI : Addr} {qual : Str} {params : Arguments} {body : List Stmt} {scope : Scope} {mg mb : Str → Option Value}
/-- an error of one field -/
theorem made1 {p f : Str} {a1 a2 a3 a4 a5 a6 b1 b2 b3 b4 : Pos} {v : Value} (S : SupC K file C fI qual params body scope) (T : SupT qual params scope) (U : SupE qual scope a1 a2 a3 a5 a6 [.Name p a4])
    (hbody : body = [.Expr (.Call (.Attribute (.Call (.Name "super" a1) [] [] a2) "__init__" a3) [.Name p a4] [] a5) a6, .Assign [.Attribute (.Name "self" b1) f b2] (.Name p b3) b4])
    (hb : ∀ (doc pm : Value) (an : Option Addr) (cda : Addr) (ct : Value) (cc : Addr) (u v : Value), bindArgs (ksFn "__init__" qual params body scope .none .none doc pm an (.ref cda) ct cc) ⟨[u, v], []⟩ = pure [(("self" : Str), u), (p, v)])
    (hps : (("self" : Str) == p) = false) (hkp : scope.names.lookup p = some .local) (hpd : (p == ("__debug__" : Str)) = false) (no : findIn K (.ref C) f = some none)
    (hsw : ∀ L cda cc, swapsWith (.Name p b3) (some (.Attribute (.Name "self" b1) f b2)) b4.line (ksEnv qual scope L fI (.ref cda) cc) = pure false)
    (hfile : ((prog.main.file : Str) == file) = true) (htop : (prog.main.scope.names.lookup ("super" : Str)).isSome = false)
    (X : K.In s.heap) (G : SupG s.heap mg mb) (hlim : s.heap.NoLimit) (hroom : A.depth + 1 < recursionLimit)
    (hq : ∀ h' tk e d, XMade s.heap h' e C d (fun y => if y = f then some v else none) → R (.ok (.ret (.ref e))) { s with heap := h', toks := tk }) : codeAny (model prog w) A (.call (.ref C) ⟨[v], []⟩) R s := by
  obtain ⟨oc, od, doc, pm, an, cda, ct, osl, cc, ccl, cdd, vs, ccs, tf, cl, cld, csl, hf, hcd, hcode, hvs, hcel⟩ := S.fn
  obtain ⟨ar, har, hself⟩ := T.hp
  have one : [v].length ≤ sizeLine := by rw [sizeLine_eq]; exact (by decide : 1 ≤ 16777216)
  refine made_of S X hlim one (fun A R s' x t0 _ X' lim' hx' k' hle hq' hroom' => ?_) hroom hq
  obtain ⟨h0, g, d, t, os⟩ := s'
  have bnd := hb doc pm an cda ct cc (.ref x) v
  subst hbody
  refine ks_codeAny_call_defAt (fd := ksFn "__init__" qual params _ scope .none .none doc pm an (.ref cda) ct cc) (binds := [("self", .ref x), (p, v)]) hroom' (X' _ _ hf) rfl lim' (codeRec_of X' hcd) rfl (BindsTo.of_eq bnd)
    (fun y hy => of_decide_eq_true (List.all_eq_true.mp T.hcell y hy)) (fun y hy => ?_) (fun h1 hns k1 => ?_) T.hco T.hgen T.hk
  · rcases List.mem_cons.mp hy with rfl | hy
    · exact T.hse
    · rw [List.mem_singleton.mp hy]
      exact hkp
  · have hxL : h0.objs.size ≠ x := Nat.ne_of_gt (Heap.lt_size hx')
    have mself : ([("self", Value.ref x), (p, v)] : List (Str × Value)).reverse.lookup ("self" : Str) = some (Value.ref x) := by
      show (match ("self" : Str) == p with | true => some v | false => ([("self", Value.ref x)] : List (Str × Value)).lookup ("self" : Str)) = some (Value.ref x)
      rw [hps]
      rfl
    have mp : ([("self", Value.ref x), (p, v)] : List (Str × Value)).reverse.lookup p = some v := by
      show (match p == p with | true => some v | false => ([("self", Value.ref x)] : List (Str × Value)).lookup p) = some v
      rw [beq_self_eq_true]
    obtain ⟨pl, he⟩ := U.he h0.objs.size fI cda cc
    refine sup_stmt (us := [v]) (pl := pl) S (X'.keeps k1) ((G.keeps k').keeps k1) (k1 _ _ hx') hxL hns hf hcode hvs hcel hfile htop har (by rw [hself]; exact mself) T.hks T.hkc (by rw [hself]; exact T.hse) T.hk he rfl one (fun s1 Q1 E1 u hL q1 => ?_) (U.sw _ _ _ _) (U.inn _ _ _ _) fun h2 t1 tk2 k2 hx2 hL2 => ?_
    · refine Calls.evalArgs_plain (Calls.spliced_cons (ESX.ldL hL mp (Calls.spliced_nil q1) T.hk hkp hpd))
    · have X2 : K.In h2 := in_but X hle (X'.keeps k1) k2
      refine sup_set S X2 hx2 hxL hL2 no mself mp T.hse hkp T.hk hpd (hsw _ _ _) fun h3 dx tk3 k3 dn dne hx3 hn3 hL3 => ?_
      refine wpAt_of_wpAny (wpAny_execs_nil (hq' h3 tk3 dx ⟨fun b o hb e => k3 b o hb (k2 b o hb (k1 b o e)), ⟨t1, hx3⟩, ?_, dne, hn3⟩))
      have z : h0.objs.size < h2.objs.size := hL2.lt
      show h0.objs.size ≤ dx
      exact Nat.le_of_lt (Nat.lt_of_lt_of_le z dn)
/-- an error of two fields -/
theorem made2 {p q f f' : Str} {a1 a2 a3 a4 a4' a5 a6 b1 b2 b3 b4 c1 c2 c3 c4 : Pos} {v v' : Value} (S : SupC K file C fI qual params body scope) (T : SupT qual params scope) (U : SupE qual scope a1 a2 a3 a5 a6 [.Name p a4, .Name q a4'])
    (hbody : body = [.Expr (.Call (.Attribute (.Call (.Name "super" a1) [] [] a2) "__init__" a3) [.Name p a4, .Name q a4'] [] a5) a6, .Assign [.Attribute (.Name "self" b1) f b2] (.Name p b3) b4, .Assign [.Attribute (.Name "self" c1) f' c2] (.Name q c3) c4])
    (hb : ∀ (doc pm : Value) (an : Option Addr) (cda : Addr) (ct : Value) (cc : Addr) (u v v' : Value), bindArgs (ksFn "__init__" qual params body scope .none .none doc pm an (.ref cda) ct cc) ⟨[u, v, v'], []⟩ = pure [(("self" : Str), u), (p, v), (q, v')])
    (hps : (("self" : Str) == p) = false) (hqs : (("self" : Str) == q) = false) (hpq : (p == q) = false) (hkp : scope.names.lookup p = some .local) (hkq : scope.names.lookup q = some .local) (hpd : (p == ("__debug__" : Str)) = false) (hqd : (q == ("__debug__" : Str)) = false)
    (no : findIn K (.ref C) f = some none) (no' : findIn K (.ref C) f' = some none)
    (hsw : ∀ L cda cc, swapsWith (.Name p b3) (some (.Attribute (.Name "self" b1) f b2)) b4.line (ksEnv qual scope L fI (.ref cda) cc) = pure false)
    (hsw' : ∀ L cda cc, swapsWith (.Name q c3) (some (.Attribute (.Name "self" c1) f' c2)) c4.line (ksEnv qual scope L fI (.ref cda) cc) = pure false)
    (hfile : ((prog.main.file : Str) == file) = true) (htop : (prog.main.scope.names.lookup ("super" : Str)).isSome = false)
    (X : K.In s.heap) (G : SupG s.heap mg mb) (hlim : s.heap.NoLimit) (hroom : A.depth + 1 < recursionLimit)
    (hq : ∀ h' tk e d, XMade s.heap h' e C d (fun y => if y = f' then some v' else if y = f then some v else none) → R (.ok (.ret (.ref e))) { s with heap := h', toks := tk }) : codeAny (model prog w) A (.call (.ref C) ⟨[v, v'], []⟩) R s := by
  obtain ⟨oc, od, doc, pm, an, cda, ct, osl, cc, ccl, cdd, vs, ccs, tf, cl, cld, csl, hf, hcd, hcode, hvs, hcel⟩ := S.fn
  obtain ⟨ar, har, hself⟩ := T.hp
  have two : [v, v'].length ≤ sizeLine := by rw [sizeLine_eq]; exact (by decide : 2 ≤ 16777216)
  refine made_of S X hlim two (fun A R s' x t0 _ X' lim' hx' k' hle hq' hroom' => ?_) hroom hq
  obtain ⟨h0, g, d, t, os⟩ := s'
  have bnd := hb doc pm an cda ct cc (.ref x) v v'
  subst hbody
  refine ks_codeAny_call_defAt (fd := ksFn "__init__" qual params _ scope .none .none doc pm an (.ref cda) ct cc) (binds := [("self", .ref x), (p, v), (q, v')]) hroom' (X' _ _ hf) rfl lim' (codeRec_of X' hcd) rfl (BindsTo.of_eq bnd)
    (fun y hy => of_decide_eq_true (List.all_eq_true.mp T.hcell y hy)) (fun y hy => ?_) (fun h1 hns k1 => ?_) T.hco T.hgen T.hk
  · rcases List.mem_cons.mp hy with rfl | hy
    · exact T.hse
    · rcases List.mem_cons.mp hy with rfl | hy
      · exact hkp
      · rw [List.mem_singleton.mp hy]
        exact hkq
  · have hxL : h0.objs.size ≠ x := Nat.ne_of_gt (Heap.lt_size hx')
    have mself : ([("self", Value.ref x), (p, v), (q, v')] : List (Str × Value)).reverse.lookup ("self" : Str) = some (Value.ref x) := by
      show (match ("self" : Str) == q with | true => some v' | false => (match ("self" : Str) == p with | true => some v | false => ([("self", Value.ref x)] : List (Str × Value)).lookup ("self" : Str))) = some (Value.ref x)
      rw [hqs, hps]
      rfl
    have mp : ([("self", Value.ref x), (p, v), (q, v')] : List (Str × Value)).reverse.lookup p = some v := by
      show (match p == q with | true => some v' | false => (match p == p with | true => some v | false => ([("self", Value.ref x)] : List (Str × Value)).lookup p)) = some v
      rw [hpq, beq_self_eq_true]
    have mq : ([("self", Value.ref x), (p, v), (q, v')] : List (Str × Value)).reverse.lookup q = some v' := by
      show (match q == q with | true => some v' | false => (match q == p with | true => some v | false => ([("self", Value.ref x)] : List (Str × Value)).lookup q)) = some v'
      rw [beq_self_eq_true]
    obtain ⟨pl, he⟩ := U.he h0.objs.size fI cda cc
    refine sup_stmt (us := [v, v']) (pl := pl) S (X'.keeps k1) ((G.keeps k').keeps k1) (k1 _ _ hx') hxL hns hf hcode hvs hcel hfile htop har (by rw [hself]; exact mself) T.hks T.hkc (by rw [hself]; exact T.hse) T.hk he rfl two (fun s1 Q1 E1 u hL q1 => ?_) (U.sw _ _ _ _) (U.inn _ _ _ _) fun h2 t1 tk2 k2 hx2 hL2 => ?_
    · exact Calls.evalArgs_plain (Calls.spliced_cons (ESX.ldL hL mp (Calls.spliced_cons (ESX.ldL hL mq (Calls.spliced_nil q1) T.hk hkq hqd)) T.hk hkp hpd))
    · have X2 : K.In h2 := in_but X hle (X'.keeps k1) k2
      refine sup_set S X2 hx2 hxL hL2 no mself mp T.hse hkp T.hk hpd (hsw _ _ _) fun h3 dx tk3 k3 dn dne hx3 hn3 hL3 => ?_
      have X3 : K.In h3 := in_but X hle X2 k3
      have z : h0.objs.size < h2.objs.size := hL2.lt
      have hdL : h0.objs.size ≠ dx := Nat.ne_of_lt (Nat.lt_of_lt_of_le z dn)
      refine sup_set2 (nl := [f]) S X3 hx3 hn3 (fun y hy => ?_) (by simp) hdL hL3 no' mself mq T.hse hkq T.hk hqd (hsw' _ _ _) fun h4 tk4 k4 hn4 hL4 => ?_
      · by_cases e : y = f
        · rw [e]; exact List.mem_cons_self
        · exact absurd (if_neg e) hy
      · refine wpAt_of_wpAny (wpAny_execs_nil (hq' h4 tk4 dx ⟨fun b o hb e => ?_, ⟨t1, k4 _ _ dne.symm hx3⟩, ?_, dne, hn4⟩))
        · have e2 := k2 b o hb (k1 b o e)
          refine k4 b o (fun z => ?_) (k3 b o hb e2)
          rw [z] at e2
          exact absurd (Heap.lt_size e2) (Nat.not_lt_of_le dn)
        · show h0.objs.size ≤ dx
          exact Nat.le_of_lt (Nat.lt_of_lt_of_le z dn)
end
end Eng
set_option Elab.async false
set_option linter.all false
set_option maxRecDepth 100000
set_option maxHeartbeats 2000000
/-! Eng 19: raise C(..) -/
namespace Eng
open PySem PySem.Spec PyProof.Rows L2

/-- what the module has ready -/
structure Gnd (h : Heap) (mg : Str → Option Value) : Prop where
  g : h.Ns mainGlobals mg
  b : ∃ mb, h.Ns builtinsNs mb ∧ ∀ x : Str, x ≠ "__name__" → mb x = bootBuiltins x
  nolimit : h.NoLimit
/-- the error class x of the package, called with n values, is made with the fields fs -/
structure XcOk (P : Program) (w : World) (K : PySem.W.Frag) (mg : Str → Option Value) (x : Str) (n : Nat) (fs : List V → List (Str × V)) : Prop where
  made : ∀ (A : Around) (R : Result → Shared → Prop) (s : Shared) (us : List Value), us.length = n → K.In s.heap → Gnd s.heap mg → A.depth + 1 < recursionLimit →
    (∀ h' tk e d mA, XMade s.heap h' e (He.ga K x) d mA → (∀ vs, Vals vs us → ∀ f, RelO ((fs vs).lookup f) (mA f)) → R (.ok (.ret (.ref e))) { s with heap := h', toks := tk }) → codeAny (model P w) A (.call (.ref (He.ga K x)) ⟨us, []⟩) R s
  mg : mg x = some (.ref (He.ga K x))
  kp : PySem.W.keepIn K (.ref (He.ga K x)) = true
  exC : PySem.W.subIn K (.ref (He.ga K x)) (.type "BaseException") = some true
  tyC : PySem.W.typeIn K (.ref (He.ga K x)) = some (.type "type")
section
variable {X : Cx} {W : WW} {C : Calls}
theorem Inv.gnd {pins : List (Addr × Obj)} {σ : L2.St} {H : Hp} {s : Shared} (I : Inv X pins σ H s) : Gnd s.heap X.mg :=
  ⟨I.ok.mod.glob.keeps I.bk, let ⟨mb, h1, h2⟩ := I.ok.mod.blt; ⟨mb, h1.keeps I.bk, h2⟩, I.nolimit⟩
/-- the end of it: the exception is let go, its dict stands -/
theorem mk_made {pins : List (Addr × Obj)} {σ : L2.St} {H1 : Hp} {hp h' : Heap} {g : Array GenState} {dr : Drawn} {tk tk' : Nat} {os : OsState} {Cl e d : Addr} {mA : Str → Option Value} {fs : List (Str × V)} {Q : XK} (I1 : Inv X pins σ H1 ⟨hp, g, dr, tk, os⟩) (M : XMade hp h' e Cl d mA) (rel : ∀ f, RelO (fs.lookup f) (mA f))
    (hr : Raises X (.ref Cl)) (q : H1 d = none → Q (.ref Cl) (some d) (L2.upd H1 d (.xd fs))) : MkP X pins σ Q (.ref e) ⟨h', g, dr, tk', os⟩ := by
  obtain ⟨t1, hoe⟩ := M.obj
  have hns := M.ns
  obtain ⟨G', g1, g2⟩ := restrict h' fun b => decide (b ≠ e)
  have gk : ∀ b, b ≠ e → G'.get? b = h'.get? b := fun b hb => g1 b (decide_eq_true hb)
  have ge : G'.get? e = none := g2 e (by simp)
  have old : ∀ b o, hp.get? b = some o → G'.get? b = some o := fun b o z => (gk b (Nat.ne_of_lt (Nat.lt_of_lt_of_le (Heap.lt_size z) M.new))).trans (M.keep b o z)
  have ob : ObjOk X.prog X.w (L2.upd H1 d (.xd fs)) G' d (.xd fs) := ⟨mA, hns.at (fun o z => (gk d M.dne).trans z), rel⟩
  have J : Inv X pins σ (L2.upd H1 d (.xd fs)) ⟨G', g, dr, tk', os⟩ := I1.laid (t' := tk') old M.dbig ob
  refine ⟨e, _, _, ⟨G', g, dr, tk', os⟩, _, .ref Cl, some d, rfl, J, fun b o z => ?_, ge, hoe, ⟨rfl, rfl⟩, rfl, rfl, ?_, rfl, I1.bare, hr, q (I1.hok.fresh M.dbig)⟩
  · by_cases hb : b = e
    · rw [hb] at z
      rw [ge] at z
      cases z
    · exact (gk b hb).symm.trans z
  · rw [upd_ne (Ne.symm M.dne)]
    exact I1.hok.fresh M.new
def tMkX (c : Addr) (n : Nat) (fs : List V → List (Str × V)) (ta : TA) : L2.St → Hp → XK → Prop := fun σ H Q => ta σ H fun vs H1 => vs.length = n ∧ ∀ d, H1 d = none → Q (.ref c) (some d) (L2.upd H1 d (.xd (fs vs)))
theorem pmk_xc {k n : Nat} {x : Str} {fs : List V → List (Str × V)} {a : Expr} {as : List Expr} {ta : TA} {p pos : Pos} (h : XcOk X.prog X.w X.K X.mg x n fs) (hr : Room k X.A) (hg : Gl X x) (ha : PA X (a :: as) ta) (ok : okA a = true) (oks : okAs as = true) (hd : (x == ("__debug__" : Str)) = false) :
    PMk X (.Call (.Name x p) (a :: as) [] pos) (tMkX (He.ga X.K x) n fs ta) := by
  intro pins s σ H Q I hw
  refine wpAny_Call_Name_kw (ld_glob I hg h.mg ?_ hd)
  refine PySem.W.callWith_K (h₀ := X.base) I.ok.mod.kin h.kp (thn (ha.run pos pins s σ H _ I hw) fun us s1 ⟨vs, H1, I1, r1, hl, q1⟩ => ⟨I1.kIn, ?_⟩) (okA_star ok) (okAs_plain oks)
  have gnd := Inv.gnd I1
  obtain ⟨hp, g, dr, tk, os⟩ := s1
  refine wpAny_call (h.made _ _ ⟨hp, g, dr, tk, os⟩ us (by rw [← r1.length]; exact hl) I1.kIn gnd (by have := hr.dp; omega) fun h' tk' e d mA M rel => ?_)
  exact mk_made I1 M (rel vs r1) (raises_own h.exC h.tyC) (q1 d)
/-- an error class without an __init__ of its own, called with nothing -/
structure Xc0 (K : PySem.W.Frag) (mg : Str → Option Value) (x : Str) : Prop where
  ex : PySem.W.excIn K (He.ga K x) He.veBase "ValueError.__new__" = true
  mg : mg x = some (.ref (He.ga K x))
  kp : PySem.W.keepIn K (.ref (He.ga K x)) = true
  exC : PySem.W.subIn K (.ref (He.ga K x)) (.type "BaseException") = some true
  tyC : PySem.W.typeIn K (.ref (He.ga K x)) = some (.type "type")
theorem pmk_xc0 {x : Str} {p pos : Pos} (h : Xc0 X.K X.mg x) (hg : Gl X x) (hd : (x == ("__debug__" : Str)) = false) : PMk X (.Call (.Name x p) [] [] pos) (fun _ H Q => Q (.ref (He.ga X.K x)) none H) := by
  intro pins s σ H Q I hw
  refine wpAny_Call_Name_kw (ld_glob I hg h.mg ?_ hd)
  refine PySem.W.callWith_K0 I.kIn h.kp ?_
  obtain ⟨bm, N, nm, qn, bs, hdct, sn, sub, ab, col, dd, k0, k1, k2, k3, k5, mN, hC, hN, hni, T⟩ := exc_obj I.kIn h.ex
  refine wpAny_call_exc_subT F.excBase_ValueError T hC hN hni (fun h' e hm => ?_) (Nat.zero_le _)
  exact mk_of I hm (raises_own h.exC h.tyC) hw (I.hok.gone hm.new)
theorem reps_rev_zip {K : PySem.W.Frag} {F : Hp} {T : List Addr} {vs : List V} {ds : List D} (r : Reps K F T vs ds) {ks : List Str} (hl : ks.length = vs.length) : ((ks.zip vs.reverse).map (·.1) = ks) ∧ Reps K F T ((ks.zip vs.reverse).map (·.2)) ds.reverse := by
  have l2 : ks.length = vs.reverse.length := by rw [List.length_reverse]; exact hl
  constructor
  · exact List.map_fst_zip (Nat.le_of_eq l2)
  · rw [List.map_snd_zip (Nat.le_of_eq l2.symm)]
    exact r.reverse
theorem ss_rais {k : Nat} {x : Str} {ks : List Str} {a : Expr} {as : List Expr} {es : Es} {p pos pos2 : Pos} (hc : X.calm = true) (tk : Takes X W) (h : XcOk X.prog X.w X.K X.mg x ks.length (fun vs => ks.zip vs.reverse)) (hr : Room k X.A) (hg : Gl X x) (ha : PA X (a :: as) (tEs X.K W C es)) (ok : okA a = true) (oks : okAs as = true) (hd : (x == ("__debug__" : Str)) = false) :
    PS X (.Raise (some (.Call (.Name x p) (a :: as) [] pos)) none pos2) (tSt X.K W C (.rais x ks es)) :=
  impS (ps_raise hc tk (pmk_xc h hr hg ha ok oks hd)) fun D σ H ⟨F, T, st, env, xx, w, eo, p⟩ => by
    have p : PostS X.K W F T env ((evEs C env es st).bnd fun ds st => chkO (decide (ks.length = ds.length)) (.ex x ks ds.reverse st)) D := p
    refine ⟨F, T, st, env, w, eo, (p.step (R1 := rVs X.K) xx fun _ => eo).mono fun vs H1 ⟨F1, T1, st1, ds, x1, w1, r1, p1⟩ => ?_⟩
    have r1 : Reps X.K F1 T1 vs ds := r1
    cases c : decide (ks.length = ds.length) with
    | false => rw [c] at p1; exact p1.elim
    | true =>
      rw [c] at p1
      have hl : ks.length = vs.length := by rw [r1.length]; exact of_decide_eq_true c
      refine ⟨hl.symm, fun d hd => ?_⟩
      have p1 : PostS X.K W F1 T1 env (.ex x ks ds.reverse st1) D := p1
      obtain ⟨e1, e2⟩ := reps_rev_zip r1 hl
      have x2 : Ext F1 T1 H1 F1 T1 (L2.upd H1 d (.xd (ks.zip vs.reverse))) := Ext.newO hd
      exact p1 (some d) F1 T1 _ σ (.refl _) (.refl _) ((xx.trans x1).trans x2) (w1.newO hd) (.inr ⟨d, _, rfl, upd_same, (w1.free hd).2, e1, e2⟩) fun _ => (eo.ext x1).ext x2
theorem ss_rais0 {x : Str} {p pos pos2 : Pos} (hc : X.calm = true) (tk : Takes X W) (h : Xc0 X.K X.mg x) (hg : Gl X x) (hd : (x == ("__debug__" : Str)) = false) :
    PS X (.Raise (some (.Call (.Name x p) [] [] pos)) none pos2) (tSt X.K W C (.rais x [] .nil)) :=
  impS (ps_raise hc tk (pmk_xc0 h hg hd)) fun D σ H ⟨F, T, st, env, xx, w, eo, p⟩ => by
    have p : PostS X.K W F T env (.ex x [] [] st) D := p
    exact p none F T H σ (.refl _) (.refl _) xx w (.inl ⟨rfl, rfl, rfl⟩) fun _ => eo
end
end Eng
set_option Elab.async false
set_option linter.all false
set_option maxRecDepth 100000
set_option maxHeartbeats 2000000
/-! Eng 20: try, the exception that a clause holds -/
namespace Eng
open PySem PySem.Spec PyProof.Rows L2
section
variable {X : Cx} {W : WW} {C : Calls}
/-- within a try's body -/
def trW (W : WW) (W1 : WX) : WW := ⟨W1, W.x, W.B, true⟩
/-- within a clause -/
def suW (W : WW) (a : Addr) (cls : Value) (d : Option Addr) : WW := ⟨W.W, some ⟨a, cls, d⟩, W.B, false⟩
theorem env_hold {K : PySem.W.Frag} {W : WW} (hx : W.x = none) {a : Addr} {c : Str} {cls : Value} {dx : Option Addr} (ec : cls = .ref (He.ga K c)) {F H : Hp} {T : List Addr} {env : Env} {σ : L2.St} {i : Nat} {ks : List Str} {ds : List D} (eo : EnvOk K W.xi F T H env σ) (r : XRep K F T H ks ds dx) :
    EnvOk K (suW W a cls dx).xi F T H (env.set i (.xc c ks ds)) (σ.set i (some (.ref a))) := by
  refine ⟨fun j s hs => ?_, by rw [List.length_set, List.length_set]; exact eo.len, fun j l d1 d2 p ne h1 h2 h3 h4 => ?_⟩
  · rw [List.getElem?_set] at hs
    split at hs <;> rename_i q
    · subst q
      split at hs <;> rename_i l
      · cases hs
        exact ⟨⟨a, cls, dx⟩, rfl, List.getElem?_set_self (Nat.lt_of_lt_of_le l eo.len), ec, r⟩
      · cases hs
    · rw [List.getElem?_set_ne q]
      have z := eo.at_ j s hs
      cases s with
      | no => trivial
      | val d => exact z
      | own d => exact z
      | xc c ks ds =>
        obtain ⟨y, h1, _⟩ := z
        have h1 : W.x = some y := h1
        rw [hx] at h1
        cases h1
  · have own_of : ∀ {k : Nat} {d3 : D}, (env.set i (.xc c ks ds))[k]? = some (.own d3) → env[k]? = some (.own d3) ∧ i ≠ k := fun {k d3} h => by
      rw [List.getElem?_set] at h
      split at h <;> rename_i q
      · split at h <;> cases h
      · exact ⟨h, q⟩
    obtain ⟨e1, n1⟩ := own_of h1
    obtain ⟨e2, n2⟩ := own_of h2
    rw [List.getElem?_set_ne n1] at h3
    rw [List.getElem?_set_ne n2] at h4
    exact eo.apart j l d1 d2 p ne e1 e2 h3 h4
theorem dropX_get : ∀ {env : Env} {j : Nat} {s : Sl}, (dropX env)[j]? = some s → s = .no ∨ (env[j]? = some s ∧ ∀ c ks ds, s ≠ .xc c ks ds)
  | [], j, s, h => by cases h
  | t :: r, 0, s, h => by
    cases t with
    | xc c ks ds => cases h; exact .inl rfl
    | no => cases h; exact .inl rfl
    | val d => cases h; exact .inr ⟨rfl, fun _ _ _ z => nomatch z⟩
    | own d => cases h; exact .inr ⟨rfl, fun _ _ _ z => nomatch z⟩
  | t :: r, j + 1, s, h => by
    have h : (dropX r)[j]? = some s := by
      cases t <;> exact h
    rcases dropX_get h with e | ⟨e, n⟩
    · exact .inl e
    · exact .inr ⟨e, n⟩
theorem dropX_len : ∀ env : Env, (dropX env).length = env.length
  | [] => rfl
  | t :: r => by
    have := dropX_len r
    cases t <;> (show (dropX r).length + 1 = r.length + 1; rw [this])
theorem env_let {K : PySem.W.Frag} {W : WW} {a : Addr} {cls : Value} {dx : Option Addr} {F H : Hp} {T : List Addr} {env : Env} {σ : L2.St} {i : Nat} (eo : EnvOk K (suW W a cls dx).xi F T H env σ) : EnvOk K W.xi F T H ((dropX env).set i .no) (σ.set i none) := by
  refine ⟨fun j s hs => ?_, by rw [List.length_set, List.length_set, dropX_len]; exact eo.len, fun j l d1 d2 p ne h1 h2 h3 h4 => ?_⟩
  · rw [List.getElem?_set] at hs
    split at hs <;> rename_i q
    · split at hs
      · cases hs; trivial
      · cases hs
    · rw [List.getElem?_set_ne q]
      rcases dropX_get hs with e | ⟨e, n⟩
      · subst e; trivial
      · have z := eo.at_ j s e
        cases s with
        | no => trivial
        | val d => exact z
        | own d => exact z
        | xc c ks ds => exact absurd rfl (n c ks ds)
  · have own_of : ∀ {k : Nat} {d3 : D}, ((dropX env).set i .no)[k]? = some (.own d3) → env[k]? = some (.own d3) ∧ i ≠ k := fun {k d3} h => by
      rw [List.getElem?_set] at h
      split at h <;> rename_i q
      · split at h <;> cases h
      · rcases dropX_get h with e | ⟨e, _⟩
        · cases e
        · exact ⟨e, q⟩
    obtain ⟨e1, n1⟩ := own_of h1
    obtain ⟨e2, n2⟩ := own_of h2
    rw [List.getElem?_set_ne n1] at h3
    rw [List.getElem?_set_ne n2] at h4
    exact eo.apart j l d1 d2 p ne e1 e2 h3 h4

/-! ### e.f, isinstance(e, T) in a clause -/
theorem s_xf {a : Addr} {oe : Obj} {cls : Value} {d : Option Addr} {pn : List (Addr × Obj)} {W' : WX} {B : Bs} {sv : Bool} {i : Nat} {n f : Str} {al : List Str} {p1 pos : Pos} (hz : Zc cls d oe) (hf : ∃ vs, oe.data = .fields vs) (hN : X.N[i]? = some n) (hv : Vis X.env.scope n) (hd : (n == ("__debug__" : Str)) = false) (hcd : (n == ("__classdict__" : Str)) = false)
    (hx : ∀ c ∈ al, XfC X.K (He.ga X.K c) ∧ PySem.W.findIn X.K (.ref (He.ga X.K c)) f = some none) (hb : attributeBase (.Name n p1) f X.env (eval (.Name n p1) X.env) = eval (.Name n p1) X.env) :
    PE (X.suite a ((a, oe) :: pn)) (.Attribute (.Name n p1) f pos) (tE X.K ⟨W', some ⟨a, cls, d⟩, B, sv⟩ C (.xf i al f)) := by
  by_cases hc : ∃ c ∈ al, cls = .ref (He.ga X.K c)
  · obtain ⟨c0, m0, e0⟩ := hc
    have hN' : (X.suite a ((a, oe) :: pn)).N[i]? = some n := hN
    have hv' : Vis (X.suite a ((a, oe) :: pn)).env.scope n := hv
    refine impE (pe_xf (C := He.ga X.K c0) (hx c0 m0).1 (hx c0 m0).2 hz hf (pe_var hN' hv' hd hcd) hb) fun σ H Q ⟨F, T, st, env, w, eo, p⟩ => ?_
    have p : Post X.K ⟨W', some ⟨a, cls, d⟩, B, sv⟩ σ F T H (rV X.K) (match env[i]? with | some (.xc c ks ds) => chkO (decide (c ∈ al)) (ofO (fldD f ks ds) st) | _ => .bad) Q := p
    cases e : env[i]? with
    | none => rw [e] at p; exact p.elim
    | some s =>
      rw [e] at p
      cases s with
      | xc c ks ds =>
        have p : Post X.K ⟨W', some ⟨a, cls, d⟩, B, sv⟩ σ F T H (rV X.K) (chkO (decide (c ∈ al)) (ofO (fldD f ks ds) st)) Q := p
        obtain ⟨_, p2⟩ := chk_ok (a := D.non) (st := st) p
        obtain ⟨y, h1, h2, h3, h4⟩ := eo.at_ i _ e
        cases h1
        cases q : fldD f ks ds with
        | none => rw [q] at p2; exact p2.elim
        | some z =>
          rw [q] at p2
          rcases h4 with ⟨rfl, rfl, _⟩ | ⟨dd, fs, g1, g2, g3, g4, g5⟩
          · cases q
          · subst g4
            obtain ⟨v, l, rv⟩ := lookup_fld g5 q
            exact ⟨.ref a, h2, rfl, e0, dd, fs, v, g1, g2, l, p2 v F T H (.refl _ _ _) w rv⟩
      | _ => exact p.elim
  · refine ⟨fun pins s σ H Q I ⟨F, T, st, env, w, eo, p⟩ => ?_⟩
    have p : Post X.K ⟨W', some ⟨a, cls, d⟩, B, sv⟩ σ F T H (rV X.K) (match env[i]? with | some (.xc c ks ds) => chkO (decide (c ∈ al)) (ofO (fldD f ks ds) st) | _ => .bad) Q := p
    cases e : env[i]? with
    | none => rw [e] at p; exact p.elim
    | some s =>
      rw [e] at p
      cases s with
      | xc c ks ds =>
        have p : Post X.K ⟨W', some ⟨a, cls, d⟩, B, sv⟩ σ F T H (rV X.K) (chkO (decide (c ∈ al)) (ofO (fldD f ks ds) st)) Q := p
        obtain ⟨m, p⟩ := chk_ok (a := D.non) (st := st) p
        obtain ⟨y, h1, h2, h3, h4⟩ := eo.at_ i _ e
        cases h1
        exact absurd ⟨c, of_decide_eq_true m, h3⟩ hc
      | _ => exact p.elim
/-- what isinstance asks of an error class -/
structure XisC (K : PySem.W.Frag) (D : Addr) : Prop where
  cl : (PySem.W.clsIn K D).isSome = true
  ga : PySem.W.findIn K (.ref D) "__getattribute__" = some (some (.builtin "BaseException.__getattribute__"))
  gt : PySem.W.findIn K (.ref D) "__getattr__" = some none
  sub : PySem.W.subIn K (.ref D) (.type "BaseException") = some true
  ha : PySem.W.findIn K (.ref D) "__class__" = some (some (.builtin "object.__class__"))
  hn : PySem.W.specialIn K (.builtin "object.__class__") "__get__" = some (some (.builtin "getset_descriptor.__get__"))
  ht : PySem.W.takesIn K (.builtin "object.__class__") = some true
  hm : PySem.W.mroIn K D (.type "object") = some true
/-- isinstance(e, c), e the exception that the suite holds, its dict some or none -/
def rIsX (K : PySem.W.Frag) (D a : Addr) (d : Option Addr) : List V → Hp → VK → Prop := fun xs H Q => ∃ (c : V) (cv : Value) (b : Bool), xs = [.ref a, c] ∧ ClsV c cv ∧ PySem.W.kitOne K (.ref D) cv = some b ∧ (d = none ∨ ∃ dd fs, d = some dd ∧ H dd = some (.xd fs)) ∧ Q (.bl b) H
theorem call_isX {a D : Addr} {oe : Obj} {d : Option Addr} {pn : List (Addr × Obj)} (T : XisC X.K D) (hz : Zc (.ref D) d oe) (hf : ∃ vs, oe.data = .fields vs) : CallR (X.suite a ((a, oe) :: pn)) (.builtin "isinstance") (rIsX X.K D a d) := by
  intro pins s σ H xs us Q I r h
  obtain ⟨c, cv, b, rfl, hcv, e, hd, q⟩ := h
  obtain ⟨u1, u2, rfl, r1, r2⟩ := vals2 r
  obtain rfl : u1 = Value.ref a := r1
  have ec := hcv.eq r2
  subst ec
  obtain ⟨hget, _⟩ := I.pin (a, oe) (List.mem_append.mpr (.inl List.mem_cons_self))
  obtain ⟨vs, hv⟩ := hf
  have hno : PySem.W.notCls oe = true := by unfold PySem.W.notCls; rw [hv] <;> rfl
  obtain ⟨od, J⟩ : ∃ od, PySem.W.InstAt s.heap a oe D od := by
    rcases hd with hd | ⟨dd, fs, hd, hdd⟩
    · exact ⟨none, hget, hz.1, hno, by rw [hz.2, hd]; trivial⟩
    · have hx : ObjOk X.prog X.w H s.heap dd (.xd fs) := I.hok dd _ hdd
      obtain ⟨mA, ⟨o, es, ep, ho, _⟩, _⟩ := hx
      exact ⟨some o, hget, hz.1, hno, by rw [hz.2, hd]; exact ho⟩
  exact PySem.W.kia_one (PySem.W.kitx_exc T.cl T.ga T.gt T.sub T.ha T.hn T.ht T.hm) I.kIn J e (fun z => nomatch z) fun tk => ⟨.bl b, H, I.kept (t' := tk) fun _ _ z => z, rfl, q⟩
theorem s_xis {a : Addr} {oe : Obj} {cls : Value} {d : Option Addr} {pn : List (Addr × Obj)} {W' : WX} {B : Bs} {sv : Bool} {i : Nat} {n : Str} {al cs : List Str} {b : Expr} {cv : V} {cu : Value} {p p1 pos : Pos} (hz : Zc cls d oe) (hf : ∃ vs, oe.data = .fields vs) (hg : Gl X "isinstance") (hm : X.mg "isinstance" = none) (hN : X.N[i]? = some n) (hv : Vis X.env.scope n) (hd : (n == ("__debug__" : Str)) = false) (hcd : (n == ("__classdict__" : Str)) = false)
    (hb : PE (X.suite a ((a, oe) :: pn)) b (tC cv)) (ok2 : okA b = true) (hcv : ClsV cv cu) (hx : ∀ c ∈ al, XisC X.K (He.ga X.K c) ∧ PySem.W.kitOne X.K (.ref (He.ga X.K c)) cu = some (decide (c ∈ cs))) :
    PE (X.suite a ((a, oe) :: pn)) (.Call (.Name "isinstance" p) [.Name n p1, b] [] pos) (tE X.K ⟨W', some ⟨a, cls, d⟩, B, sv⟩ C (.xis i al cs)) := by
  by_cases hc : ∃ c ∈ al, cls = .ref (He.ga X.K c)
  · obtain ⟨c0, m0, e0⟩ := hc
    subst e0
    have hN' : (X.suite a ((a, oe) :: pn)).N[i]? = some n := hN
    have hv' : Vis (X.suite a ((a, oe) :: pn)).env.scope n := hv
    have hg' : Gl (X.suite a ((a, oe) :: pn)) "isinstance" := hg
    have hm' : (X.suite a ((a, oe) :: pn)).mg "isinstance" = none := hm
    refine impE (pe_callB (call_isX (hx c0 m0).1 hz hf) hg' hm' boot_isi (pa_cons (pe_var hN' hv' hd hcd) (pa_cons hb pa_nil (okA_star ok2)) rfl) (by decide) (by decide) rfl (by rw [okA_star ok2]; rfl)) fun σ H Q ⟨F, T, st, env, w, eo, p⟩ => ?_
    have p : Post X.K ⟨W', some ⟨a, .ref (He.ga X.K c0), d⟩, B, sv⟩ σ F T H (rV X.K) (match env[i]? with | some (.xc c _ _) => chkO (decide (c ∈ al)) (.ok (.bl (decide (c ∈ cs))) st) | _ => .bad) Q := p
    cases e : env[i]? with
    | none => rw [e] at p; exact p.elim
    | some s =>
      rw [e] at p
      cases s with
      | xc c ks ds =>
        have p : Post X.K ⟨W', some ⟨a, .ref (He.ga X.K c0), d⟩, B, sv⟩ σ F T H (rV X.K) (chkO (decide (c ∈ al)) (.ok (.bl (decide (c ∈ cs))) st)) Q := p
        obtain ⟨m, p⟩ := chk_ok (a := D.non) (st := st) p
        obtain ⟨y, h1, h2, h3, h4⟩ := eo.at_ i _ e
        cases h1
        have h3 : Value.ref (He.ga X.K c0) = .ref (He.ga X.K c) := h3
        refine ⟨.ref a, h2, cv, cu, _, rfl, hcv, (by rw [h3]; exact (hx c (of_decide_eq_true m)).2), ?_, p _ F T H (.refl _ _ _) w (.bl _)⟩
        rcases h4 with ⟨_, _, e⟩ | ⟨dd, fs, g1, g2, _⟩
        · exact .inl e
        · exact .inr ⟨dd, fs, g1, g2⟩
      | _ => exact p.elim
  · refine ⟨fun pins s σ H Q I ⟨F, T, st, env, w, eo, p⟩ => ?_⟩
    have p : Post X.K ⟨W', some ⟨a, cls, d⟩, B, sv⟩ σ F T H (rV X.K) (match env[i]? with | some (.xc c _ _) => chkO (decide (c ∈ al)) (.ok (.bl (decide (c ∈ cs))) st) | _ => .bad) Q := p
    cases e : env[i]? with
    | none => rw [e] at p; exact p.elim
    | some s =>
      rw [e] at p
      cases s with
      | xc c ks ds =>
        have p : Post X.K ⟨W', some ⟨a, cls, d⟩, B, sv⟩ σ F T H (rV X.K) (chkO (decide (c ∈ al)) (.ok (.bl (decide (c ∈ cs))) st)) Q := p
        obtain ⟨m, p⟩ := chk_ok (a := D.non) (st := st) p
        obtain ⟨y, h1, h2, h3, h4⟩ := eo.at_ i _ e
        cases h1
        exact absurd ⟨c, of_decide_eq_true m, h3⟩ hc
      | _ => exact p.elim
end
end Eng
set_option Elab.async false
set_option linter.all false
set_option maxRecDepth 100000
set_option maxHeartbeats 2000000
/-! Eng 21: try .. except C as e; methods, instances; a def's promise -/
namespace Eng
open PySem PySem.Spec PyProof.Rows L2
section
variable {X : Cx} {W : WW} {C : Calls}
theorem ss_try1 {body suite : List Stmt} {b₀ : Stmt} {x n : Str} {cv : Value} {np pos' pos : Pos} {i : Nat} {ib is : Ss} {al cs : List Str} (hx : W.x = none) (hz : W.sv = false) (hs : X.stack = X.env :: X.outer) (hf : X.env.frame = some X.env.locals) (hN : X.N.Nodup) (hi : X.N[i]? = some n) (hln : X.env.kindOf n = some .local) (hc : Names X x cv) (tk : Takes X W)
    (hex : ∀ c ∈ al, PySem.W.exmOne X.K (.ref (He.ga X.K c)) cv = some (decide (c ∈ cs)))
    (hb : ∀ (W1 : WX) (pn : List (Addr × Obj)) (xe : Value → Shared → Prop), Takes (X.tr pn xe) W1 → PassesOwn (model X.prog X.w) X.A X.env xe → PSs (X.tr pn xe) body (tSs X.K (trW W W1) C ib))
    (hsu : ∀ (a : Addr) (oe : Obj) (cls : Value) (d : Option Addr) (pn : List (Addr × Obj)), Zc cls d oe → (∃ vs, oe.data = .fields vs) → PSs (X.suite a ((a, oe) :: pn)) (b₀ :: suite) (tSs X.K (suW W a cls d) C is)) :
    PS X (.Try body [.ExceptHandler (some (.Name x np)) (some n) (b₀ :: suite) pos'] [] [] pos) (tSt X.K W C (.try_ [] ib (.cons al cs (some i) is .nil))) := by
  refine impS (ps_try_as (tb := fun W1 => tSs X.K (trW W W1) C ib) (ts := fun a cls d => tSs X.K (suW W a cls d) C is) hs hf hN hi hln hc tk hb hsu) fun D σ H ⟨F, T, st, env, xx, w, eo, p⟩ => ?_
  have p : PostS X.K W F T env (match evSs C ib env st with
    | .ex c ks ds st1 => evHs C (.cons al cs (some i) is .nil) c ks ds (wipeE env []) st1
    | o => o) D := p
  refine ⟨F, T, st, env, xx, w, eo, ?_⟩
  revert p
  cases evSs C ib env st with
  | bad => exact id
  | ok f st1 => exact id
  | ex c ks ds st1 =>
    intro p dx F' T' H' σ' sm pr x' w' r he
    have p : PostS X.K W F T env (chkO (decide (c ∈ al)) (match decide (c ∈ cs) with
      | false => .ex c ks ds st1
      | true => (evSs C is (env.set i (.xc c ks ds)) st1).bnd fun f st => (match f with
        | .nx env' => .ok (.nx ((dropX env').set i .no)) st
        | .rt d => .ok (.rt d) st
        | .bk env' => .ok (.bk ((dropX env').set i .no)) st
        | .ct env' => .ok (.ct ((dropX env').set i .no)) st))) D := p
    cases m : decide (c ∈ al) with
    | false => rw [m] at p; exact p.elim
    | true =>
      rw [m] at p
      have p : PostS X.K W F T env (match decide (c ∈ cs) with
        | false => .ex c ks ds st1
        | true => (evSs C is (env.set i (.xc c ks ds)) st1).bnd fun f st => (match f with
          | .nx env' => .ok (.nx ((dropX env').set i .no)) st
          | .rt d => .ok (.rt d) st
          | .bk env' => .ok (.bk ((dropX env').set i .no)) st
          | .ct env' => .ok (.ct ((dropX env').set i .no)) st)) D := p
      refine ⟨decide (c ∈ cs), hex c (of_decide_eq_true m), fun hb a ha => ?_, fun hb => ?_⟩
      · rw [hb] at p
        have eo' : EnvOk X.K W.xi F' T' H' env σ' := he rfl
        refine ⟨F', T', st1, _, x', w', env_hold hx rfl eo' r, ?_⟩
        have p : PostS X.K W F T env ((evSs C is (env.set i (.xc c ks ds)) st1).bnd fun f st => (match f with
          | .nx env' => .ok (.nx ((dropX env').set i .no)) st
          | .rt d => .ok (.rt d) st
          | .bk env' => .ok (.bk ((dropX env').set i .no)) st
          | .ct env' => .ok (.ct ((dropX env').set i .no)) st)) D := p
        have p := p.shift sm pr
        revert p
        cases evSs C is (env.set i (.xc c ks ds)) st1 with
        | bad => exact id
        | ex c2 ks2 ds2 st2 => exact fun p dx F' T' H' σ' a b x w r _ => p dx F' T' H' σ' a b x w r fun h => by rw [hz] at h; cases h
        | ok f st2 =>
          intro p F2 T2 H2 σ2 a2 b2 x2 w2
          cases f with
          | nx env' => exact fun eo2 => p F2 T2 H2 (σ2.set i none) a2 b2 x2 w2 (env_let eo2)
          | rt d => exact p F2 T2 H2 σ2 a2 b2 x2 w2
          | bk env' => exact fun eo2 => p F2 T2 H2 (σ2.set i none) a2 b2 x2 w2 (env_let eo2)
          | ct env' => exact fun eo2 => p F2 T2 H2 (σ2.set i none) a2 b2 x2 w2 (env_let eo2)
      · rw [hb] at p
        exact p dx F' T' H' σ' sm pr x' w' r fun h => by rw [hz] at h; cases h

/-! ### a def's promise -/
theorem start_ok {K : PySem.W.Frag} {xi : XB} {F H : Hp} {T : List Addr} {N : List Str} {vs : List V} {ds : List D} {k : Nat} (r : Reps K F T vs ds) (hk : ds.length + k = N.length) : EnvOk K xi F T H (ds.map .val ++ List.replicate k .no) (L2.start N vs) := by
  have hl : (L2.start N vs).length = N.length := by
    unfold L2.start
    rw [List.length_append, List.length_map, List.length_replicate, r.length]
    omega
  have at_ : ∀ (i : Nat) (s : Sl), (ds.map Sl.val ++ List.replicate k Sl.no)[i]? = some s → s = .no ∨ ∃ d v, s = .val d ∧ (L2.start N vs)[i]? = some (some v) ∧ Rep K F T v d := fun i s h => by
    by_cases c : i < ds.length
    · rw [List.getElem?_append_left (by rw [List.length_map]; exact c), List.getElem?_map] at h
      obtain ⟨d, hd, rfl⟩ := Option.map_eq_some_iff.mp h
      obtain ⟨v, hv, rv⟩ := r.get hd
      refine .inr ⟨d, v, rfl, ?_, rv⟩
      unfold L2.start
      rw [List.getElem?_append_left (by rw [List.length_map, r.length]; exact c), List.getElem?_map, hv]
      rfl
    · rw [List.getElem?_append_right (by rw [List.length_map]; omega)] at h
      exact .inl (List.eq_of_mem_replicate (List.mem_of_getElem? h))
  refine ⟨fun i s h => ?_, by rw [hl, List.length_append, List.length_map, List.length_replicate]; omega, fun i j d d' a ne h1 h2 h3 h4 => ?_⟩
  · rcases at_ i s h with rfl | ⟨d, v, rfl, e, rv⟩
    · trivial
    · exact ⟨v, e, rv⟩
  · rcases at_ i _ h1 with e | ⟨d, v, e, _⟩ <;> cases e
theorem fn_ok {P : Program} {w : World} {K : PySem.W.Frag} {mg : Str → Option Value} {base : Heap} {x qual : Str} {params : Arguments} {body : List Stmt} {scope : Scope} {dvs : List V} {kws : List (Str × V)} {f : Addr} {fd : FuncData} {N ps : List Str} {k n m : Nat} {tab : List FnI} {fi : FnI}
    (F : FunD K x qual params body scope dvs kws f fd) (S : FnScope N ps scope) (hi : tab[m]? = some fi) (h1 : fi.ini = none) (h2 : fi.ps = ps.length) (h3 : fi.ns = N.length) (h4 : ps.length ≤ N.length)
    (hb : ∀ (cdv : Value) (A : Around) (outer : List PySem.Env) (s : Shared) (H : Hp) (E : XK) (W : WW), W.sv = false → W.x = none → Takes (cxOf (L2.CX P w) P w K mg base N qual scope f cdv A outer s H E) W → Room k (A.deeper (envOfC qual scope s.heap.objs.size f cdv)) →
      PSs (cxOf (L2.CX P w) P w K mg base N qual scope f cdv A outer s H E) body (tSs K W (callN tab n) fi.body)) : FnOk P w K mg base (L2.CX P w) (k + 1) f fd ps (spN K (callN tab (n + 1)) m) := by
  have unf : ∀ ds st, callN tab (n + 1) m ds st = runF (callN tab n) fi ds st := fun ds st => by
    show (match tab[m]? with | some fi => runF (callN tab n) fi ds st | none => .bad) = _
    rw [hi]
  have lens : ∀ {K' : PySem.W.Frag} {W : WW} {σ : L2.St} {F0 H : Hp} {T0 : List Addr} {ds : List D} {st : Store} {Q : VK}, Post K' W σ F0 T0 H (rV K') (callN tab (n + 1) m ds st) Q → ds.length = ps.length := fun {K' W σ F0 H T0 ds st Q} p => by
    rw [unf] at p
    unfold runF at p
    cases c : decide (ds.length = fi.ps) with
    | false => rw [c] at p; exact p.elim
    | true => rw [← h2]; exact of_decide_eq_true c
  refine F.ok S (fun vs H Q E ⟨F0, T0, st, ds, w0, rs, p⟩ => by rw [rs.length]; exact lens p) fun cdv A outer s H vs Q E hr ⟨F0, T0, st, ds, w0, rs, p⟩ => ?_
  have hl := lens p
  refine ⟨_, hb cdv A outer s H E ⟨fun c d _ H' => E c d H', none, ⟨F0, T0, H⟩, false⟩ rfl rfl (takes_of rfl rfl rfl rfl) hr, F0, T0, st, ds.map .val ++ List.replicate (fi.ns - fi.ps) .no, .refl _ _ _, w0, start_ok rs (by rw [h2, h3, hl]; omega), ?_⟩
  rw [unf] at p
  unfold runF at p
  rw [show decide (ds.length = fi.ps) = true from decide_eq_true (by rw [h2]; exact hl), h1] at p
  have p : Post K ⟨fun c d _ H => E c d H, none, {}, false⟩ [] F0 T0 H (rV K) (endD (evSs (callN tab n) fi.body (ds.map .val ++ List.replicate (fi.ns - fi.ps) .no) st)) Q := p
  revert p
  cases evSs (callN tab n) fi.body (ds.map .val ++ List.replicate (fi.ns - fi.ps) .no) st with
  | bad => exact id
  | ex c ks ds st => exact fun p dx F' T' H' σ' _ _ x w r _ => p dx F' T' H' x w r
  | ok g st' =>
    intro p F' T' H' σ' _ _ x w
    cases g with
    | nx env' => exact fun _ => p .non F' T' H' x w .non
    | rt d => exact fun v r => p v F' T' H' x w r
    | bk env' => exact p.elim
    | ct env' => exact p.elim
end
end Eng
set_option Elab.async false
set_option linter.all false
set_option maxRecDepth 100000
set_option maxHeartbeats 2000000
/-! Eng 22: short names for a printed proof -/
namespace Eng
open PySem PySem.Spec PyProof.Rows L2
section
variable {X : Cx} {W : WW} {C : Calls}
theorem k_int {i : Int} {j : Nat} {pos : Pos} : PE X (.Constant (.int i) j pos) (tE X.K W C (.c (.int i))) := s_const pe_int rfl fun _ _ => rfl
theorem k_bl {b : Bool} {j : Nat} {pos : Pos} : PE X (.Constant (.bool b) j pos) (tE X.K W C (.c (.bl b))) := s_const pe_bl rfl fun _ _ => rfl
theorem k_non {j : Nat} {pos : Pos} : PE X (.Constant .none j pos) (tE X.K W C (.c .non)) := s_const pe_non rfl fun _ _ => rfl
theorem k_str {x : Str} {j : Nat} {pos : Pos} : PE X (.Constant (.str x) j pos) (tE X.K W C (.c (.str x))) := s_const pe_str rfl fun _ _ => rfl
theorem hu65 {k : Nat} {A : Around} (hr : Room k A) : A.units + 65 < cLine := by have := hr.un; omega
theorem hu64 {k : Nat} {A : Around} (hr : Room k A) : A.units + 64 < cLine := by have := hr.un; omega
theorem takes_no : Takes X (noW W) := fun _ _ ⟨_, _, _, _, _, _, _, _, _, _, _, _, _, _, _, _, w⟩ => w.elim
theorem hu1 {k : Nat} {A : Around} (hr : Room k A) : A.units + 1 < cLine := by have := hr.un; omega
theorem q_bor {a : Expr} {e : E} (h : PE X a (tE X.K W C e)) (n : (match e with | .var _ => false | _ => true) = true) : PE X a (tB X.K W C e) := s_bor h fun i z => by subst z; cases n
theorem q_D {a : Expr} {e : E} (h : PE X a (tDr X.K W C e)) : PE X a (tE X.K W C e) := pe_ofD h
theorem q_truth {a : Expr} {e : E} (h : PE X a (tE X.K W C e)) (ok : okT a = true) (he : ∀ env, evT C env e = tst (evE C env e)) : PT X a (tT X.K W C e) := s_truth h ok he
theorem q_rng1 {tg a : Expr} {ea : E} {p pos : Pos} (hg : Gl X "range") (hm : X.mg "range" = none) (ha : PE X a (tE X.K W C ea)) (ok : okA a = true) : PI X tg (.Call (.Name "range" p) [a] [] pos) (tIF X.K W C (.rng (.cons ea .nil))) :=
  i_rng1 hg hm (s_cons ha s_nil ok) ok fun env st ds st' h => by rw [evEs_len _ h]; rfl
theorem q_rng2 {tg a b : Expr} {ea eb : E} {p pos : Pos} (hg : Gl X "range") (hm : X.mg "range" = none) (ha : PE X a (tE X.K W C ea)) (hb : PE X b (tE X.K W C eb)) (ok : okA a = true) (ok2 : okA b = true) : PI X tg (.Call (.Name "range" p) [a, b] [] pos) (tIF X.K W C (.rng (.cons ea (.cons eb .nil)))) :=
  i_rng2 hg hm (s_cons ha (s_cons hb s_nil ok2) ok) ok ok2 fun env st ds st' h => by rw [evEs_len _ h]; rfl
theorem q_rngB {tg e : Expr} {es : Es} (h : PI X tg e (tIF X.K W C (.rng es))) : PI X tg e (tI X.K W C (.rng es)) := i_ofF h
theorem q_ty {x : Str} {t : String} {pos : Pos} (hg : Gl X x) (hm : X.mg x = none) (hv : bootBuiltins x = some (.type t)) (hn : x ≠ "__name__") (hd : (x == ("__debug__" : Str)) = false) : PE X (.Name x pos) (tC (.ty t)) := pe_bltn hg hm hv rfl hn hd
theorem q_gl {x : Str} {a : Addr} {pos : Pos} (hg : Gl X x) (hm : X.mg x = some (.ref a)) (hd : (x == ("__debug__" : Str)) = false) : PE X (.Name x pos) (tC (.ref a)) := pe_glob hg hm rfl hd
theorem q_and1 {a : Expr} {e : E} {pos : Pos} (h : PE X a (tE X.K W C e)) : PE X (.BoolOp .And [a] pos) (tE X.K W C (.and (.cons e .nil))) := s_one h .and fun _ => rfl
theorem q_or1 {a : Expr} {e : E} {pos : Pos} (h : PE X a (tE X.K W C e)) : PE X (.BoolOp .Or [a] pos) (tE X.K W C (.or (.cons e .nil))) := s_one h .or fun _ => rfl
mutual
def stillS : S → Bool
  | .ex _ => true
  | .ret _ _ => true
  | .rais _ _ _ => true
  | .pass => true
  | .ifs _ a b => stillSs a && stillSs b
  | _ => false
def stillSs : Ss → Bool
  | .nil => true
  | .cons s ss => stillS s && stillSs ss
end
mutual
theorem still_ok : ∀ (s : S), stillS s = true → ∀ (env : Env) (st : Store) (env' : Env) (st' : Store), evS C s env st = .ok (.nx env') st' → env' = env
  | .ex e, _, env, st, env', st', h => by
    have h : ((evE C env e st).bnd fun _ st => (Out.ok (Fl.nx env) st : Out Fl)) = .ok (.nx env') st' := h
    cases q : evE C env e st <;> rw [q] at h <;> cases h
    rfl
  | .ret fz e, _, env, st, env', st', h => by
    have h : ((evE C (freeze env fz) e st).bnd fun d st => (Out.ok (Fl.rt d) st : Out Fl)) = .ok (.nx env') st' := h
    cases q : evE C (freeze env fz) e st <;> rw [q] at h <;> cases h
  | .rais c ks es, _, env, st, env', st', h => by
    have h : ((evEs C env es st).bnd fun ds st => chkO (decide (ks.length = ds.length)) (Out.ex c ks ds.reverse st : Out Fl)) = .ok (.nx env') st' := h
    cases q : evEs C env es st with
    | bad => rw [q] at h; cases h
    | ex c ks ds st => rw [q] at h; cases h
    | ok ds st =>
      rw [q, Out.bnd_ok] at h
      cases z : decide (ks.length = ds.length) <;> rw [z] at h <;> cases h
  | .pass, _, env, st, env', st', h => by
    have h : (Out.ok (Fl.nx env) st : Out Fl) = .ok (.nx env') st' := h
    cases h
    rfl
  | .ifs c a b, hs, env, st, env', st', h => by
    obtain ⟨h1, h2⟩ := He.ba (show (stillSs a && stillSs b) = true from hs)
    have h : ((evT C env c st).bnd fun r st => (match r with | true => evSs C a env st | false => evSs C b env st)) = .ok (.nx env') st' := h
    cases q : evT C env c st with
    | bad => rw [q] at h; cases h
    | ex c ks ds st => rw [q] at h; cases h
    | ok r st =>
      rw [q, Out.bnd_ok] at h
      cases r with
      | true => exact stills_ok a h1 env st env' st' h
      | false => exact stills_ok b h2 env st env' st' h
theorem stills_ok : ∀ (ss : Ss), stillSs ss = true → ∀ (env : Env) (st : Store) (env' : Env) (st' : Store), evSs C ss env st = .ok (.nx env') st' → env' = env
  | .nil, _, env, st, env', st', h => by
    have h : (Out.ok (Fl.nx env) st : Out Fl) = .ok (.nx env') st' := h
    cases h
    rfl
  | .cons s ss, hs, env, st, env', st', h => by
    obtain ⟨h1, h2⟩ := He.ba (show (stillS s && stillSs ss) = true from hs)
    have h : ((evS C s env st).bnd fun f st => (match f with
      | .nx env' => evSs C ss env' st
      | .rt d => (Out.ok (Fl.rt d) st : Out Fl)
      | .bk env => .ok (.bk env) st
      | .ct env => .ok (.ct env) st)) = .ok (.nx env') st' := h
    cases q : evS C s env st with
    | bad => rw [q] at h; cases h
    | ex c ks ds st => rw [q] at h; cases h
    | ok f st1 =>
      rw [q, Out.bnd_ok] at h
      cases f with
      | nx env1 => exact (stills_ok ss h2 env1 st1 env' st' h).trans (still_ok s h1 env st env1 st1 q)
      | rt d => cases h
      | bk e => cases h
      | ct e => cases h
end
end
end Eng
set_option Elab.async false
set_option linter.all false
set_option maxRecDepth 100000
set_option maxHeartbeats 2000000
/-! Eng 23: a law's own Hook; the error classes by a look -/
namespace Eng
open PySem PySem.Spec PyProof.Rows L2
/-- a def with cells, by what it says -/
abbrev FnS : Type := Option (Str × Str × Arguments × FuncBody × Scope × Addr × Addr)
def fnS (K : PySem.W.Frag) (x : Str) : FnS := match K.lookup (He.ma K (He.ga K x) "__init__") with
  | some ⟨_, _, .func fd, _⟩ => some (fd.name, fd.qualname, fd.params, fd.body, fd.scope, fd.globals, fd.builtins)
  | _ => none
/-- an error class with its own __init__ -/
structure XcD where
  cls : Str
  qual : Str
  params : Arguments
  body : List Stmt
  scope : Scope
def XcD.val (d : XcD) : FnS := some ("__init__", d.qual, d.params, .stmts d.body, d.scope, mainGlobals, builtinsNs)
abbrev AlC : Type := Bool × List He.FnW × List FnS
def obsC (ck : PySem.W.Frag → Bool) (fn : List He.DefD) (xc : List XcD) (K : PySem.W.Frag) : AlC := (ck K && fn.all fun d => d.ok K, fn.map fun d => He.fnW K d.at_, xc.map fun d => fnS K d.cls)
def valC (fn : List He.DefD) (xc : List XcD) : AlC := (true, fn.map He.DefD.val, xc.map XcD.val)
def SaysC (ck : PySem.W.Frag → Bool) (fn : List He.DefD) (xc : List XcD) (K : PySem.W.Frag) : Prop := obsC ck fn xc K = valC fn xc
def obsCG (n : Nat) (ck : PySem.W.Frag → Bool) (fn : List He.DefD) (xc : List XcD) (g : Addr → Option Obj) : AlC := obsC ck fn xc (He.frG g (cStatics :: He.asD g n))
def hookC (n : Nat) (ck : PySem.W.Frag → Bool) (fn : List He.DefD) (xc : List XcD) : PySem.W.Hook where
  α := AlC
  obs := fun s => obsCG n ck fn xc s.heap.get?
  val := fun _ => valC fn xc
  says := fun _ h => ∃ K : PySem.W.Frag, K.In h ∧ SaysC ck fn xc K
  of := fun _ _ e => ⟨_, He.frG_in, e⟩
  keeps := fun _ _ _ ⟨K, hK, c⟩ k => ⟨K, PySem.W.Frag.In.keeps hK k, c⟩
theorem obsCG_eq {n : Nat} {ck : PySem.W.Frag → Bool} {fn : List He.DefD} {xc : List XcD} {g : Addr → Option Obj} {s : Shared} (h : ∀ a, g a = s.heap.get? a) : obsCG n ck fn xc g = (hookC n ck fn xc).obs s := by
  have e : g = s.heap.get? := funext h
  rw [e] <;> rfl
section
variable {ck : PySem.W.Frag → Bool} {fn : List He.DefD} {xc : List XcD} {K : PySem.W.Frag}
theorem SaysC.chk (c : SaysC ck fn xc K) : ck K = true := (He.ba (show (ck K && fn.all fun d => d.ok K) = true from congrArg (fun z : AlC => z.1) c)).1
theorem SaysC.def_ (c : SaysC ck fn xc K) (i : Nat) {d : He.DefD} (h : fn[i]? = some d) : ∃ fd, FunD K d.name d.qual d.params d.body d.scope (d.dvs K) (d.kws K) (He.fAd K d.at_) fd := by
  have c2 := (He.ba (show (ck K && fn.all fun d => d.ok K) = true from congrArg (fun z : AlC => z.1) c)).2
  have e : fn.map (fun d => He.fnW K d.at_) = fn.map He.DefD.val := congrArg (fun z : AlC => z.2.1) c
  have e2 : (fn.map fun d => He.fnW K d.at_)[i]? = (fn.map He.DefD.val)[i]? := by rw [e]
  rw [List.getElem?_map, List.getElem?_map, h] at e2
  exact He.DefD.funD (Option.some.inj e2) (List.all_eq_true.mp c2 d (List.mem_of_getElem? h))
theorem SaysC.xc_ (c : SaysC ck fn xc K) (i : Nat) {d : XcD} (h : xc[i]? = some d) : fnS K d.cls = d.val := by
  have e : xc.map (fun d => fnS K d.cls) = xc.map XcD.val := congrArg (fun z : AlC => z.2.2) c
  have e2 : (xc.map fun d => fnS K d.cls)[i]? = (xc.map XcD.val)[i]? := by rw [e]
  rw [List.getElem?_map, List.getElem?_map, h] at e2
  exact Option.some.inj e2
end
/-- the class's look -/
def supB1 (K : PySem.W.Frag) (C : Addr) : Bool := match K.lookup C with
  | some ⟨.type "type", _, .cls cd, sl⟩ => (match cd.mro, sl.toList with
    | .ref C' :: bm, [_, _, _, _, some (.builtin n), _] => decide (C' = C) && (n == "ValueError.__new__" && (cd.hasDict && (!cd.hasDel && (HandSPX.refsVE bm && decide (PySem.W.alongIn K "__init__" bm = some (some (.builtin "ValueError.__init__")))))))
    | _, _ => false)
  | _ => false
theorem supB1_ok {K : PySem.W.Frag} {C : Addr} (h : supB1 K C = true) : ∃ nm q N bs bm sn sub ab col dd k0 k1 k2 k3 k5, K.lookup C = some (excClassObj nm q C N bs bm true sn sub ab col dd k0 k1 k2 k3 k5 "ValueError.__new__") ∧ HandSPX.refsVE bm = true ∧ PySem.W.alongIn K "__init__" bm = some (some (.builtin "ValueError.__init__")) := by
  unfold supB1 at h
  split at h
  · rename_i dd cd sl ho
    split at h
    · rename_i C' bm k0 k1 k2 k3 n k5 hm hs
      obtain ⟨h1, h⟩ := He.ba h
      obtain ⟨h2, h⟩ := He.ba h
      obtain ⟨h3, h⟩ := He.ba h
      obtain ⟨h4, h⟩ := He.ba h
      obtain ⟨h5, h6⟩ := He.ba h
      have e1 : C' = C := of_decide_eq_true h1
      have e2 : n = "ValueError.__new__" := beq_iff_eq.mp h2
      subst e1 e2
      obtain ⟨nm, bs, mro, ns, qn, hd, sn, sub, ab, col, del⟩ := cd
      dsimp only at hm h3 h4
      have h4 : del = false := by simpa using h4
      subst hm h3 h4
      have hsl : sl = #[k0, k1, k2, k3, some (.builtin "ValueError.__new__"), k5] := by
        obtain ⟨l⟩ := sl
        simp only at hs
        rw [hs]
      subst hsl
      exact ⟨nm, qn, ns, bs, bm, sn, sub, ab, col, dd, k0, k1, k2, k3, k5, ho, h5, of_decide_eq_true h6⟩
    · cases h
  · cases h
/-- the def's cell, its code -/
def supB2 (K : PySem.W.Frag) (file qual : Str) (C fI : Addr) : Bool := match K.lookup fI with
  | some ⟨_, _, .func fd, _⟩ => (match fd.code, fd.closure, fd.defaults, fd.kwdefaults with
    | .ref cda, [(nm, cc)], .none, .none => decide (nm = ("__class__" : Str)) && (PySem.W.codeIn K (.ref cda) qual && ((match K.lookup cda with
        | some ⟨_, _, .fields vs, _⟩ => (match vs[2]? with
          | some (Value.str f _) => decide (f = file)
          | _ => false)
        | _ => false) && (match K.lookup cc with
        | some ⟨_, _, .cell (some (.ref D)), _⟩ => decide (D = C)
        | _ => false)))
    | _, _, _, _ => false)
  | _ => false
theorem supB2_ok {K : PySem.W.Frag} {file : Str} {C : Addr} {d : XcD} (h : supB2 K file d.qual C (He.ma K (He.ga K d.cls) "__init__") = true) (e : fnS K d.cls = d.val) :
    ∃ (oc : Value) (od : Option Addr) (doc pm : Value) (an : Option Addr) (cda : Addr) (ct : Value) (osl : Array (Option Value)) (cc : Addr) (ccl : Value) (cdd : Option Addr) (vs : Array Value) (ccs : Array (Option Value)) (tf : Tok) (cl : Value) (cld : Option Addr) (csl : Array (Option Value)),
    K.lookup (He.ma K (He.ga K d.cls) "__init__") = some ⟨oc, od, .func (PySem.W.ksFn "__init__" d.qual d.params d.body d.scope .none .none doc pm an (.ref cda) ct cc), osl⟩ ∧ PySem.W.codeIn K (.ref cda) d.qual = true ∧ K.lookup cda = some ⟨ccl, cdd, .fields vs, ccs⟩ ∧ vs[2]? = some (.str file tf) ∧
    K.lookup cc = some ⟨cl, cld, .cell (some (.ref C)), csl⟩ := by
  unfold supB2 at h
  unfold fnS at e
  split at h
  · rename_i oc od fd osl ho
    rw [ho] at e
    split at h
    · rename_i cda nm cc h1 h2 h3 h4
      obtain ⟨g1, h⟩ := He.ba h
      obtain ⟨g2, h⟩ := He.ba h
      obtain ⟨g3, g4⟩ := He.ba h
      have en : nm = ("__class__" : Str) := of_decide_eq_true g1
      subst en
      split at g3
      · rename_i ccl cdd vs ccs hc
        split at g3
        · rename_i f tf hv
          have ef : f = file := of_decide_eq_true g3
          subst ef
          split at g4
          · rename_i cl cld D csl hcc
            have eD : D = C := of_decide_eq_true g4
            subst eD
            obtain ⟨n1, n2, n3, n4, n5, n6, n7, n8, n9, n10, n11, n12, n13, n14, n15⟩ := fd
            dsimp only at h1 h2 h3 h4
            subst h1 h2 h3 h4
            have e2 : (some (n1, n2, n3, n4, n5, n6, n15) : FnS) = some (("__init__" : Str), d.qual, d.params, FuncBody.stmts d.body, d.scope, mainGlobals, builtinsNs) := e
            simp only [Option.some.injEq, Prod.mk.injEq] at e2
            obtain ⟨q1, q2, q3, q4, q5, q6, q7⟩ := e2
            subst q1 q2 q3 q4 q5 q6 q7
            exact ⟨oc, od, _, _, _, cda, _, osl, cc, ccl, cdd, vs, ccs, tf, cl, cld, csl, ho, g2, hc, hv, hcc⟩
          · cases g4
        · cases g3
      · cases g3
    · cases h
  · cases h
/-- the rest of the class's look -/
def supB (K : PySem.W.Frag) (file : Str) (x qual : Str) : Bool := supB1 K (He.ga K x) && (supB2 K file qual (He.ga K x) (He.ma K (He.ga K x) "__init__") && (decide (PySem.W.findIn K (.ref (He.ga K x)) "__setattr__" = some (some (.builtin "object.__setattr__"))) && (decide (PySem.W.findIn K (.ref (He.ga K x)) "__init__" = some (some (.ref (He.ma K (He.ga K x) "__init__")))) &&
  (decide (PySem.W.typeIn K (.ref (He.ma K (He.ga K x) "__init__")) = some (.type "function")) && (decide (PySem.W.subIn K (.ref (He.ga K x)) (.type "ValueError") = some true) && (decide (PySem.W.mroIn K (He.ga K x) (.ref (He.ga K x)) = some true) && decide (PySem.W.nsIn K cStatics "thirdparty.any" = some none)))))))
theorem supB_ok {K : PySem.W.Frag} {file : Str} {d : XcD} (h : supB K file d.cls d.qual = true) (e : fnS K d.cls = d.val) : SupC K file (He.ga K d.cls) (He.ma K (He.ga K d.cls) "__init__") d.qual d.params d.body d.scope := by
  obtain ⟨h1, h⟩ := He.ba h
  obtain ⟨h2, h⟩ := He.ba h
  obtain ⟨h3, h⟩ := He.ba h
  obtain ⟨h4, h⟩ := He.ba h
  obtain ⟨h5, h⟩ := He.ba h
  obtain ⟨h6, h⟩ := He.ba h
  obtain ⟨h7, h8⟩ := He.ba h
  exact ⟨supB1_ok h1, of_decide_eq_true h3, of_decide_eq_true h4, of_decide_eq_true h5, of_decide_eq_true h6, of_decide_eq_true h7, of_decide_eq_true h8, supB2_ok h2 e⟩
/-- what a raise asks of the class -/
def raiB (K : PySem.W.Frag) (x : Str) : Bool := (He.Fa.glo x).ok K && (PySem.W.keepIn K (.ref (He.ga K x)) && (decide (PySem.W.subIn K (.ref (He.ga K x)) (.type "BaseException") = some true) && decide (PySem.W.typeIn K (.ref (He.ga K x)) = some (.type "type"))))
/-- what isinstance asks of the class -/
def xisB (K : PySem.W.Frag) (D : Addr) : Bool := (PySem.W.clsIn K D).isSome && (decide (PySem.W.findIn K (.ref D) "__getattribute__" = some (some (.builtin "BaseException.__getattribute__"))) && (decide (PySem.W.findIn K (.ref D) "__getattr__" = some none) && (decide (PySem.W.subIn K (.ref D) (.type "BaseException") = some true) &&
  (decide (PySem.W.findIn K (.ref D) "__class__" = some (some (.builtin "object.__class__"))) && (decide (PySem.W.specialIn K (.builtin "object.__class__") "__get__" = some (some (.builtin "getset_descriptor.__get__"))) && (decide (PySem.W.takesIn K (.builtin "object.__class__") = some true) && decide (PySem.W.mroIn K D (.type "object") = some true)))))))
theorem xisB_ok {K : PySem.W.Frag} {D : Addr} (h : xisB K D = true) : XisC K D := by
  obtain ⟨h1, h⟩ := He.ba h
  obtain ⟨h2, h⟩ := He.ba h
  obtain ⟨h3, h⟩ := He.ba h
  obtain ⟨h4, h⟩ := He.ba h
  obtain ⟨h5, h⟩ := He.ba h
  obtain ⟨h6, h⟩ := He.ba h
  obtain ⟨h7, h8⟩ := He.ba h
  exact ⟨h1, of_decide_eq_true h2, of_decide_eq_true h3, of_decide_eq_true h4, of_decide_eq_true h5, of_decide_eq_true h6, of_decide_eq_true h7, of_decide_eq_true h8⟩
/-- from made1: a class of one field -/
theorem vals_one {f : Str} {v : V} {u : Value} (r : RelV v u) (g : Str) : RelO ((([f] : List Str).zip [v].reverse).lookup g) (if g = f then some u else none) := by
  show RelO ((match g == f with | true => some v | false => none)) _
  by_cases e : g = f
  · subst e
    rw [beq_self_eq_true, if_pos rfl]
    exact r
  · rw [beq_eq_false_iff_ne.mpr e, if_neg e]
    trivial
theorem vals_two {f f' : Str} {v v' : V} {u u' : Value} (r : RelV v u) (r' : RelV v' u') (g : Str) : RelO ((([f', f] : List Str).zip [v, v'].reverse).lookup g) (if g = f' then some u' else if g = f then some u else none) := by
  show RelO ((match g == f' with | true => some v' | false => (match g == f with | true => some v | false => none))) _
  by_cases e : g = f'
  · subst e
    rw [beq_self_eq_true, if_pos rfl]
    exact r'
  · rw [beq_eq_false_iff_ne.mpr e, if_neg e]
    by_cases e2 : g = f
    · subst e2
      rw [beq_self_eq_true, if_pos rfl]
      exact r
    · rw [beq_eq_false_iff_ne.mpr e2, if_neg e2]
      trivial
theorem sup_gnd {h : Heap} {mg : Str → Option Value} (G : Gnd h mg) (hs : mg "super" = none) : ∃ mb, SupG h mg mb := by
  obtain ⟨mb, h1, h2⟩ := G.b
  exact ⟨mb, G.g, h1, hs, (h2 "super" (by decide)).trans (by decide +kernel)⟩
end Eng
set_option Elab.async false
set_option linter.all false
set_option maxRecDepth 100000
set_option maxHeartbeats 2000000
/-! Eng 24: an error class called by keywords -/
namespace Eng
open PySem PySem.Spec PySem.W PySem.Calls PyProof.Rows PySem.HandSPX
section
variable {M : Model} {A : Around} {E : Value → Shared → Prop} {h : Heap} {g : Array GenState} {d : Drawn} {t : Nat} {os : OsState}
variable {nm q : Str} {C N : Addr} {bs bm bmB : List Value} {hdct : Bool} {sn : List Str} {sub : List Value} {ab : Bool} {col : Option Bool} {dd : Option Addr} {k0 k1 k2 k3 k5 : Option Value} {B newId initId : String}
theorem check_new_kw (F : ExcBaseFacts B newId initId bmB) (hT : ∀ X : String, bm.contains (.type X) = bmB.contains (.type X)) {kw : List (Str × Value)} {Q : Unit → Shared → Prop}
    (hC : h.get? C = some (excClassObj nm q C N bs bm hdct sn sub ab col dd k0 k1 k2 k3 k5 newId)) (hq : Q () ⟨h, g, d, t, os⟩) : wpAny M A (checkBuiltinCall newId ⟨[.ref C], kw⟩) Q E ⟨h, g, d, t, os⟩ := by
  have hcont : (Value.ref C :: bm).contains (.type B) = true := by rw [List.contains_cons, hT, F.hasB, Bool.or_true]
  have hstar := F.noStar
  simp only [checkBuiltinCall, F.newKind, F.newSplit, F.newRow]
  repeat (first | refine wpAny_loadPart_at hC ?_ | (refine wpAny_isSubtype_exc hC ?_; rw [hcont]) | refine wpAny_staticBase_exc hC ?_ | refine wpAny_madeBy_exc hC ?_ | simp only [bne_self_eq_false, Bool.false_eq_true, if_false] | wp_step)
  exact hq
theorem check_tc_kw {kw : List (Str × Value)} {Q : Unit → Shared → Prop} (hC : h.get? C = some (excClassObj nm q C N bs bm hdct sn sub ab col dd k0 k1 k2 k3 k5 newId))
    (hq : Q () ⟨h, g, d, t, os⟩) : wpAny M A (checkBuiltinCall "type.__call__" ⟨[.ref C], kw⟩) Q E ⟨h, g, d, t, os⟩ := by
  have f3 := tc_sub
  have hT : (⟨h, g, d, t, os⟩ : Shared).TypeIs (.ref C) "type" := ⟨_, hC, rfl⟩
  simp only [checkBuiltinCall, tc_kind, tc_split]
  repeat (any_goals (first | assumption | with_reducible refine wpAny_loadPart_at hC ?_ | with_reducible refine wpAny_onRaise ?_ | with_reducible refine wpAny_map ?_ | wp_step))
end
section
variable {prog : Program} {w : World} {A : Around} {E : Value → Shared → Prop} {R : Result → Shared → Prop} {h : Heap} {g : Array GenState} {d : Drawn} {t : Nat} {os : OsState}
variable {nm q : Str} {C N : Addr} {bs bm bmB : List Value} {hdct : Bool} {sn : List Str} {sub : List Value} {ab : Bool} {col : Option Bool} {dd : Option Addr} {k0 k1 k2 k3 k5 : Option Value} {B newId initId : String}
theorem new_kw (F : ExcBaseFacts B newId initId bmB) (hT : ∀ X : String, bm.contains (.type X) = bmB.contains (.type X)) {kw : List (Str × Value)}
    (hC : h.get? C = some (excClassObj nm q C N bs bm hdct sn sub ab col dd k0 k1 k2 k3 k5 newId))
    (hq : R (.ok (.ret (.ref (h.objs.size + 1)))) ⟨(h.push { cls := .type "tuple", data := .seq #[] }).push
      { cls := .ref C, data := .fields #[.ref h.objs.size, .none, .none, .none, .bool false, .none] }, g, d, t, os⟩) :
    codeAny (model prog w) A (.builtin newId ⟨[.ref C], kw⟩) R ⟨h, g, d, t, os⟩ := by
  have hends := F.ends
  have hcB : (Value.ref C :: bm).contains (.type B) = true := by rw [List.contains_cons, hT, F.hasB, Bool.or_true]
  have hcA : (Value.ref C :: bm).contains (.type "AttributeError") = false := by rw [List.contains_cons, hT, F.noAttr]; rfl
  have hcN : (Value.ref C :: bm).contains (.type "NameError") = false := by rw [List.contains_cons, hT, F.noName]; rfl
  have hrest : ([] : List Value).length ≤ sizeLine := Nat.zero_le _
  refine codeAny_builtinAt F.entry ?_
  unfold Builtin.«BaseException.__new__»
  refine _root_.PySem.wpAt_bind ?_
  show _root_.PySem.wpAt _ _ _ (stack >>= _) _ _ _
  refine _root_.PySem.wpAt_bind (_root_.PySem.wpAt_stack fun p below => _root_.PySem.wpAt_of_wpAny ?_)
  wp_walk
  refine wpAt_of_wpAny ?_
  rw [F.owner]
  repeat (first | with_reducible refine wpAny_madeHere_exc F.canon hC ?_ | with_reducible refine wpAny_loadPart_at hC ?_ | (with_reducible refine wpAny_isSubtype_exc hC ?_; first | rw [hcB] | rw [hcA] | rw [hcN]) | wp_step)
  show R _ _
  rw [Heap.size_push]
  exact hq
theorem type_call_kw (F : ExcBaseFacts B newId initId bmB) (hT : ∀ X : String, bm.contains (.type X) = bmB.contains (.type X)) {kw : List (Str × Value)} {fI : Addr} {Q : Fin → Shared → Prop}
    (hC : h.get? C = some (excClassObj nm q C N bs bm hdct sn sub ab col dd k0 k1 k2 k3 k5 newId))
    (hi : W.Looks (model prog w) h (typeLookup (.ref C) "__init__") (some (.ref fI))) (hb : ∀ self, W.Looks (model prog w) h (bindSpecial (.ref fI) self) (.ref fI, [self]))
    (hq : codeAny (model prog w) A (.call (.ref fI) ⟨[.ref (h.objs.size + 1)], kw⟩)
      (fun r s' => match r with | .ok (.ret v) => v = .none ∧ Q (.done (.ret (.ref (h.objs.size + 1)))) s' | .ok _ => False | .error e => E e s')
      ⟨(h.push (W.kdv_tup [])).push (excO C h.objs.size), g, d, t, os⟩) :
    wpAny (model prog w) A (Builtin.«type.__call__» ⟨[.ref C], kw⟩) Q E ⟨h, g, d, t, os⟩ := by
  repeat (first | with_reducible refine wpAny_loadPart_at hC ?_ | with_reducible refine wpAny_madeBy_exc hC ?_ | wp_step)
  refine codeAny_call_builtin_code (Code.quiet_builtin _ F.quiet) (check_new_kw F hT hC ?_)
  refine new_kw F hT hC ?_
  show wpAny _ _ _ _ _ _
  have k : ∀ b o, h.get? b = some o → ((h.push (W.kdv_tup [])).push (excO C h.objs.size)).get? b = some o := fun b o e => Heap.get?_push_of_some _ (Heap.get?_push_of_some _ e)
  have hC₁ := k _ _ hC
  have hget : ((h.push (W.kdv_tup [])).push (excO C h.objs.size)).get? (h.objs.size + 1) = some (excO C h.objs.size) := by heap_get
  have hcC : (Value.ref C :: bm).contains (.ref C) = true := by simp
  have i1 := hi.keeps k
  have b1 := (hb (.ref (h.objs.size + 1))).keeps k
  unfold isInstance
  repeat (first | with_reducible refine wpAny_loadPart_at hget ?_ | (with_reducible refine wpAny_isSubtype_exc hC₁ ?_; rw [hcC]) | wp_step)
  show wpAny _ _ (typeLookup (.ref C) _) _ _ _
  refine i1.at ?_
  refine wpAny_holding (wpAny_bind (b1.at ?_))
  refine wpAny_bind (wpAny_call (codeAny_mono hq fun r s' z => ?_))
  rcases r with e | (v | _ | _ | _) <;> first | exact z | exact z.elim | skip
  obtain ⟨rfl, z⟩ := z
  first
    | exact wpAny_pure (wpAny_pure z)
    | (wp_walk; exact z)
theorem call_kw (F : ExcBaseFacts B newId initId bmB) (hT : ∀ X : String, bm.contains (.type X) = bmB.contains (.type X)) {kw : List (Str × Value)} {fI : Addr}
    (hC : h.get? C = some (excClassObj nm q C N bs bm hdct sn sub ab col dd k0 k1 k2 k3 k5 newId))
    (hi : W.Looks (model prog w) h (typeLookup (.ref C) "__init__") (some (.ref fI))) (hb : ∀ self, W.Looks (model prog w) h (bindSpecial (.ref fI) self) (.ref fI, [self]))
    (hq : codeAny (model prog w) (A.under (.builtin "type.__call__" ⟨[.ref C], kw⟩)) (.call (.ref fI) ⟨[.ref (h.objs.size + 1)], kw⟩) (W.InitBack (h.objs.size + 1) R)
      ⟨(h.push (W.kdv_tup [])).push (excO C h.objs.size), g, d, t, os⟩) :
    codeAny (model prog w) A (.call (.ref C) ⟨[], kw⟩) R ⟨h, g, d, t, os⟩ := by
  have f1 := tc_lookup
  have f2 := tc_bind (.ref C)
  have hTy : (⟨h, g, d, t, os⟩ : Shared).TypeIs (.ref C) "type" := ⟨_, hC, rfl⟩
  refine codeAny_of_tree ?_
  show wpAny _ _ (callAny (.ref C) _) _ _ _
  repeat (any_goals (first | assumption | with_reducible refine wpAny_loadPart_at hC ?_ | wp_step))
  refine ⟨rfl, ?_⟩
  refine codeAny_call_builtin_at (Code.quiet_builtin _ (by decide +kernel)) entry_typeCall (check_tc_kw hC (type_call_kw F hT hC hi hb ?_))
  refine codeAny_mono hq fun r s' z => ?_
  rcases r with e | (v | _ | _ | _) <;> exact z
end
end Eng
set_option Elab.async false
set_option linter.all false
set_option maxRecDepth 100000
set_option maxHeartbeats 2000000
/-! Eng 25: errors of one field, of two, made by keywords -/
namespace Eng
open PySem PySem.Spec PySem.W PySem.Calls PyProof.Rows PySem.HandSPX
section
variable {prog : Program} {w : World} {A : Around} {E : Value → Shared → Prop} {R : Result → Shared → Prop} {s : Shared} {K : Frag} {file : Str} {C fI : Addr} {qual : Str} {params : Arguments} {body : List Stmt} {scope : Scope} {mg mb : Str → Option Value}
theorem made_ofK (S : SupC K file C fI qual params body scope) {kw : List (Str × Value)} {mA : Str → Option Value} (X : K.In s.heap) (hlim : s.heap.NoLimit)
    (hi : ∀ (A : Around) (R : Result → Shared → Prop) (s' : Shared) (x t0 : Addr), A.depth = A.depth → K.In s'.heap → s'.heap.NoLimit → s'.heap.get? x = some (excO C t0) → (∀ b o, s.heap.get? b = some o → s'.heap.get? b = some o) → s.heap.objs.size ≤ x →
      (∀ h' tk dx, XInit s'.heap h' x C dx mA → R (.ok (.ret .none)) { s' with heap := h', toks := tk }) → (A.depth < recursionLimit) → codeAny (model prog w) A (.call (.ref fI) ⟨[.ref x], kw⟩) R s') (hroom : A.depth + 1 < recursionLimit)
    (hq : ∀ h' tk e d, XMade s.heap h' e C d mA → R (.ok (.ret (.ref e))) { s with heap := h', toks := tk }) : codeAny (model prog w) A (.call (.ref C) ⟨[], kw⟩) R s := by
  obtain ⟨nm, q, N, bs, bm, sn, sub, ab, col, dd, k0, k1, k2, k3, k5, hC, hbm, hal⟩ := S.cls
  obtain ⟨hp, g, dr, tk, os⟩ := s
  have k : ∀ b o, hp.get? b = some o → ((hp.push (kdv_tup [])).push (excO C hp.objs.size)).get? b = some o := fun b o e => Heap.get?_push_of_some _ (Heap.get?_push_of_some _ e)
  have hget : ((hp.push (kdv_tup [])).push (excO C hp.objs.size)).get? (hp.objs.size + 1) = some (excO C hp.objs.size) := by heap_get
  refine call_kw F.excBase_ValueError (fun Y => refsVE_contains Y bm hbm) (X _ _ hC) (looks_findIn X S.iC) (fun self => bind_fn X self S.tI) ?_
  refine hi _ _ ⟨(hp.push (kdv_tup [])).push (excO C hp.objs.size), g, dr, tk, os⟩ (hp.objs.size + 1) hp.objs.size rfl (X.keeps k) (hlim.keeps k) hget k (Nat.le_succ _) (fun h' tk' dx M => ?_) hroom
  have z : hp.objs.size + 1 + 1 ≤ dx := by
    have q := M.dbig
    rw [Heap.size_push, Heap.size_push] at q
    exact q
  exact ⟨rfl, hq h' tk' (hp.objs.size + 1) dx ⟨fun b o e => M.keep b o (Nat.ne_of_lt (Nat.lt_succ_of_lt (Heap.lt_size e))) (k b o e), Nat.le_succ _, M.obj, by show hp.objs.size ≤ dx; omega, M.dne, M.ns⟩⟩
theorem made1K {p f : Str} {a1 a2 a3 a4 a5 a6 b1 b2 b3 b4 : Pos} {v : Value} (S : SupC K file C fI qual params body scope) (T : SupT qual params scope) (U : SupE qual scope a1 a2 a3 a5 a6 [.Name p a4])
    (hbody : body = [.Expr (.Call (.Attribute (.Call (.Name "super" a1) [] [] a2) "__init__" a3) [.Name p a4] [] a5) a6, .Assign [.Attribute (.Name "self" b1) f b2] (.Name p b3) b4])
    (hb : ∀ (doc pm : Value) (an : Option Addr) (cda : Addr) (ct : Value) (cc : Addr) (u : Value), bindArgs (ksFn "__init__" qual params body scope .none .none doc pm an (.ref cda) ct cc) ⟨[u], [(p, v)]⟩ = pure [(("self" : Str), u), (p, v)])
    (hps : (("self" : Str) == p) = false) (hkp : scope.names.lookup p = some .local) (hpd : (p == ("__debug__" : Str)) = false) (no : findIn K (.ref C) f = some none)
    (hsw : ∀ L cda cc, swapsWith (.Name p b3) (some (.Attribute (.Name "self" b1) f b2)) b4.line (ksEnv qual scope L fI (.ref cda) cc) = pure false)
    (hfile : ((prog.main.file : Str) == file) = true) (htop : (prog.main.scope.names.lookup ("super" : Str)).isSome = false)
    (X : K.In s.heap) (G : SupG s.heap mg mb) (hlim : s.heap.NoLimit) (hroom : A.depth + 1 < recursionLimit)
    (hq : ∀ h' tk e d, XMade s.heap h' e C d (fun y => if y = f then some v else none) → R (.ok (.ret (.ref e))) { s with heap := h', toks := tk }) : codeAny (model prog w) A (.call (.ref C) ⟨[], [(p, v)]⟩) R s := by
  obtain ⟨oc, od, doc, pm, an, cda, ct, osl, cc, ccl, cdd, vs, ccs, tf, cl, cld, csl, hf, hcd, hcode, hvs, hcel⟩ := S.fn
  obtain ⟨ar, har, hself⟩ := T.hp
  have one : [v].length ≤ sizeLine := by rw [sizeLine_eq]; exact (by decide : 1 ≤ 16777216)
  refine made_ofK S X hlim (fun A R s' x t0 _ X' lim' hx' k' hle hq' hroom' => ?_) hroom hq
  obtain ⟨h0, g, d, t, os⟩ := s'
  have bnd := hb doc pm an cda ct cc (.ref x)
  subst hbody
  refine ks_codeAny_call_defAt (fd := ksFn "__init__" qual params _ scope .none .none doc pm an (.ref cda) ct cc) (binds := [("self", .ref x), (p, v)]) hroom' (X' _ _ hf) rfl lim' (codeRec_of X' hcd) rfl (BindsTo.of_eq bnd)
    (fun y hy => of_decide_eq_true (List.all_eq_true.mp T.hcell y hy)) (fun y hy => ?_) (fun h1 hns k1 => ?_) T.hco T.hgen T.hk
  · rcases List.mem_cons.mp hy with rfl | hy
    · exact T.hse
    · rw [List.mem_singleton.mp hy]
      exact hkp
  · have hxL : h0.objs.size ≠ x := Nat.ne_of_gt (Heap.lt_size hx')
    have mself : ([("self", Value.ref x), (p, v)] : List (Str × Value)).reverse.lookup ("self" : Str) = some (Value.ref x) := by
      show (match ("self" : Str) == p with | true => some v | false => ([("self", Value.ref x)] : List (Str × Value)).lookup ("self" : Str)) = some (Value.ref x)
      rw [hps]
      rfl
    have mp : ([("self", Value.ref x), (p, v)] : List (Str × Value)).reverse.lookup p = some v := by
      show (match p == p with | true => some v | false => ([("self", Value.ref x)] : List (Str × Value)).lookup p) = some v
      rw [beq_self_eq_true]
    obtain ⟨pl, he⟩ := U.he h0.objs.size fI cda cc
    refine sup_stmt (us := [v]) (pl := pl) S (X'.keeps k1) ((G.keeps k').keeps k1) (k1 _ _ hx') hxL hns hf hcode hvs hcel hfile htop har (by rw [hself]; exact mself) T.hks T.hkc (by rw [hself]; exact T.hse) T.hk he rfl one (fun s1 Q1 E1 u hL q1 => ?_) (U.sw _ _ _ _) (U.inn _ _ _ _) fun h2 t1 tk2 k2 hx2 hL2 => ?_
    · refine Calls.evalArgs_plain (Calls.spliced_cons (ESX.ldL hL mp (Calls.spliced_nil q1) T.hk hkp hpd))
    · have X2 : K.In h2 := in_but X hle (X'.keeps k1) k2
      refine sup_set S X2 hx2 hxL hL2 no mself mp T.hse hkp T.hk hpd (hsw _ _ _) fun h3 dx tk3 k3 dn dne hx3 hn3 hL3 => ?_
      refine wpAt_of_wpAny (wpAny_execs_nil (hq' h3 tk3 dx ⟨fun b o hb e => k3 b o hb (k2 b o hb (k1 b o e)), ⟨t1, hx3⟩, ?_, dne, hn3⟩))
      have z : h0.objs.size < h2.objs.size := hL2.lt
      show h0.objs.size ≤ dx
      exact Nat.le_of_lt (Nat.lt_of_lt_of_le z dn)
theorem made2K {p q f f' : Str} {a1 a2 a3 a4 a4' a5 a6 b1 b2 b3 b4 c1 c2 c3 c4 : Pos} {v v' : Value} {kw : List (Str × Value)} (S : SupC K file C fI qual params body scope) (T : SupT qual params scope) (U : SupE qual scope a1 a2 a3 a5 a6 [.Name p a4, .Name q a4'])
    (hbody : body = [.Expr (.Call (.Attribute (.Call (.Name "super" a1) [] [] a2) "__init__" a3) [.Name p a4, .Name q a4'] [] a5) a6, .Assign [.Attribute (.Name "self" b1) f b2] (.Name p b3) b4, .Assign [.Attribute (.Name "self" c1) f' c2] (.Name q c3) c4])
    (hb : ∀ (doc pm : Value) (an : Option Addr) (cda : Addr) (ct : Value) (cc : Addr) (u : Value), bindArgs (ksFn "__init__" qual params body scope .none .none doc pm an (.ref cda) ct cc) ⟨[u], kw⟩ = pure [(("self" : Str), u), (p, v), (q, v')])
    (hps : (("self" : Str) == p) = false) (hqs : (("self" : Str) == q) = false) (hpq : (p == q) = false) (hkp : scope.names.lookup p = some .local) (hkq : scope.names.lookup q = some .local) (hpd : (p == ("__debug__" : Str)) = false) (hqd : (q == ("__debug__" : Str)) = false)
    (no : findIn K (.ref C) f = some none) (no' : findIn K (.ref C) f' = some none)
    (hsw : ∀ L cda cc, swapsWith (.Name p b3) (some (.Attribute (.Name "self" b1) f b2)) b4.line (ksEnv qual scope L fI (.ref cda) cc) = pure false)
    (hsw' : ∀ L cda cc, swapsWith (.Name q c3) (some (.Attribute (.Name "self" c1) f' c2)) c4.line (ksEnv qual scope L fI (.ref cda) cc) = pure false)
    (hfile : ((prog.main.file : Str) == file) = true) (htop : (prog.main.scope.names.lookup ("super" : Str)).isSome = false)
    (X : K.In s.heap) (G : SupG s.heap mg mb) (hlim : s.heap.NoLimit) (hroom : A.depth + 1 < recursionLimit)
    (hq : ∀ h' tk e d, XMade s.heap h' e C d (fun y => if y = f' then some v' else if y = f then some v else none) → R (.ok (.ret (.ref e))) { s with heap := h', toks := tk }) : codeAny (model prog w) A (.call (.ref C) ⟨[], kw⟩) R s := by
  obtain ⟨oc, od, doc, pm, an, cda, ct, osl, cc, ccl, cdd, vs, ccs, tf, cl, cld, csl, hf, hcd, hcode, hvs, hcel⟩ := S.fn
  obtain ⟨ar, har, hself⟩ := T.hp
  have two : [v, v'].length ≤ sizeLine := by rw [sizeLine_eq]; exact (by decide : 2 ≤ 16777216)
  refine made_ofK S X hlim (fun A R s' x t0 _ X' lim' hx' k' hle hq' hroom' => ?_) hroom hq
  obtain ⟨h0, g, d, t, os⟩ := s'
  have bnd := hb doc pm an cda ct cc (.ref x)
  subst hbody
  refine ks_codeAny_call_defAt (fd := ksFn "__init__" qual params _ scope .none .none doc pm an (.ref cda) ct cc) (binds := [("self", .ref x), (p, v), (q, v')]) hroom' (X' _ _ hf) rfl lim' (codeRec_of X' hcd) rfl (BindsTo.of_eq bnd)
    (fun y hy => of_decide_eq_true (List.all_eq_true.mp T.hcell y hy)) (fun y hy => ?_) (fun h1 hns k1 => ?_) T.hco T.hgen T.hk
  · rcases List.mem_cons.mp hy with rfl | hy
    · exact T.hse
    · rcases List.mem_cons.mp hy with rfl | hy
      · exact hkp
      · rw [List.mem_singleton.mp hy]
        exact hkq
  · have hxL : h0.objs.size ≠ x := Nat.ne_of_gt (Heap.lt_size hx')
    have mself : ([("self", Value.ref x), (p, v), (q, v')] : List (Str × Value)).reverse.lookup ("self" : Str) = some (Value.ref x) := by
      show (match ("self" : Str) == q with | true => some v' | false => (match ("self" : Str) == p with | true => some v | false => ([("self", Value.ref x)] : List (Str × Value)).lookup ("self" : Str))) = some (Value.ref x)
      rw [hqs, hps]
      rfl
    have mp : ([("self", Value.ref x), (p, v), (q, v')] : List (Str × Value)).reverse.lookup p = some v := by
      show (match p == q with | true => some v' | false => (match p == p with | true => some v | false => ([("self", Value.ref x)] : List (Str × Value)).lookup p)) = some v
      rw [hpq, beq_self_eq_true]
    have mq : ([("self", Value.ref x), (p, v), (q, v')] : List (Str × Value)).reverse.lookup q = some v' := by
      show (match q == q with | true => some v' | false => (match q == p with | true => some v | false => ([("self", Value.ref x)] : List (Str × Value)).lookup q)) = some v'
      rw [beq_self_eq_true]
    obtain ⟨pl, he⟩ := U.he h0.objs.size fI cda cc
    refine sup_stmt (us := [v, v']) (pl := pl) S (X'.keeps k1) ((G.keeps k').keeps k1) (k1 _ _ hx') hxL hns hf hcode hvs hcel hfile htop har (by rw [hself]; exact mself) T.hks T.hkc (by rw [hself]; exact T.hse) T.hk he rfl two (fun s1 Q1 E1 u hL q1 => ?_) (U.sw _ _ _ _) (U.inn _ _ _ _) fun h2 t1 tk2 k2 hx2 hL2 => ?_
    · exact Calls.evalArgs_plain (Calls.spliced_cons (ESX.ldL hL mp (Calls.spliced_cons (ESX.ldL hL mq (Calls.spliced_nil q1) T.hk hkq hqd)) T.hk hkp hpd))
    · have X2 : K.In h2 := in_but X hle (X'.keeps k1) k2
      refine sup_set S X2 hx2 hxL hL2 no mself mp T.hse hkp T.hk hpd (hsw _ _ _) fun h3 dx tk3 k3 dn dne hx3 hn3 hL3 => ?_
      have X3 : K.In h3 := in_but X hle X2 k3
      have z : h0.objs.size < h2.objs.size := hL2.lt
      have hdL : h0.objs.size ≠ dx := Nat.ne_of_lt (Nat.lt_of_lt_of_le z dn)
      refine sup_set2 (nl := [f]) S X3 hx3 hn3 (fun y hy => ?_) (by simp) hdL hL3 no' mself mq T.hse hkq T.hk hqd (hsw' _ _ _) fun h4 tk4 k4 hn4 hL4 => ?_
      · by_cases e : y = f
        · rw [e]; exact List.mem_cons_self
        · exact absurd (if_neg e) hy
      · refine wpAt_of_wpAny (wpAny_execs_nil (hq' h4 tk4 dx ⟨fun b o hb e => ?_, ⟨t1, k4 _ _ dne.symm hx3⟩, ?_, dne, hn4⟩))
        · have e2 := k2 b o hb (k1 b o e)
          refine k4 b o (fun z => ?_) (k3 b o hb e2)
          rw [z] at e2
          exact absurd (Heap.lt_size e2) (Nat.not_lt_of_le dn)
        · show h0.objs.size ≤ dx
          exact Nat.le_of_lt (Nat.lt_of_lt_of_le z dn)
end
end Eng
set_option Elab.async false
set_option linter.all false
set_option maxRecDepth 100000
set_option maxHeartbeats 2000000
/-! Eng 26: C(f=..).f, a field of an error made on the spot -/
namespace Eng
open PySem PySem.Spec PyProof.Rows L2

/-- keywords, from the left, n of them -/
def PKn (X : Cx) (kws : List Keyword) (n : Nat) (t : TA) : Prop := PK X kws fun σ H Q => t σ H fun vs H1 => vs.length = n → Q vs H1
/-- the error class x of the package, called with the keywords ks -/
structure XkOk (P : Program) (w : World) (K : PySem.W.Frag) (mg : Str → Option Value) (x : Str) (ks : List Str) : Prop where
  made : ∀ (A : Around) (R : Result → Shared → Prop) (s : Shared) (us : List Value), us.length = ks.length → K.In s.heap → Gnd s.heap mg → A.depth + 1 < recursionLimit →
    (∀ h' tk e d mA, XMade s.heap h' e (He.ga K x) d mA → (∀ f v, (ks.zip us).lookup f = some v → mA f = some v) → R (.ok (.ret (.ref e))) { s with heap := h', toks := tk }) → codeAny (model P w) A (.call (.ref (He.ga K x)) ⟨[], ks.zip us⟩) R s
  mg : mg x = some (.ref (He.ga K x))
  kp : PySem.W.keepIn K (.ref (He.ga K x)) = true
theorem zip_rel {f : Str} {v : V} : ∀ {ks : List Str} {vs : List V} {us : List Value}, Vals vs us → (ks.zip vs).lookup f = some v → ∃ u, (ks.zip us).lookup f = some u ∧ RelV v u
  | [], _, _, _, h => by cases h
  | _ :: _, _, _, .nil, h => by cases h
  | k :: ks, _, _, .cons (a := x) (b := u) r rs, h => by
    have h : (match f == k with | true => some x | false => (ks.zip _).lookup f) = some v := h
    show ∃ w, (match f == k with | true => some u | false => (ks.zip _).lookup f) = some w ∧ RelV v w
    cases e : f == k with
    | true =>
      rw [e] at h
      cases h
      exact ⟨_, rfl, r⟩
    | false =>
      rw [e] at h
      exact zip_rel rs h
section
variable {X : Cx} {W : WW} {C : Calls}
theorem k_nil : PKn X [] 0 (tEs X.K W C .nil) := ⟨fun pos pins s σ H Q I ⟨F, T, st, env, w, eo, p⟩ => pk_nil.run pos pins s σ H Q I (p _ F T H (.refl _ _ _) w .nil rfl)⟩
theorem k_cons {nm : Option Str} {kpos : Pos} {n : Nat} {a : Expr} {kws : List Keyword} {e : E} {es : Es} (ha : PE X a (tE X.K W C e)) (hr : PKn X kws n (tEs X.K W C es)) : PKn X (⟨nm, a, kpos⟩ :: kws) (n + 1) (tEs X.K W C (.cons e es)) :=
  ⟨fun pos pins s σ H Q I ⟨F, T, st, env, w, eo, p⟩ => (pk_cons ha hr).run pos pins s σ H Q I (by
    have p : Post X.K W σ F T H (rVs X.K) ((evE C env e st).bnd fun d st => (evEs C env es st).bnd fun ds st => .ok (d :: ds) st) (fun vs H1 => vs.length = n + 1 → Q vs H1) := p
    refine ⟨F, T, st, env, w, eo, (Post.bnd (R1 := rV X.K) sh_Vs p).mono fun x H1 ⟨F1, T1, st1, d, x1, w1, r1, p1⟩ => ?_⟩
    refine ⟨F1, T1, st1, env, w1, eo.ext x1, (Post.bnd (R1 := rVs X.K) sh_Vs p1).mono fun xs H2 ⟨F2, T2, st2, ds, x2, w2, r2, p2⟩ => fun hl => ?_⟩
    exact p2 _ F2 T2 H2 (.refl _ _ _) w2 (.cons (Rep.mono x2.fr x2.pre r1) r2) (by rw [List.length_cons, hl]))⟩
theorem s_xkw {k : Nat} {x f : Str} {ks : List Str} {kws : List Keyword} {es : Es} {p pos p2 : Pos} (h : XkOk X.prog X.w X.K X.mg x ks) (T : XfC X.K (He.ga X.K x) ∧ PySem.W.findIn X.K (.ref (He.ga X.K x)) f = some none) (hr : Room k X.A) (hg : Gl X x) (hk : PKn X kws ks.length (tEs X.K W C es)) (hd : (x == ("__debug__" : Str)) = false)
    (hall : (backToKw pos (keywordEach kws X.env)).all (·.1.isSome) = true) (hks : (backToKw pos (keywordEach kws X.env)).filterMap (·.1) = ks) (hpl : ((backTo pos (starEach [] X.env)).any (·.1) || (backToKw pos (keywordEach kws X.env)).any (·.1.isNone)) = false)
    (hb : attributeBase (.Call (.Name x p) [] kws pos) f X.env (eval (.Call (.Name x p) [] kws pos) X.env) = eval (.Call (.Name x p) [] kws pos) X.env) :
    PE X (.Attribute (.Call (.Name x p) [] kws pos) f p2) (tE X.K W C (.xkw x ks es f)) := by
  refine ⟨fun pins s σ H Q I ⟨F, T0, st, env, w, eo, q⟩ => ?_⟩
  have q : Post X.K W σ F T0 H (rV X.K) ((evEs C env es st).bnd fun ds st => ofO (fldD f ks ds) st) Q := q
  refine attr_of hb (wpAny_Call_Name_kw (ld_glob I hg h.mg ?_ hd))
  have run := hk.run pos pins s σ H (fun vs H1 => vs.length = ks.length ∧ ∃ F1 T1 st1 ds, Ext F T0 H F1 T1 H1 ∧ WF X.K F1 T1 st1 H1 ∧ Reps X.K F1 T1 vs ds ∧ Post X.K W σ F1 T1 H1 (rV X.K) (ofO (fldD f ks ds) st1) Q) I
    ⟨F, T0, st, env, w, eo, (Post.bnd (R1 := rVs X.K) sh_V q).mono fun _ _ z hl => ⟨hl, z⟩⟩
  refine PySem.W.callWith_KW0 (h₀ := X.base) I.ok.mod.kin h.kp hall (thn run fun us s1 ⟨vs, H1, I1, r1, hl, F1, T1, st1, ds, x1, w1, rr, p1⟩ => ⟨I1.kIn, ?_⟩) hpl
  have rr : Reps X.K F1 T1 vs ds := rr
  rw [hks]
  have gnd := Inv.gnd I1
  obtain ⟨hp, g, dr, tk, os⟩ := s1
  refine wpAny_call (h.made _ _ ⟨hp, g, dr, tk, os⟩ us (by rw [← r1.length]; exact hl) I1.kIn gnd (by have := hr.dp; omega) fun h' tk' e d mA M rel => ?_)
  cases c : fldD f ks ds with
  | none => rw [c] at p1; exact p1.elim
  | some z =>
    rw [c] at p1
    have e1 : (ks.zip vs).map (·.1) = ks := List.map_fst_zip (Nat.le_of_eq hl.symm)
    have e2 : (ks.zip vs).map (·.2) = vs := List.map_snd_zip (Nat.le_of_eq hl)
    obtain ⟨v, l, rv⟩ := lookup_fld (fs := ks.zip vs) (f := f) (by rw [e2]; exact rr) (by rw [e1]; exact c)
    obtain ⟨u, lu, ru⟩ := zip_rel r1 l
    have hm := rel f u lu
    obtain ⟨t1, hoe⟩ := M.obj
    obtain ⟨od, ho, hl'⟩ := lookIn_ns M.ns
    have J : PySem.W.InstAt h' e _ (He.ga X.K x) (some od) := ⟨hoe, rfl, rfl, ho⟩
    have I2 := I1.kept (h' := h') (t' := tk') M.keep
    exact HandSPX.exc_get I2.kIn J T.1.ga T.1.gg T.1.exC (PySem.W.findObj_own T.1.hdC T.2 rfl (by rw [hl', hm])) (handed_of ru) ⟨v, H1, I2.tok _, ru, p1 v F1 T1 H1 (.refl _ _ _) w1 rv⟩
end
theorem kw_one {p f : Str} {v u : Value} (l : (([p] : List Str).zip [v]).lookup f = some u) : (if f = p then some v else none) = some u := by
  have l : (match f == p with | true => some v | false => none) = some u := l
  by_cases e : f = p
  · rw [e, beq_self_eq_true] at l
    rw [if_pos e]
    exact l
  · rw [beq_eq_false_iff_ne.mpr e] at l
    cases l
theorem kw_two {p q f : Str} {v v' u : Value} (hpq : (p == q) = false) (l : (([p, q] : List Str).zip [v, v']).lookup f = some u) : (if f = q then some v' else if f = p then some v else none) = some u := by
  have l : (match f == p with | true => some v | false => match f == q with | true => some v' | false => none) = some u := l
  by_cases e : f = p
  · subst e
    rw [beq_self_eq_true] at l
    rw [if_neg (beq_eq_false_iff_ne.mp hpq), if_pos rfl]
    exact l
  · rw [beq_eq_false_iff_ne.mpr e] at l
    by_cases e' : f = q
    · subst e'
      rw [beq_self_eq_true] at l
      rw [if_pos rfl]
      exact l
    · rw [beq_eq_false_iff_ne.mpr e'] at l
      cases l
theorem kw_two' {p q f : Str} {v v' u : Value} (l : (([q, p] : List Str).zip [v', v]).lookup f = some u) : (if f = q then some v' else if f = p then some v else none) = some u := by
  have l : (match f == q with | true => some v' | false => match f == p with | true => some v | false => none) = some u := l
  by_cases e' : f = q
  · subst e'
    rw [beq_self_eq_true] at l
    rw [if_pos rfl]
    exact l
  · rw [beq_eq_false_iff_ne.mpr e'] at l
    rw [if_neg e']
    by_cases e : f = p
    · subst e
      rw [beq_self_eq_true] at l
      rw [if_pos rfl]
      exact l
    · rw [beq_eq_false_iff_ne.mpr e] at l
      cases l
end Eng
set_option Elab.async false
set_option linter.all false
set_option maxRecDepth 100000
set_option maxHeartbeats 2000000
/-! Eng 27: the law's end -/
namespace Eng
open PySem PySem.Spec PyProof.Rows L2
theorem walk_ofW {l : PySem.W.OpenLaw} {n k : Nat} {q : Program} {loose : List Str} {XP : (Str → Option Value) → Heap → Prop} {YP : World → Heap → Prop} {d : DefRec} {CX : World → CXT} {x : Str}
    (hn : l.most = some n) (hn2 : n ≤ sizeLine) (hdf : d.params.defaults = []) (hr : Room k callerA)
    (F : ∀ (w : World) (mg : Str → Option Value) (fa : Addr) (h : Heap), YP w h → h.Ns mainGlobals mg → mg d.name = some (.ref fa) →
      ∃ (K : PySem.W.Frag) (fd : FuncData) (sp : Sp), K.In h ∧ (∀ (s : Shared) (u : Value), BindsTo s fd ⟨[u], []⟩ [(x, u)]) ∧
        (∀ (H : Hp) (a : Addr) (ns : List Int), ns.length ≤ n → Only H → SqL K H a (ns.map V.int) → sp [.ref a] H (fun v _ => v = .bl true) fun _ _ _ => False) ∧
        ∀ base : Heap, K.In base → base.Ns mainGlobals mg → FnOk l.prog w K mg base (CX w) k fa fd [x] sp)
    (hCX : ∀ (w : World) (H : Hp) (s : Shared) (e : Value) (s' : Shared), CX w [] H s (fun _ _ _ => False) e s' → False) :
    PySem.W.WalkO q loose XP YP l.row.toRowW d [] (fun f vs => PySem.call f vs) := by
  refine Att.attach_call hn hdf fun w s₀ s₁ mg mb fa o pm cd doc a vs ns G Y ho hd hcd hmg hobj hints hlen hg => ?_
  obtain ⟨K, fd, sp, KX, hb, hsp, hF⟩ := F w mg fa _ Y G.T.g hmg
  exact law_call KX G.T.g G.T.b G.T.builtins G.T.nolimit hg hobj hints (Nat.le_trans hlen hn2) hr hF hb (fun H hO hS => hsp H a ns hlen hO hS) fun H e s' => hCX w H s₁ e s'
theorem law_sp {K : PySem.W.Frag} {C : Calls} {n : Nat} {ns : List Int} {H : Hp} {a : Addr} (h : SqL K H a (ns.map V.int)) (e : ∃ st, C n [.scr ns] [] = .ok (.bl true) st) : spN K C n [.ref a] H (fun v _ => v = .bl true) fun _ _ _ => False := by
  obtain ⟨st, e⟩ := e
  refine ⟨H, [], [], [.scr ns], ⟨.refl _, rfl, List.nodup_nil, (fun _ h => by cases h), (fun n d h => by cases h)⟩, .cons (.scr h) .nil, ?_⟩
  rw [e]
  intro v F' T' H' _ _ r
  have r : Rep K F' T' v (.bl true) := r
  cases r
  rfl
theorem cx_law {P : Program} {w : World} {H : Hp} {s : Shared} {e : Value} {s' : Shared} : L2.CX P w [] H s (fun _ _ _ => False) e s' → False := fun ⟨_, _, _, _, _, _, _, _, _, _, _, _, h⟩ => h
end Eng
set_option Elab.async false
set_option linter.all false
set_option maxRecDepth 100000
set_option maxHeartbeats 0
namespace Eng
open PySem PySem.Spec PyProof.Rows L2

def top (i : Nat) : Stmt := PySem.Challenge.pw_pawnkept_k13_errors.main.body.getD i (.Pass ⟨0, 0, 0, 0⟩)
def sub (s : Stmt) (j : Nat) : Stmt := match s with | .ClassDef _ _ _ b _ _ _ _ _ _ _ => b.getD j (.Pass ⟨0, 0, 0, 0⟩) | s => s
abbrev st0 : Stmt := top 13
abbrev N0 : List Str := ["row", "many", "found", "cell"]
def ir0 : Ss := (.cons (.ifs (.cmp .Gt (.ix (.var 0) (.c (.int 3))) (.c (.int 0))) (.cons (.asg [] (.v 2) (.bin .Mod (.bi "int" (.cons (.ix (.var 0) (.c (.int 3))) .nil)) (.var 1))) (.cons (.setI [] 0 (.c (.int 3)) (.bin .FloorDiv (.ix (.var 0) (.c (.int 3))) (.var 1))) (.cons (.ret [] (.var 2)) .nil))) .nil) (.cons (.setI [] 0 (.c (.int 1)) (.bin .Add (.ix (.var 0) (.c (.int 1))) (.c (.int 1)))) (.cons (.ifs (.cmp .Gt (.ix (.var 0) (.c (.int 1))) (.bi "len" (.cons (.ix (.var 0) (.c (.int 0))) .nil))) (.cons (.setI [] 0 (.c (.int 2)) (.bin .Mod (.bi "int" (.cons (.bin .Add (.bin .Mult (.ix (.var 0) (.c (.int 2))) (.c (.int 48271))) (.c (.int 11))) .nil)) (.c (.int 2147483647)))) (.cons (.ret [] (.bin .Mod (.bi "int" (.cons (.bin .FloorDiv (.ix (.var 0) (.c (.int 2))) (.c (.int 7))) .nil)) (.var 1))) .nil)) .nil) (.cons (.asg [] (.v 3) (.ix (.ix (.var 0) (.c (.int 0))) (.bin .Sub (.ix (.var 0) (.c (.int 1))) (.c (.int 1))))) (.cons (.setI [] 0 (.c (.int 2)) (.bin .Mod (.bi "int" (.cons (.bin .Add (.bin .Add (.bin .Mult (.ix (.var 0) (.c (.int 2))) (.c (.int 48271))) (.var 3)) (.c (.int 11))) .nil)) (.c (.int 2147483647)))) (.cons (.ifs (.cmp .GtE (.var 3) (.bin .Pow (.c (.int 10)) (.c (.int 18)))) (.cons (.setI [] 0 (.c (.int 3)) (.bin .FloorDiv (.var 3) (.var 1))) .nil) .nil) (.cons (.ret [] (.bin .Mod (.bi "int" (.cons (.var 3) .nil)) (.var 1))) .nil)))))))
abbrev st1 : Stmt := top 14
abbrev N1 : List Str := ["row", "kinds"]
def ir1 : Ss := (.cons (.ret [] (.ix (.var 1) (.call 0 (.cons (.var 0) (.cons (.bi "len" (.cons (.var 1) .nil)) .nil))))) .nil)
abbrev st2 : Stmt := top 15
abbrev N2 : List Str := ["found", "due", "k"]
def ir2 : Ss := (.cons (.ifs (.isi (.var 1) ["tuple","list"]) (.cons (.ifs (.or (.cons (.not (.isi (.var 0) ["tuple","list"])) (.cons (.cmp .NotEq (.isi (.var 0) ["list"]) (.isi (.var 1) ["list"])) .nil))) (.cons (.ret [] (.c (.bl false))) .nil) .nil) (.cons (.ifs (.cmp .NotEq (.bi "len" (.cons (.var 0) .nil)) (.bi "len" (.cons (.var 1) .nil))) (.cons (.ret [] (.c (.bl false))) .nil) .nil) (.cons (.ret [] (.cmp .Eq (.lc (.var 2) (.v 2) (.rng (.cons (.bi "len" (.cons (.var 1) .nil)) .nil)) (.so (.not (.call 2 (.cons (.ix (.var 0) (.var 2)) (.cons (.ix (.var 1) (.var 2)) .nil))))) [2]) (.lst .nil))) .nil))) .nil) (.cons (.ifs (.or (.cons (.cmp .Is (.var 1) (.c .non)) (.cons (.isi (.var 1) ["str"]) .nil))) (.cons (.ret [] (.and (.cons (.cmp .Eq (.var 0) (.var 1)) (.cons (.cmp .Eq (.isi (.var 0) ["str"]) (.isi (.var 1) ["str"])) .nil)))) .nil) .nil) (.cons (.ret [] (.and (.cons (.isi (.var 0) ["int"]) (.cons (.cmp .Eq (.isi (.var 0) ["bool"]) (.isi (.var 1) ["bool"])) (.cons (.cmp .Eq (.var 0) (.var 1)) .nil))))) .nil)))
abbrev st3 : Stmt := top 16
abbrev N3 : List Str := ["number", "value", "named", "e", "kinds", "field"]
def ir3 : Ss := (.cons (.try_ [] (.cons (.ifs (.cmp .Eq (.var 0) (.c (.int 0))) (.cons (.rais "BadNumber" ["value"] (.cons (.var 1) .nil)) .nil) .nil) (.cons (.ifs (.cmp .Eq (.var 0) (.c (.int 1))) (.cons (.rais "BadName" ["value"] (.cons (.var 1) .nil)) .nil) .nil) (.cons (.ifs (.cmp .Eq (.var 0) (.c (.int 2))) (.cons (.rais "BadItem" ["index"] (.cons (.var 1) .nil)) .nil) .nil) (.cons (.ifs (.cmp .Eq (.var 0) (.c (.int 3))) (.cons (.rais "BadEvent" ["value"] (.cons (.var 1) .nil)) .nil) .nil) (.cons (.ifs (.cmp .Eq (.var 0) (.c (.int 4))) (.cons (.rais "BadNote" ["line"] (.cons (.var 1) .nil)) .nil) .nil) (.cons (.ifs (.cmp .Eq (.var 0) (.c (.int 5))) (.cons (.rais "TooMany" ["limit"] (.cons (.var 1) .nil)) .nil) .nil) (.cons (.ifs (.cmp .Eq (.var 0) (.c (.int 6))) (.cons (.rais "Unknown" ["value"] (.cons (.var 1) .nil)) .nil) .nil) (.cons (.ifs (.cmp .Eq (.var 0) (.c (.int 7))) (.cons (.rais "Taken" ["value"] (.cons (.var 1) .nil)) .nil) .nil) (.cons (.ifs (.cmp .Eq (.var 0) (.c (.int 8))) (.cons (.rais "Refused" ["names","reason"] (.cons (.var 1) (.cons (.var 2) .nil))) .nil) .nil) (.cons (.rais "NothingToUndo" [] .nil) .nil)))))))))) (.cons ["BadNumber", "BadName", "BadItem", "BadEvent", "BadNote", "TooMany", "Unknown", "Taken", "Refused", "NothingToUndo"] ["BadNumber", "BadName", "BadItem", "BadEvent", "BadNote", "TooMany", "Unknown", "Taken", "Refused", "NothingToUndo"] (some 3) (.cons (.asg [] (.v 4) (.lst (.cons (.xis 3 ["BadNumber", "BadName", "BadItem", "BadEvent", "BadNote", "TooMany", "Unknown", "Taken", "Refused", "NothingToUndo"] ["BadNumber"]) (.cons (.xis 3 ["BadNumber", "BadName", "BadItem", "BadEvent", "BadNote", "TooMany", "Unknown", "Taken", "Refused", "NothingToUndo"] ["BadName"]) (.cons (.xis 3 ["BadNumber", "BadName", "BadItem", "BadEvent", "BadNote", "TooMany", "Unknown", "Taken", "Refused", "NothingToUndo"] ["BadItem"]) (.cons (.xis 3 ["BadNumber", "BadName", "BadItem", "BadEvent", "BadNote", "TooMany", "Unknown", "Taken", "Refused", "NothingToUndo"] ["BadEvent"]) (.cons (.xis 3 ["BadNumber", "BadName", "BadItem", "BadEvent", "BadNote", "TooMany", "Unknown", "Taken", "Refused", "NothingToUndo"] ["BadNote"]) .nil))))))) (.cons (.asg [] (.v 4) (.bin .Add (.var 4) (.lst (.cons (.xis 3 ["BadNumber", "BadName", "BadItem", "BadEvent", "BadNote", "TooMany", "Unknown", "Taken", "Refused", "NothingToUndo"] ["TooMany"]) (.cons (.xis 3 ["BadNumber", "BadName", "BadItem", "BadEvent", "BadNote", "TooMany", "Unknown", "Taken", "Refused", "NothingToUndo"] ["Unknown"]) (.cons (.xis 3 ["BadNumber", "BadName", "BadItem", "BadEvent", "BadNote", "TooMany", "Unknown", "Taken", "Refused", "NothingToUndo"] ["Taken"]) (.cons (.xis 3 ["BadNumber", "BadName", "BadItem", "BadEvent", "BadNote", "TooMany", "Unknown", "Taken", "Refused", "NothingToUndo"] ["Refused"]) (.cons (.xis 3 ["BadNumber", "BadName", "BadItem", "BadEvent", "BadNote", "TooMany", "Unknown", "Taken", "Refused", "NothingToUndo"] ["NothingToUndo"]) .nil)))))))) (.cons (.ifs (.or (.cons (.not (.xis 3 ["BadNumber", "BadName", "BadItem", "BadEvent", "BadNote", "TooMany", "Unknown", "Taken", "Refused", "NothingToUndo"] ["BadNumber", "BadName", "BadItem", "BadEvent", "BadNote", "TooMany", "Unknown", "Taken", "Refused", "NothingToUndo"])) (.cons (.xis 3 ["BadNumber", "BadName", "BadItem", "BadEvent", "BadNote", "TooMany", "Unknown", "Taken", "Refused", "NothingToUndo"] []) (.cons (.xis 3 ["BadNumber", "BadName", "BadItem", "BadEvent", "BadNote", "TooMany", "Unknown", "Taken", "Refused", "NothingToUndo"] []) .nil)))) (.cons (.ret [] (.c .non)) .nil) .nil) (.cons (.asg [] (.v 5) (.c .non)) (.cons (.ifs (.cmp .In (.var 0) (.lst (.cons (.c (.int 0)) (.cons (.c (.int 1)) (.cons (.c (.int 3)) (.cons (.c (.int 6)) (.cons (.c (.int 7)) .nil))))))) (.cons (.asg [] (.v 5) (.xf 3 ["BadNumber", "BadName", "BadItem", "BadEvent", "BadNote", "TooMany", "Unknown", "Taken", "Refused", "NothingToUndo"] "value")) .nil) .nil) (.cons (.ifs (.cmp .Eq (.var 0) (.c (.int 2))) (.cons (.asg [] (.v 5) (.xf 3 ["BadNumber", "BadName", "BadItem", "BadEvent", "BadNote", "TooMany", "Unknown", "Taken", "Refused", "NothingToUndo"] "index")) .nil) .nil) (.cons (.ifs (.cmp .Eq (.var 0) (.c (.int 4))) (.cons (.asg [] (.v 5) (.xf 3 ["BadNumber", "BadName", "BadItem", "BadEvent", "BadNote", "TooMany", "Unknown", "Taken", "Refused", "NothingToUndo"] "line")) .nil) .nil) (.cons (.ifs (.cmp .Eq (.var 0) (.c (.int 5))) (.cons (.asg [] (.v 5) (.xf 3 ["BadNumber", "BadName", "BadItem", "BadEvent", "BadNote", "TooMany", "Unknown", "Taken", "Refused", "NothingToUndo"] "limit")) .nil) .nil) (.cons (.ifs (.cmp .Eq (.var 0) (.c (.int 8))) (.cons (.asg [] (.v 5) (.tup (.cons (.xf 3 ["BadNumber", "BadName", "BadItem", "BadEvent", "BadNote", "TooMany", "Unknown", "Taken", "Refused", "NothingToUndo"] "reason") (.cons (.xf 3 ["BadNumber", "BadName", "BadItem", "BadEvent", "BadNote", "TooMany", "Unknown", "Taken", "Refused", "NothingToUndo"] "names") .nil)))) .nil) .nil) (.cons (.ret [] (.tup (.cons (.var 4) (.cons (.var 5) .nil)))) .nil)))))))))) .nil)) .nil)
abbrev st4 : Stmt := top 17
abbrev N4 : List Str := ["script", "row", "number", "value", "named", "told", "due", "made", "k"]
def ir4 : Ss := (.cons (.obj 1 (.lst (.cons (.var 0) (.cons (.c (.int 0)) (.cons (.c (.int 71)) (.cons (.c (.int 0)) .nil)))))) (.cons (.for_ [] (.v 2) (.rng (.cons (.c (.int 10)) .nil)) (.cons (.asg [] (.v 3) (.call 1 (.cons (.var 1) (.cons (.lst (.cons (.c .non) (.cons (.c (.int 7)) (.cons (.c (.str "x")) (.cons (.tup (.cons (.c (.int 1)) (.cons (.c (.int 2)) .nil))) (.cons (.c (.bl true)) (.cons (.call 0 (.cons (.var 1) (.cons (.bin .Pow (.c (.int 10)) (.c (.int 9))) .nil))) .nil))))))) .nil)))) (.cons (.asg [] (.v 4) (.call 1 (.cons (.var 1) (.cons (.lst (.cons (.tup .nil) (.cons (.tup (.cons (.c (.str "a")) .nil)) .nil))) .nil)))) (.cons (.asg [] (.v 5) (.call 3 (.cons (.var 2) (.cons (.var 3) (.cons (.var 4) .nil))))) (.cons (.ifs (.or (.cons (.cmp .Is (.var 5) (.c .non)) (.cons (.cmp .NotEq (.ix (.var 5) (.c (.int 0))) (.lc (.cmp .Eq (.var 8) (.var 2)) (.v 8) (.rng (.cons (.c (.int 10)) .nil)) .no [8])) .nil))) (.cons (.ret [] (.c (.bl false))) .nil) .nil) (.cons (.asg [] (.v 6) (.var 3)) (.cons (.ifs (.cmp .Eq (.var 2) (.c (.int 8))) (.cons (.asg [] (.v 6) (.tup (.cons (.var 3) (.cons (.var 4) .nil)))) .nil) .nil) (.cons (.ifs (.and (.cons (.cmp .Lt (.var 2) (.c (.int 9))) (.cons (.or (.cons (.cmp .NotEq (.ix (.var 5) (.c (.int 1))) (.var 6)) (.cons (.cmp .NotEq (.isi (.ix (.var 5) (.c (.int 1))) ["bool"]) (.isi (.var 6) ["bool"])) .nil))) .nil))) (.cons (.ret [] (.c (.bl false))) .nil) .nil) .nil)))))))) (.cons (.asg [] (.v 7) (.lst (.cons (.xkw "BadNumber" ["value"] (.cons (.c (.int 1)) .nil) "value") (.cons (.xkw "BadName" ["value"] (.cons (.c (.str "a")) .nil) "value") (.cons (.xkw "BadItem" ["index"] (.cons (.c (.int 4)) .nil) "index") (.cons (.xkw "BadEvent" ["value"] (.cons (.c (.int 5)) .nil) "value") (.cons (.xkw "BadNote" ["line"] (.cons (.c (.int 6)) .nil) "line") .nil))))))) (.cons (.asg [] (.v 7) (.bin .Add (.var 7) (.lst (.cons (.xkw "TooMany" ["limit"] (.cons (.c (.int 7)) .nil) "limit") (.cons (.xkw "Unknown" ["value"] (.cons (.c (.int 8)) .nil) "value") (.cons (.xkw "Taken" ["value"] (.cons (.c (.int 9)) .nil) "value") (.cons (.xkw "Refused" ["reason","names"] (.cons (.c (.str "r")) (.cons (.c (.int 11)) .nil)) "names") (.cons (.xkw "Refused" ["names","reason"] (.cons (.c (.int 1)) (.cons (.c (.str "s")) .nil)) "reason") .nil)))))))) (.cons (.ret [] (.call 2 (.cons (.var 7) (.cons (.lst (.cons (.c (.int 1)) (.cons (.c (.str "a")) (.cons (.c (.int 4)) (.cons (.c (.int 5)) (.cons (.c (.int 6)) (.cons (.c (.int 7)) (.cons (.c (.int 8)) (.cons (.c (.int 9)) (.cons (.c (.int 11)) (.cons (.c (.str "s")) .nil))))))))))) .nil)))) .nil)))))
def tab : List FnI := [⟨2, 4, ir0, none⟩, ⟨2, 2, ir1, none⟩, ⟨2, 3, ir2, none⟩, ⟨3, 6, ir3, none⟩, ⟨1, 9, ir4, none⟩]
structure Facts (P : Program) (w : World) (K : PySem.W.Frag) (mg : Str → Option Value) : Prop where
  exm_PawnError : ∀ c ∈ (["BadNumber", "BadName", "BadItem", "BadEvent", "BadNote", "TooMany", "Unknown", "Taken", "Refused", "NothingToUndo"] : List Str), PySem.W.exmOne K (.ref (He.ga K c)) (.ref (He.ga K "PawnError")) = some (decide (c ∈ (["BadNumber", "BadName", "BadItem", "BadEvent", "BadNote", "TooMany", "Unknown", "Taken", "Refused", "NothingToUndo"] : List Str)))
  free_LookupError : mg "LookupError" = none
  free_RuntimeError : mg "RuntimeError" = none
  free_ValueError : mg "ValueError" = none
  free_bool : mg "bool" = none
  free_int : mg "int" = none
  free_isinstance : mg "isinstance" = none
  free_len : mg "len" = none
  free_list : mg "list" = none
  free_range : mg "range" = none
  free_str : mg "str" = none
  free_tuple : mg "tuple" = none
  glo_BadEvent : mg "BadEvent" = some (.ref (He.ga K "BadEvent"))
  glo_BadItem : mg "BadItem" = some (.ref (He.ga K "BadItem"))
  glo_BadName : mg "BadName" = some (.ref (He.ga K "BadName"))
  glo_BadNote : mg "BadNote" = some (.ref (He.ga K "BadNote"))
  glo_BadNumber : mg "BadNumber" = some (.ref (He.ga K "BadNumber"))
  glo_NothingToUndo : mg "NothingToUndo" = some (.ref (He.ga K "NothingToUndo"))
  glo_PawnError : mg "PawnError" = some (.ref (He.ga K "PawnError"))
  glo_Refused : mg "Refused" = some (.ref (He.ga K "Refused"))
  glo_Taken : mg "Taken" = some (.ref (He.ga K "Taken"))
  glo_TooMany : mg "TooMany" = some (.ref (He.ga K "TooMany"))
  glo_Unknown : mg "Unknown" = some (.ref (He.ga K "Unknown"))
  x0_NothingToUndo : Xc0 K mg "NothingToUndo"
  x_BadEvent : XcOk P w K mg "BadEvent" 1 (fun vs => (["value"] : List Str).zip vs.reverse)
  x_BadItem : XcOk P w K mg "BadItem" 1 (fun vs => (["index"] : List Str).zip vs.reverse)
  x_BadName : XcOk P w K mg "BadName" 1 (fun vs => (["value"] : List Str).zip vs.reverse)
  x_BadNote : XcOk P w K mg "BadNote" 1 (fun vs => (["line"] : List Str).zip vs.reverse)
  x_BadNumber : XcOk P w K mg "BadNumber" 1 (fun vs => (["value"] : List Str).zip vs.reverse)
  x_Refused : XcOk P w K mg "Refused" 2 (fun vs => (["names", "reason"] : List Str).zip vs.reverse)
  x_Taken : XcOk P w K mg "Taken" 1 (fun vs => (["value"] : List Str).zip vs.reverse)
  x_TooMany : XcOk P w K mg "TooMany" 1 (fun vs => (["limit"] : List Str).zip vs.reverse)
  x_Unknown : XcOk P w K mg "Unknown" 1 (fun vs => (["value"] : List Str).zip vs.reverse)
  xf_index : ∀ c ∈ (["BadNumber", "BadName", "BadItem", "BadEvent", "BadNote", "TooMany", "Unknown", "Taken", "Refused", "NothingToUndo"] : List Str), XfC K (He.ga K c) ∧ PySem.W.findIn K (.ref (He.ga K c)) "index" = some none
  xf_limit : ∀ c ∈ (["BadNumber", "BadName", "BadItem", "BadEvent", "BadNote", "TooMany", "Unknown", "Taken", "Refused", "NothingToUndo"] : List Str), XfC K (He.ga K c) ∧ PySem.W.findIn K (.ref (He.ga K c)) "limit" = some none
  xf_line : ∀ c ∈ (["BadNumber", "BadName", "BadItem", "BadEvent", "BadNote", "TooMany", "Unknown", "Taken", "Refused", "NothingToUndo"] : List Str), XfC K (He.ga K c) ∧ PySem.W.findIn K (.ref (He.ga K c)) "line" = some none
  xf_names : ∀ c ∈ (["BadNumber", "BadName", "BadItem", "BadEvent", "BadNote", "TooMany", "Unknown", "Taken", "Refused", "NothingToUndo"] : List Str), XfC K (He.ga K c) ∧ PySem.W.findIn K (.ref (He.ga K c)) "names" = some none
  xf_reason : ∀ c ∈ (["BadNumber", "BadName", "BadItem", "BadEvent", "BadNote", "TooMany", "Unknown", "Taken", "Refused", "NothingToUndo"] : List Str), XfC K (He.ga K c) ∧ PySem.W.findIn K (.ref (He.ga K c)) "reason" = some none
  xf_value : ∀ c ∈ (["BadNumber", "BadName", "BadItem", "BadEvent", "BadNote", "TooMany", "Unknown", "Taken", "Refused", "NothingToUndo"] : List Str), XfC K (He.ga K c) ∧ PySem.W.findIn K (.ref (He.ga K c)) "value" = some none
  xis_BadEvent : ∀ c ∈ (["BadNumber", "BadName", "BadItem", "BadEvent", "BadNote", "TooMany", "Unknown", "Taken", "Refused", "NothingToUndo"] : List Str), XisC K (He.ga K c) ∧ PySem.W.kitOne K (.ref (He.ga K c)) (.ref (He.ga K "BadEvent")) = some (decide (c ∈ (["BadEvent"] : List Str)))
  xis_BadItem : ∀ c ∈ (["BadNumber", "BadName", "BadItem", "BadEvent", "BadNote", "TooMany", "Unknown", "Taken", "Refused", "NothingToUndo"] : List Str), XisC K (He.ga K c) ∧ PySem.W.kitOne K (.ref (He.ga K c)) (.ref (He.ga K "BadItem")) = some (decide (c ∈ (["BadItem"] : List Str)))
  xis_BadName : ∀ c ∈ (["BadNumber", "BadName", "BadItem", "BadEvent", "BadNote", "TooMany", "Unknown", "Taken", "Refused", "NothingToUndo"] : List Str), XisC K (He.ga K c) ∧ PySem.W.kitOne K (.ref (He.ga K c)) (.ref (He.ga K "BadName")) = some (decide (c ∈ (["BadName"] : List Str)))
  xis_BadNote : ∀ c ∈ (["BadNumber", "BadName", "BadItem", "BadEvent", "BadNote", "TooMany", "Unknown", "Taken", "Refused", "NothingToUndo"] : List Str), XisC K (He.ga K c) ∧ PySem.W.kitOne K (.ref (He.ga K c)) (.ref (He.ga K "BadNote")) = some (decide (c ∈ (["BadNote"] : List Str)))
  xis_BadNumber : ∀ c ∈ (["BadNumber", "BadName", "BadItem", "BadEvent", "BadNote", "TooMany", "Unknown", "Taken", "Refused", "NothingToUndo"] : List Str), XisC K (He.ga K c) ∧ PySem.W.kitOne K (.ref (He.ga K c)) (.ref (He.ga K "BadNumber")) = some (decide (c ∈ (["BadNumber"] : List Str)))
  xis_LookupError : ∀ c ∈ (["BadNumber", "BadName", "BadItem", "BadEvent", "BadNote", "TooMany", "Unknown", "Taken", "Refused", "NothingToUndo"] : List Str), XisC K (He.ga K c) ∧ PySem.W.kitOne K (.ref (He.ga K c)) (.type "LookupError") = some (decide (c ∈ ([] : List Str)))
  xis_NothingToUndo : ∀ c ∈ (["BadNumber", "BadName", "BadItem", "BadEvent", "BadNote", "TooMany", "Unknown", "Taken", "Refused", "NothingToUndo"] : List Str), XisC K (He.ga K c) ∧ PySem.W.kitOne K (.ref (He.ga K c)) (.ref (He.ga K "NothingToUndo")) = some (decide (c ∈ (["NothingToUndo"] : List Str)))
  xis_Refused : ∀ c ∈ (["BadNumber", "BadName", "BadItem", "BadEvent", "BadNote", "TooMany", "Unknown", "Taken", "Refused", "NothingToUndo"] : List Str), XisC K (He.ga K c) ∧ PySem.W.kitOne K (.ref (He.ga K c)) (.ref (He.ga K "Refused")) = some (decide (c ∈ (["Refused"] : List Str)))
  xis_RuntimeError : ∀ c ∈ (["BadNumber", "BadName", "BadItem", "BadEvent", "BadNote", "TooMany", "Unknown", "Taken", "Refused", "NothingToUndo"] : List Str), XisC K (He.ga K c) ∧ PySem.W.kitOne K (.ref (He.ga K c)) (.type "RuntimeError") = some (decide (c ∈ ([] : List Str)))
  xis_Taken : ∀ c ∈ (["BadNumber", "BadName", "BadItem", "BadEvent", "BadNote", "TooMany", "Unknown", "Taken", "Refused", "NothingToUndo"] : List Str), XisC K (He.ga K c) ∧ PySem.W.kitOne K (.ref (He.ga K c)) (.ref (He.ga K "Taken")) = some (decide (c ∈ (["Taken"] : List Str)))
  xis_TooMany : ∀ c ∈ (["BadNumber", "BadName", "BadItem", "BadEvent", "BadNote", "TooMany", "Unknown", "Taken", "Refused", "NothingToUndo"] : List Str), XisC K (He.ga K c) ∧ PySem.W.kitOne K (.ref (He.ga K c)) (.ref (He.ga K "TooMany")) = some (decide (c ∈ (["TooMany"] : List Str)))
  xis_Unknown : ∀ c ∈ (["BadNumber", "BadName", "BadItem", "BadEvent", "BadNote", "TooMany", "Unknown", "Taken", "Refused", "NothingToUndo"] : List Str), XisC K (He.ga K c) ∧ PySem.W.kitOne K (.ref (He.ga K c)) (.ref (He.ga K "Unknown")) = some (decide (c ∈ (["Unknown"] : List Str)))
  xis_ValueError : ∀ c ∈ (["BadNumber", "BadName", "BadItem", "BadEvent", "BadNote", "TooMany", "Unknown", "Taken", "Refused", "NothingToUndo"] : List Str), XisC K (He.ga K c) ∧ PySem.W.kitOne K (.ref (He.ga K c)) (.type "ValueError") = some (decide (c ∈ (["BadNumber", "BadName", "BadItem", "BadEvent", "BadNote", "TooMany", "Unknown", "Taken", "Refused", "NothingToUndo"] : List Str)))
  xk_BadEvent__value : XkOk P w K mg "BadEvent" ["value"]
  xk_BadItem__index : XkOk P w K mg "BadItem" ["index"]
  xk_BadName__value : XkOk P w K mg "BadName" ["value"]
  xk_BadNote__line : XkOk P w K mg "BadNote" ["line"]
  xk_BadNumber__value : XkOk P w K mg "BadNumber" ["value"]
  xk_Refused__names__reason : XkOk P w K mg "Refused" ["names", "reason"]
  xk_Refused__reason__names : XkOk P w K mg "Refused" ["reason", "names"]
  xk_Taken__value : XkOk P w K mg "Taken" ["value"]
  xk_TooMany__limit : XkOk P w K mg "TooMany" ["limit"]
  xk_Unknown__value : XkOk P w K mg "Unknown" ["value"]
structure TabOk (P : Program) (w : World) (K : PySem.W.Frag) (mg : Str → Option Value) (base : Heap) (n : Nat) : Prop where
  d0 : DefOk P w K mg base (2 * n) (callN tab n) "_law_taken" 0
  d1 : DefOk P w K mg base (2 * n) (callN tab n) "_law_pick" 1
  d2 : DefOk P w K mg base (2 * n) (callN tab n) "_law_alike" 2
  d3 : DefOk P w K mg base (2 * n) (callN tab n) "_law_raised" 3
  d4 : DefOk P w K mg base (2 * n) (callN tab n) "law" 4
section
variable {P : Program} {w : World} {K : PySem.W.Frag} {mg : Str → Option Value} {base : Heap} {n : Nat}
theorem body0 (G : Facts P w K mg) (T : TabOk P w K mg base n) {qual : Str} {f : Addr} (cdv : Value) (A : Around) (outer : List PySem.Env) (s : Shared) (H : Hp) (E : XK) (W : WW) (hsv : W.sv = false) (hx : W.x = none) (tk : Takes (cxOf (L2.CX P w) P w K mg base N0 qual (defScope st0) f cdv A outer s H E) W) (hr : Room (2 * n + 1) (A.deeper (envOfC qual (defScope st0) s.heap.objs.size f cdv))) :
    PSs (cxOf (L2.CX P w) P w K mg base N0 qual (defScope st0) f cdv A outer s H E) (defBody st0) (tSs K W (callN tab n) ir0) := by
  have ND : List.Nodup (cxOf (L2.CX P w) P w K mg base N0 qual (defScope st0) f cdv A outer s H E).N := (by decide : List.Nodup N0)
  have hpo : PassesOwn (model P w) (cxOf (L2.CX P w) P w K mg base N0 qual (defScope st0) f cdv A outer s H E).A (cxOf (L2.CX P w) P w K mg base N0 qual (defScope st0) f cdv A outer s H E).env (cxOf (L2.CX P w) P w K mg base N0 qual (defScope st0) f cdv A outer s H E).xe := passes_of rfl
  have hu := hu65 hr
  have hu1q := hu1 hr
  have hu64q := hu64 hr
  exact (ss_cons (.inl hsv) (ss_if (s_cmpT hu (q_bor (s_ix hu1q (s_varB rfl (by first | exact .inl rfl | exact .inr (.inl rfl) | exact .inr (.inr rfl)) (by decide) (by decide)) k_int rfl) rfl) (q_bor k_int rfl) rfl) (ss_cons (.inl hsv) (ss_set (.inr rfl) ND rfl (by first | exact .inl rfl | exact .inr rfl) (q_D (s_bin (q_bor (q_D (s_biT bi_int rfl G.free_int (by decide +kernel) (b_cons (q_bor (s_ix hu1q (s_varB rfl (by first | exact .inl rfl | exact .inr (.inl rfl) | exact .inr (.inr rfl)) (by decide) (by decide)) k_int rfl) rfl) b_nil rfl) rfl rfl (by decide) (by decide))) rfl) (s_varB rfl (by first | exact .inl rfl | exact .inr (.inl rfl) | exact .inr (.inr rfl)) (by decide) (by decide)))) rfl (by first | exact .inl rfl | exact .inr rfl)) (ss_cons (.inl hsv) (ss_setI hu1q hsv rfl (by first | exact .inl rfl | exact .inr (.inl rfl) | exact .inr (.inr rfl)) (by decide) (by decide) k_int (q_D (s_bin (q_bor (s_ix hu1q (s_varB rfl (by first | exact .inl rfl | exact .inr (.inl rfl) | exact .inr (.inr rfl)) (by decide) (by decide)) k_int rfl) rfl) (s_varB rfl (by first | exact .inl rfl | exact .inr (.inl rfl) | exact .inr (.inr rfl)) (by decide) (by decide)))) rfl rfl rfl (fun _ => rfl)) (ss_cons (.inl hsv) (ss_ret (.inr rfl) (s_var rfl (by first | exact .inl rfl | exact .inr (.inl rfl) | exact .inr (.inr rfl)) (by decide) (by decide))) ss_nil))) ss_nil) (ss_cons (.inl hsv) (ss_setI hu1q hsv rfl (by first | exact .inl rfl | exact .inr (.inl rfl) | exact .inr (.inr rfl)) (by decide) (by decide) k_int (q_D (s_bin (q_bor (s_ix hu1q (s_varB rfl (by first | exact .inl rfl | exact .inr (.inl rfl) | exact .inr (.inr rfl)) (by decide) (by decide)) k_int rfl) rfl) (q_bor k_int rfl))) rfl rfl rfl (fun _ => rfl)) (ss_cons (.inl hsv) (ss_if (s_cmpT hu (q_bor (s_ix hu1q (s_varB rfl (by first | exact .inl rfl | exact .inr (.inl rfl) | exact .inr (.inr rfl)) (by decide) (by decide)) k_int rfl) rfl) (q_bor (q_D (s_bi bi_len rfl G.free_len (by decide +kernel) (b_cons (q_bor (s_ix hu1q (s_varB rfl (by first | exact .inl rfl | exact .inr (.inl rfl) | exact .inr (.inr rfl)) (by decide) (by decide)) k_int rfl) rfl) b_nil rfl) rfl rfl (by decide) (by decide))) rfl) rfl) (ss_cons (.inl hsv) (ss_setI hu1q hsv rfl (by first | exact .inl rfl | exact .inr (.inl rfl) | exact .inr (.inr rfl)) (by decide) (by decide) k_int (q_D (s_bin (q_bor (q_D (s_biT bi_int rfl G.free_int (by decide +kernel) (b_cons (q_bor (q_D (s_bin (q_bor (q_D (s_bin (q_bor (s_ix hu1q (s_varB rfl (by first | exact .inl rfl | exact .inr (.inl rfl) | exact .inr (.inr rfl)) (by decide) (by decide)) k_int rfl) rfl) (q_bor k_int rfl))) rfl) (q_bor k_int rfl))) rfl) b_nil rfl) rfl rfl (by decide) (by decide))) rfl) (q_bor k_int rfl))) rfl rfl rfl (fun _ => rfl)) (ss_cons (.inl hsv) (ss_ret (.inr rfl) (q_D (s_bin (q_bor (q_D (s_biT bi_int rfl G.free_int (by decide +kernel) (b_cons (q_bor (q_D (s_bin (q_bor (s_ix hu1q (s_varB rfl (by first | exact .inl rfl | exact .inr (.inl rfl) | exact .inr (.inr rfl)) (by decide) (by decide)) k_int rfl) rfl) (q_bor k_int rfl))) rfl) b_nil rfl) rfl rfl (by decide) (by decide))) rfl) (s_varB rfl (by first | exact .inl rfl | exact .inr (.inl rfl) | exact .inr (.inr rfl)) (by decide) (by decide))))) ss_nil)) ss_nil) (ss_cons (.inl hsv) (ss_set (.inr rfl) ND rfl (by first | exact .inl rfl | exact .inr rfl) (s_ix hu1q (q_bor (s_ix hu1q (s_varB rfl (by first | exact .inl rfl | exact .inr (.inl rfl) | exact .inr (.inr rfl)) (by decide) (by decide)) k_int rfl) rfl) (q_D (s_bin (q_bor (s_ix hu1q (s_varB rfl (by first | exact .inl rfl | exact .inr (.inl rfl) | exact .inr (.inr rfl)) (by decide) (by decide)) k_int rfl) rfl) (q_bor k_int rfl))) rfl) rfl (by first | exact .inl rfl | exact .inr rfl)) (ss_cons (.inl hsv) (ss_setI hu1q hsv rfl (by first | exact .inl rfl | exact .inr (.inl rfl) | exact .inr (.inr rfl)) (by decide) (by decide) k_int (q_D (s_bin (q_bor (q_D (s_biT bi_int rfl G.free_int (by decide +kernel) (b_cons (q_bor (q_D (s_bin (q_bor (q_D (s_bin (q_bor (q_D (s_bin (q_bor (s_ix hu1q (s_varB rfl (by first | exact .inl rfl | exact .inr (.inl rfl) | exact .inr (.inr rfl)) (by decide) (by decide)) k_int rfl) rfl) (q_bor k_int rfl))) rfl) (s_varB rfl (by first | exact .inl rfl | exact .inr (.inl rfl) | exact .inr (.inr rfl)) (by decide) (by decide)))) rfl) (q_bor k_int rfl))) rfl) b_nil rfl) rfl rfl (by decide) (by decide))) rfl) (q_bor k_int rfl))) rfl rfl rfl (fun _ => rfl)) (ss_cons (.inl hsv) (ss_if (s_cmpT hu (s_varB rfl (by first | exact .inl rfl | exact .inr (.inl rfl) | exact .inr (.inr rfl)) (by decide) (by decide)) (q_bor (q_D (s_bin (q_bor k_int rfl) (q_bor k_int rfl))) rfl) rfl) (ss_cons (.inl hsv) (ss_setI hu1q hsv rfl (by first | exact .inl rfl | exact .inr (.inl rfl) | exact .inr (.inr rfl)) (by decide) (by decide) k_int (q_D (s_bin (s_varB rfl (by first | exact .inl rfl | exact .inr (.inl rfl) | exact .inr (.inr rfl)) (by decide) (by decide)) (s_varB rfl (by first | exact .inl rfl | exact .inr (.inl rfl) | exact .inr (.inr rfl)) (by decide) (by decide)))) rfl rfl rfl (fun _ => rfl)) ss_nil) ss_nil) (ss_cons (.inl hsv) (ss_ret (.inr rfl) (q_D (s_bin (q_bor (q_D (s_biT bi_int rfl G.free_int (by decide +kernel) (b_cons (s_varB rfl (by first | exact .inl rfl | exact .inr (.inl rfl) | exact .inr (.inr rfl)) (by decide) (by decide)) b_nil rfl) rfl rfl (by decide) (by decide))) rfl) (s_varB rfl (by first | exact .inl rfl | exact .inr (.inl rfl) | exact .inr (.inr rfl)) (by decide) (by decide))))) ss_nil)))))))
theorem body1 (G : Facts P w K mg) (T : TabOk P w K mg base n) {qual : Str} {f : Addr} (cdv : Value) (A : Around) (outer : List PySem.Env) (s : Shared) (H : Hp) (E : XK) (W : WW) (hsv : W.sv = false) (hx : W.x = none) (tk : Takes (cxOf (L2.CX P w) P w K mg base N1 qual (defScope st1) f cdv A outer s H E) W) (hr : Room (2 * n + 1) (A.deeper (envOfC qual (defScope st1) s.heap.objs.size f cdv))) :
    PSs (cxOf (L2.CX P w) P w K mg base N1 qual (defScope st1) f cdv A outer s H E) (defBody st1) (tSs K W (callN tab n) ir1) := by
  have ND : List.Nodup (cxOf (L2.CX P w) P w K mg base N1 qual (defScope st1) f cdv A outer s H E).N := (by decide : List.Nodup N1)
  have hpo : PassesOwn (model P w) (cxOf (L2.CX P w) P w K mg base N1 qual (defScope st1) f cdv A outer s H E).A (cxOf (L2.CX P w) P w K mg base N1 qual (defScope st1) f cdv A outer s H E).env (cxOf (L2.CX P w) P w K mg base N1 qual (defScope st1) f cdv A outer s H E).xe := passes_of rfl
  have hu := hu65 hr
  have hu1q := hu1 hr
  have hu64q := hu64 hr
  exact (ss_cons (.inl hsv) (ss_ret (.inr rfl) (s_ix hu1q (s_varB rfl (by first | exact .inl rfl | exact .inr (.inl rfl) | exact .inr (.inr rfl)) (by decide) (by decide)) (s_call T.d0 (hr.mono (Nat.le_succ _)) rfl tk (s_cons (s_var rfl (by first | exact .inl rfl | exact .inr (.inl rfl) | exact .inr (.inr rfl)) (by decide) (by decide)) (s_cons (q_D (s_bi bi_len rfl G.free_len (by decide +kernel) (b_cons (s_varB rfl (by first | exact .inl rfl | exact .inr (.inl rfl) | exact .inr (.inr rfl)) (by decide) (by decide)) b_nil rfl) rfl rfl (by decide) (by decide))) s_nil rfl) rfl) rfl rfl (by decide)) rfl)) ss_nil)
theorem body2 (G : Facts P w K mg) (T : TabOk P w K mg base n) {qual : Str} {f : Addr} (cdv : Value) (A : Around) (outer : List PySem.Env) (s : Shared) (H : Hp) (E : XK) (W : WW) (hsv : W.sv = false) (hx : W.x = none) (tk : Takes (cxOf (L2.CX P w) P w K mg base N2 qual (defScope st2) f cdv A outer s H E) W) (hr : Room (2 * n + 1) (A.deeper (envOfC qual (defScope st2) s.heap.objs.size f cdv))) :
    PSs (cxOf (L2.CX P w) P w K mg base N2 qual (defScope st2) f cdv A outer s H E) (defBody st2) (tSs K W (callN tab n) ir2) := by
  have ND : List.Nodup (cxOf (L2.CX P w) P w K mg base N2 qual (defScope st2) f cdv A outer s H E).N := (by decide : List.Nodup N2)
  have hpo : PassesOwn (model P w) (cxOf (L2.CX P w) P w K mg base N2 qual (defScope st2) f cdv A outer s H E).A (cxOf (L2.CX P w) P w K mg base N2 qual (defScope st2) f cdv A outer s H E).env (cxOf (L2.CX P w) P w K mg base N2 qual (defScope st2) f cdv A outer s H E).xe := passes_of rfl
  have hu := hu65 hr
  have hu1q := hu1 hr
  have hu64q := hu64 hr
  exact (ss_cons (.inl hsv) (ss_if (q_truth (s_isiT rfl G.free_isinstance (s_varB rfl (by first | exact .inl rfl | exact .inr (.inl rfl) | exact .inr (.inr rfl)) (by decide) (by decide)) rfl (.cons (q_ty rfl G.free_tuple (by decide +kernel) (by decide) (by decide)) rfl (.cons (q_ty rfl G.free_list (by decide +kernel) (by decide) (by decide)) rfl .nil)) (by decide) (by decide)) rfl fun _ => rfl) (ss_cons (.inl hsv) (ss_if (PW.pt (w_or (s_notT (q_truth (s_isiT rfl G.free_isinstance (s_varB rfl (by first | exact .inl rfl | exact .inr (.inl rfl) | exact .inr (.inr rfl)) (by decide) (by decide)) rfl (.cons (q_ty rfl G.free_tuple (by decide +kernel) (by decide) (by decide)) rfl (.cons (q_ty rfl G.free_list (by decide +kernel) (by decide) (by decide)) rfl .nil)) (by decide) (by decide)) rfl fun _ => rfl)) (w_or1 (s_cmpT hu (q_bor (s_isi rfl G.free_isinstance (s_varB rfl (by first | exact .inl rfl | exact .inr (.inl rfl) | exact .inr (.inr rfl)) (by decide) (by decide)) rfl (q_ty rfl G.free_list (by decide +kernel) (by decide) (by decide)) rfl (by decide)) rfl) (q_bor (s_isi rfl G.free_isinstance (s_varB rfl (by first | exact .inl rfl | exact .inr (.inl rfl) | exact .inr (.inr rfl)) (by decide) (by decide)) rfl (q_ty rfl G.free_list (by decide +kernel) (by decide) (by decide)) rfl (by decide)) rfl) rfl)))) (ss_cons (.inl hsv) (ss_ret (.inr rfl) k_bl) ss_nil) ss_nil) (ss_cons (.inl hsv) (ss_if (s_cmpT hu (q_bor (q_D (s_bi bi_len rfl G.free_len (by decide +kernel) (b_cons (s_varB rfl (by first | exact .inl rfl | exact .inr (.inl rfl) | exact .inr (.inr rfl)) (by decide) (by decide)) b_nil rfl) rfl rfl (by decide) (by decide))) rfl) (q_bor (q_D (s_bi bi_len rfl G.free_len (by decide +kernel) (b_cons (s_varB rfl (by first | exact .inl rfl | exact .inr (.inl rfl) | exact .inr (.inr rfl)) (by decide) (by decide)) b_nil rfl) rfl rfl (by decide) (by decide))) rfl) rfl) (ss_cons (.inl hsv) (ss_ret (.inr rfl) k_bl) ss_nil) ss_nil) (ss_cons (.inl hsv) (ss_ret (.inr rfl) (s_cmp hu (q_bor (q_D (s_lc rfl ND (q_rngB (q_rng1 rfl G.free_range (q_D (s_bi bi_len rfl G.free_len (by decide +kernel) (b_cons (s_varB rfl (by first | exact .inl rfl | exact .inr (.inl rfl) | exact .inr (.inr rfl)) (by decide) (by decide)) b_nil rfl) rfl rfl (by decide) (by decide))) rfl)) (own := [("k",2)]) rfl rfl (by decide) ⟨fun s H c cl fp => (g_v ND rfl (by first | exact .inl rfl | exact .inr rfl) (by first | exact .inl rfl | exact .inr rfl)), (fun s H c cl fp => (if_one (s_notT (q_truth (s_call T.d2 (hr.mono (Nat.le_succ _)) rfl takes_no (s_cons (s_ix hu1q (s_varB rfl (by first | exact .inl rfl | exact .inr (.inl rfl) | exact .inr (.inr rfl)) (by decide) (by decide)) (s_var rfl (by first | exact .inl rfl | exact .inr (.inl rfl) | exact .inr (.inr rfl)) (by decide) (by decide)) rfl) (s_cons (s_ix hu1q (s_varB rfl (by first | exact .inl rfl | exact .inr (.inl rfl) | exact .inr (.inr rfl)) (by decide) (by decide)) (s_var rfl (by first | exact .inl rfl | exact .inr (.inl rfl) | exact .inr (.inr rfl)) (by decide) (by decide)) rfl) s_nil rfl) rfl) rfl rfl (by decide)) rfl fun _ => rfl)))), (fun s H c cl fp => (s_var rfl (by first | exact .inl rfl | exact .inr (.inl rfl) | exact .inr (.inr rfl)) (by decide) (by decide)))⟩ (fun _ => rfl))) rfl) (q_bor (q_D (s_lst s_nil)) rfl) rfl)) ss_nil))) ss_nil) (ss_cons (.inl hsv) (ss_if (PW.pt (w_or (s_cmpT hu (s_varB rfl (by first | exact .inl rfl | exact .inr (.inl rfl) | exact .inr (.inr rfl)) (by decide) (by decide)) (q_bor k_non rfl) rfl) (w_or1 (q_truth (s_isi rfl G.free_isinstance (s_varB rfl (by first | exact .inl rfl | exact .inr (.inl rfl) | exact .inr (.inr rfl)) (by decide) (by decide)) rfl (q_ty rfl G.free_str (by decide +kernel) (by decide) (by decide)) rfl (by decide)) rfl fun _ => rfl)))) (ss_cons (.inl hsv) (ss_ret (.inr rfl) (s_and (s_cmp hu (s_varB rfl (by first | exact .inl rfl | exact .inr (.inl rfl) | exact .inr (.inr rfl)) (by decide) (by decide)) (s_varB rfl (by first | exact .inl rfl | exact .inr (.inl rfl) | exact .inr (.inr rfl)) (by decide) (by decide)) rfl) (q_and1 (s_cmp hu (q_bor (s_isi rfl G.free_isinstance (s_varB rfl (by first | exact .inl rfl | exact .inr (.inl rfl) | exact .inr (.inr rfl)) (by decide) (by decide)) rfl (q_ty rfl G.free_str (by decide +kernel) (by decide) (by decide)) rfl (by decide)) rfl) (q_bor (s_isi rfl G.free_isinstance (s_varB rfl (by first | exact .inl rfl | exact .inr (.inl rfl) | exact .inr (.inr rfl)) (by decide) (by decide)) rfl (q_ty rfl G.free_str (by decide +kernel) (by decide) (by decide)) rfl (by decide)) rfl) rfl)))) ss_nil) ss_nil) (ss_cons (.inl hsv) (ss_ret (.inr rfl) (s_and (s_isi rfl G.free_isinstance (s_varB rfl (by first | exact .inl rfl | exact .inr (.inl rfl) | exact .inr (.inr rfl)) (by decide) (by decide)) rfl (q_ty rfl G.free_int (by decide +kernel) (by decide) (by decide)) rfl (by decide)) (s_and (s_cmp hu (q_bor (s_isi rfl G.free_isinstance (s_varB rfl (by first | exact .inl rfl | exact .inr (.inl rfl) | exact .inr (.inr rfl)) (by decide) (by decide)) rfl (q_ty rfl G.free_bool (by decide +kernel) (by decide) (by decide)) rfl (by decide)) rfl) (q_bor (s_isi rfl G.free_isinstance (s_varB rfl (by first | exact .inl rfl | exact .inr (.inl rfl) | exact .inr (.inr rfl)) (by decide) (by decide)) rfl (q_ty rfl G.free_bool (by decide +kernel) (by decide) (by decide)) rfl (by decide)) rfl) rfl) (q_and1 (s_cmp hu (s_varB rfl (by first | exact .inl rfl | exact .inr (.inl rfl) | exact .inr (.inr rfl)) (by decide) (by decide)) (s_varB rfl (by first | exact .inl rfl | exact .inr (.inl rfl) | exact .inr (.inr rfl)) (by decide) (by decide)) rfl))))) ss_nil)))
theorem body3 (G : Facts P w K mg) (T : TabOk P w K mg base n) {qual : Str} {f : Addr} (cdv : Value) (A : Around) (outer : List PySem.Env) (s : Shared) (H : Hp) (E : XK) (W : WW) (hsv : W.sv = false) (hx : W.x = none) (tk : Takes (cxOf (L2.CX P w) P w K mg base N3 qual (defScope st3) f cdv A outer s H E) W) (hr : Room (2 * n + 1) (A.deeper (envOfC qual (defScope st3) s.heap.objs.size f cdv))) :
    PSs (cxOf (L2.CX P w) P w K mg base N3 qual (defScope st3) f cdv A outer s H E) (defBody st3) (tSs K W (callN tab n) ir3) := by
  have ND : List.Nodup (cxOf (L2.CX P w) P w K mg base N3 qual (defScope st3) f cdv A outer s H E).N := (by decide : List.Nodup N3)
  have hpo : PassesOwn (model P w) (cxOf (L2.CX P w) P w K mg base N3 qual (defScope st3) f cdv A outer s H E).A (cxOf (L2.CX P w) P w K mg base N3 qual (defScope st3) f cdv A outer s H E).env (cxOf (L2.CX P w) P w K mg base N3 qual (defScope st3) f cdv A outer s H E).xe := passes_of rfl
  have hu := hu65 hr
  have hu1q := hu1 hr
  have hu64q := hu64 hr
  exact (ss_cons (.inl hsv) (ss_try1 hx hsv rfl rfl ND rfl rfl ⟨rfl, rfl, .inl G.glo_PawnError⟩ tk G.exm_PawnError (fun W1 pn xe tk hpo => (ss_cons (.inr (still_ok _ rfl)) (ss_if (s_cmpT hu (s_varB rfl (by first | exact .inl rfl | exact .inr (.inl rfl) | exact .inr (.inr rfl)) (by decide) (by decide)) (q_bor k_int rfl) rfl) (ss_cons (.inr (still_ok _ rfl)) (ss_rais rfl tk G.x_BadNumber hr rfl (s_cons (s_var rfl (by first | exact .inl rfl | exact .inr (.inl rfl) | exact .inr (.inr rfl)) (by decide) (by decide)) s_nil rfl) rfl rfl (by decide)) ss_nil) ss_nil) (ss_cons (.inr (still_ok _ rfl)) (ss_if (s_cmpT hu (s_varB rfl (by first | exact .inl rfl | exact .inr (.inl rfl) | exact .inr (.inr rfl)) (by decide) (by decide)) (q_bor k_int rfl) rfl) (ss_cons (.inr (still_ok _ rfl)) (ss_rais rfl tk G.x_BadName hr rfl (s_cons (s_var rfl (by first | exact .inl rfl | exact .inr (.inl rfl) | exact .inr (.inr rfl)) (by decide) (by decide)) s_nil rfl) rfl rfl (by decide)) ss_nil) ss_nil) (ss_cons (.inr (still_ok _ rfl)) (ss_if (s_cmpT hu (s_varB rfl (by first | exact .inl rfl | exact .inr (.inl rfl) | exact .inr (.inr rfl)) (by decide) (by decide)) (q_bor k_int rfl) rfl) (ss_cons (.inr (still_ok _ rfl)) (ss_rais rfl tk G.x_BadItem hr rfl (s_cons (s_var rfl (by first | exact .inl rfl | exact .inr (.inl rfl) | exact .inr (.inr rfl)) (by decide) (by decide)) s_nil rfl) rfl rfl (by decide)) ss_nil) ss_nil) (ss_cons (.inr (still_ok _ rfl)) (ss_if (s_cmpT hu (s_varB rfl (by first | exact .inl rfl | exact .inr (.inl rfl) | exact .inr (.inr rfl)) (by decide) (by decide)) (q_bor k_int rfl) rfl) (ss_cons (.inr (still_ok _ rfl)) (ss_rais rfl tk G.x_BadEvent hr rfl (s_cons (s_var rfl (by first | exact .inl rfl | exact .inr (.inl rfl) | exact .inr (.inr rfl)) (by decide) (by decide)) s_nil rfl) rfl rfl (by decide)) ss_nil) ss_nil) (ss_cons (.inr (still_ok _ rfl)) (ss_if (s_cmpT hu (s_varB rfl (by first | exact .inl rfl | exact .inr (.inl rfl) | exact .inr (.inr rfl)) (by decide) (by decide)) (q_bor k_int rfl) rfl) (ss_cons (.inr (still_ok _ rfl)) (ss_rais rfl tk G.x_BadNote hr rfl (s_cons (s_var rfl (by first | exact .inl rfl | exact .inr (.inl rfl) | exact .inr (.inr rfl)) (by decide) (by decide)) s_nil rfl) rfl rfl (by decide)) ss_nil) ss_nil) (ss_cons (.inr (still_ok _ rfl)) (ss_if (s_cmpT hu (s_varB rfl (by first | exact .inl rfl | exact .inr (.inl rfl) | exact .inr (.inr rfl)) (by decide) (by decide)) (q_bor k_int rfl) rfl) (ss_cons (.inr (still_ok _ rfl)) (ss_rais rfl tk G.x_TooMany hr rfl (s_cons (s_var rfl (by first | exact .inl rfl | exact .inr (.inl rfl) | exact .inr (.inr rfl)) (by decide) (by decide)) s_nil rfl) rfl rfl (by decide)) ss_nil) ss_nil) (ss_cons (.inr (still_ok _ rfl)) (ss_if (s_cmpT hu (s_varB rfl (by first | exact .inl rfl | exact .inr (.inl rfl) | exact .inr (.inr rfl)) (by decide) (by decide)) (q_bor k_int rfl) rfl) (ss_cons (.inr (still_ok _ rfl)) (ss_rais rfl tk G.x_Unknown hr rfl (s_cons (s_var rfl (by first | exact .inl rfl | exact .inr (.inl rfl) | exact .inr (.inr rfl)) (by decide) (by decide)) s_nil rfl) rfl rfl (by decide)) ss_nil) ss_nil) (ss_cons (.inr (still_ok _ rfl)) (ss_if (s_cmpT hu (s_varB rfl (by first | exact .inl rfl | exact .inr (.inl rfl) | exact .inr (.inr rfl)) (by decide) (by decide)) (q_bor k_int rfl) rfl) (ss_cons (.inr (still_ok _ rfl)) (ss_rais rfl tk G.x_Taken hr rfl (s_cons (s_var rfl (by first | exact .inl rfl | exact .inr (.inl rfl) | exact .inr (.inr rfl)) (by decide) (by decide)) s_nil rfl) rfl rfl (by decide)) ss_nil) ss_nil) (ss_cons (.inr (still_ok _ rfl)) (ss_if (s_cmpT hu (s_varB rfl (by first | exact .inl rfl | exact .inr (.inl rfl) | exact .inr (.inr rfl)) (by decide) (by decide)) (q_bor k_int rfl) rfl) (ss_cons (.inr (still_ok _ rfl)) (ss_rais rfl tk G.x_Refused hr rfl (s_cons (s_var rfl (by first | exact .inl rfl | exact .inr (.inl rfl) | exact .inr (.inr rfl)) (by decide) (by decide)) (s_cons (s_var rfl (by first | exact .inl rfl | exact .inr (.inl rfl) | exact .inr (.inr rfl)) (by decide) (by decide)) s_nil rfl) rfl) rfl rfl (by decide)) ss_nil) ss_nil) (ss_cons (.inr (still_ok _ rfl)) (ss_rais0 rfl tk G.x0_NothingToUndo rfl (by decide)) ss_nil))))))))))) (fun a oe cls d pn hz hf => (ss_cons (.inl rfl) (ss_set (.inr rfl) ND rfl (by first | exact .inl rfl | exact .inr rfl) (q_D (s_lst (s_cons (s_xis hz hf rfl G.free_isinstance rfl (by first | exact .inl rfl | exact .inr (.inl rfl) | exact .inr (.inr rfl)) (by decide) (by decide) (q_gl rfl G.glo_BadNumber (by decide)) rfl (.own _) G.xis_BadNumber) (s_cons (s_xis hz hf rfl G.free_isinstance rfl (by first | exact .inl rfl | exact .inr (.inl rfl) | exact .inr (.inr rfl)) (by decide) (by decide) (q_gl rfl G.glo_BadName (by decide)) rfl (.own _) G.xis_BadName) (s_cons (s_xis hz hf rfl G.free_isinstance rfl (by first | exact .inl rfl | exact .inr (.inl rfl) | exact .inr (.inr rfl)) (by decide) (by decide) (q_gl rfl G.glo_BadItem (by decide)) rfl (.own _) G.xis_BadItem) (s_cons (s_xis hz hf rfl G.free_isinstance rfl (by first | exact .inl rfl | exact .inr (.inl rfl) | exact .inr (.inr rfl)) (by decide) (by decide) (q_gl rfl G.glo_BadEvent (by decide)) rfl (.own _) G.xis_BadEvent) (s_cons (s_xis hz hf rfl G.free_isinstance rfl (by first | exact .inl rfl | exact .inr (.inl rfl) | exact .inr (.inr rfl)) (by decide) (by decide) (q_gl rfl G.glo_BadNote (by decide)) rfl (.own _) G.xis_BadNote) s_nil rfl) rfl) rfl) rfl) rfl))) rfl (by first | exact .inl rfl | exact .inr rfl)) (ss_cons (.inl rfl) (ss_set (.inr rfl) ND rfl (by first | exact .inl rfl | exact .inr rfl) (q_D (s_bin (s_varB rfl (by first | exact .inl rfl | exact .inr (.inl rfl) | exact .inr (.inr rfl)) (by decide) (by decide)) (q_bor (q_D (s_lst (s_cons (s_xis hz hf rfl G.free_isinstance rfl (by first | exact .inl rfl | exact .inr (.inl rfl) | exact .inr (.inr rfl)) (by decide) (by decide) (q_gl rfl G.glo_TooMany (by decide)) rfl (.own _) G.xis_TooMany) (s_cons (s_xis hz hf rfl G.free_isinstance rfl (by first | exact .inl rfl | exact .inr (.inl rfl) | exact .inr (.inr rfl)) (by decide) (by decide) (q_gl rfl G.glo_Unknown (by decide)) rfl (.own _) G.xis_Unknown) (s_cons (s_xis hz hf rfl G.free_isinstance rfl (by first | exact .inl rfl | exact .inr (.inl rfl) | exact .inr (.inr rfl)) (by decide) (by decide) (q_gl rfl G.glo_Taken (by decide)) rfl (.own _) G.xis_Taken) (s_cons (s_xis hz hf rfl G.free_isinstance rfl (by first | exact .inl rfl | exact .inr (.inl rfl) | exact .inr (.inr rfl)) (by decide) (by decide) (q_gl rfl G.glo_Refused (by decide)) rfl (.own _) G.xis_Refused) (s_cons (s_xis hz hf rfl G.free_isinstance rfl (by first | exact .inl rfl | exact .inr (.inl rfl) | exact .inr (.inr rfl)) (by decide) (by decide) (q_gl rfl G.glo_NothingToUndo (by decide)) rfl (.own _) G.xis_NothingToUndo) s_nil rfl) rfl) rfl) rfl) rfl))) rfl))) rfl (by first | exact .inl rfl | exact .inr rfl)) (ss_cons (.inl rfl) (ss_if (PW.pt (w_or (s_notT (q_truth (s_xis hz hf rfl G.free_isinstance rfl (by first | exact .inl rfl | exact .inr (.inl rfl) | exact .inr (.inr rfl)) (by decide) (by decide) (q_ty rfl G.free_ValueError (by decide +kernel) (by decide) (by decide)) rfl (.ty _) G.xis_ValueError) rfl fun _ => rfl)) (w_or (q_truth (s_xis hz hf rfl G.free_isinstance rfl (by first | exact .inl rfl | exact .inr (.inl rfl) | exact .inr (.inr rfl)) (by decide) (by decide) (q_ty rfl G.free_LookupError (by decide +kernel) (by decide) (by decide)) rfl (.ty _) G.xis_LookupError) rfl fun _ => rfl) (w_or1 (q_truth (s_xis hz hf rfl G.free_isinstance rfl (by first | exact .inl rfl | exact .inr (.inl rfl) | exact .inr (.inr rfl)) (by decide) (by decide) (q_ty rfl G.free_RuntimeError (by decide +kernel) (by decide) (by decide)) rfl (.ty _) G.xis_RuntimeError) rfl fun _ => rfl))))) (ss_cons (.inl rfl) (ss_ret (.inr rfl) k_non) ss_nil) ss_nil) (ss_cons (.inl rfl) (ss_set (.inr rfl) ND rfl (by first | exact .inl rfl | exact .inr rfl) k_non rfl (by first | exact .inl rfl | exact .inr rfl)) (ss_cons (.inl rfl) (ss_if (s_cmpT hu (s_varB rfl (by first | exact .inl rfl | exact .inr (.inl rfl) | exact .inr (.inr rfl)) (by decide) (by decide)) (q_bor (q_D (s_lst (s_cons k_int (s_cons k_int (s_cons k_int (s_cons k_int (s_cons k_int s_nil rfl) rfl) rfl) rfl) rfl))) rfl) rfl) (ss_cons (.inl rfl) (ss_set (.inr rfl) ND rfl (by first | exact .inl rfl | exact .inr rfl) (s_xf hz hf rfl (by first | exact .inl rfl | exact .inr (.inl rfl) | exact .inr (.inr rfl)) (by decide) (by decide) G.xf_value rfl) rfl (by first | exact .inl rfl | exact .inr rfl)) ss_nil) ss_nil) (ss_cons (.inl rfl) (ss_if (s_cmpT hu (s_varB rfl (by first | exact .inl rfl | exact .inr (.inl rfl) | exact .inr (.inr rfl)) (by decide) (by decide)) (q_bor k_int rfl) rfl) (ss_cons (.inl rfl) (ss_set (.inr rfl) ND rfl (by first | exact .inl rfl | exact .inr rfl) (s_xf hz hf rfl (by first | exact .inl rfl | exact .inr (.inl rfl) | exact .inr (.inr rfl)) (by decide) (by decide) G.xf_index rfl) rfl (by first | exact .inl rfl | exact .inr rfl)) ss_nil) ss_nil) (ss_cons (.inl rfl) (ss_if (s_cmpT hu (s_varB rfl (by first | exact .inl rfl | exact .inr (.inl rfl) | exact .inr (.inr rfl)) (by decide) (by decide)) (q_bor k_int rfl) rfl) (ss_cons (.inl rfl) (ss_set (.inr rfl) ND rfl (by first | exact .inl rfl | exact .inr rfl) (s_xf hz hf rfl (by first | exact .inl rfl | exact .inr (.inl rfl) | exact .inr (.inr rfl)) (by decide) (by decide) G.xf_line rfl) rfl (by first | exact .inl rfl | exact .inr rfl)) ss_nil) ss_nil) (ss_cons (.inl rfl) (ss_if (s_cmpT hu (s_varB rfl (by first | exact .inl rfl | exact .inr (.inl rfl) | exact .inr (.inr rfl)) (by decide) (by decide)) (q_bor k_int rfl) rfl) (ss_cons (.inl rfl) (ss_set (.inr rfl) ND rfl (by first | exact .inl rfl | exact .inr rfl) (s_xf hz hf rfl (by first | exact .inl rfl | exact .inr (.inl rfl) | exact .inr (.inr rfl)) (by decide) (by decide) G.xf_limit rfl) rfl (by first | exact .inl rfl | exact .inr rfl)) ss_nil) ss_nil) (ss_cons (.inl rfl) (ss_if (s_cmpT hu (s_varB rfl (by first | exact .inl rfl | exact .inr (.inl rfl) | exact .inr (.inr rfl)) (by decide) (by decide)) (q_bor k_int rfl) rfl) (ss_cons (.inl rfl) (ss_set (.inr rfl) ND rfl (by first | exact .inl rfl | exact .inr rfl) (s_tup (s_cons (s_xf hz hf rfl (by first | exact .inl rfl | exact .inr (.inl rfl) | exact .inr (.inr rfl)) (by decide) (by decide) G.xf_reason rfl) (s_cons (s_xf hz hf rfl (by first | exact .inl rfl | exact .inr (.inl rfl) | exact .inr (.inr rfl)) (by decide) (by decide) G.xf_names rfl) s_nil rfl) rfl)) rfl (by first | exact .inl rfl | exact .inr rfl)) ss_nil) ss_nil) (ss_cons (.inl rfl) (ss_ret (.inr rfl) (s_tup (s_cons (s_var rfl (by first | exact .inl rfl | exact .inr (.inl rfl) | exact .inr (.inr rfl)) (by decide) (by decide)) (s_cons (s_var rfl (by first | exact .inl rfl | exact .inr (.inl rfl) | exact .inr (.inr rfl)) (by decide) (by decide)) s_nil rfl) rfl))) ss_nil)))))))))))) ss_nil)
theorem body4 (G : Facts P w K mg) (T : TabOk P w K mg base n) {qual : Str} {f : Addr} (cdv : Value) (A : Around) (outer : List PySem.Env) (s : Shared) (H : Hp) (E : XK) (W : WW) (hsv : W.sv = false) (hx : W.x = none) (tk : Takes (cxOf (L2.CX P w) P w K mg base N4 qual (defScope st4) f cdv A outer s H E) W) (hr : Room (2 * n + 1) (A.deeper (envOfC qual (defScope st4) s.heap.objs.size f cdv))) :
    PSs (cxOf (L2.CX P w) P w K mg base N4 qual (defScope st4) f cdv A outer s H E) (defBody st4) (tSs K W (callN tab n) ir4) := by
  have ND : List.Nodup (cxOf (L2.CX P w) P w K mg base N4 qual (defScope st4) f cdv A outer s H E).N := (by decide : List.Nodup N4)
  have hpo : PassesOwn (model P w) (cxOf (L2.CX P w) P w K mg base N4 qual (defScope st4) f cdv A outer s H E).A (cxOf (L2.CX P w) P w K mg base N4 qual (defScope st4) f cdv A outer s H E).env (cxOf (L2.CX P w) P w K mg base N4 qual (defScope st4) f cdv A outer s H E).xe := passes_of rfl
  have hu := hu65 hr
  have hu1q := hu1 hr
  have hu64q := hu64 hr
  exact (ss_cons (.inl hsv) (ss_obj ND rfl (by first | exact .inl rfl | exact .inr rfl) (s_lst (s_cons (s_var rfl (by first | exact .inl rfl | exact .inr (.inl rfl) | exact .inr (.inr rfl)) (by decide) (by decide)) (s_cons k_int (s_cons k_int (s_cons k_int s_nil rfl) rfl) rfl) rfl)) rfl (by first | exact .inl rfl | exact .inr rfl)) (ss_cons (.inl hsv) (ss_for hsv hpo rfl (q_rng1 rfl G.free_range k_int rfl) (g_v ND rfl (by first | exact .inl rfl | exact .inr rfl) (by first | exact .inl rfl | exact .inr rfl)) (ss_cons (.inl hsv) (ss_set (.inr rfl) ND rfl (by first | exact .inl rfl | exact .inr rfl) (s_call T.d1 (hr.mono (Nat.le_succ _)) rfl tk (s_cons (s_var rfl (by first | exact .inl rfl | exact .inr (.inl rfl) | exact .inr (.inr rfl)) (by decide) (by decide)) (s_cons (q_D (s_lst (s_cons k_non (s_cons k_int (s_cons k_str (s_cons (s_tup (s_cons k_int (s_cons k_int s_nil rfl) rfl)) (s_cons k_bl (s_cons (s_call T.d0 (hr.mono (Nat.le_succ _)) rfl tk (s_cons (s_var rfl (by first | exact .inl rfl | exact .inr (.inl rfl) | exact .inr (.inr rfl)) (by decide) (by decide)) (s_cons (q_D (s_bin (q_bor k_int rfl) (q_bor k_int rfl))) s_nil rfl) rfl) rfl rfl (by decide)) s_nil rfl) rfl) rfl) rfl) rfl) rfl))) s_nil rfl) rfl) rfl rfl (by decide)) rfl (by first | exact .inl rfl | exact .inr rfl)) (ss_cons (.inl hsv) (ss_set (.inr rfl) ND rfl (by first | exact .inl rfl | exact .inr rfl) (s_call T.d1 (hr.mono (Nat.le_succ _)) rfl tk (s_cons (s_var rfl (by first | exact .inl rfl | exact .inr (.inl rfl) | exact .inr (.inr rfl)) (by decide) (by decide)) (s_cons (q_D (s_lst (s_cons (s_tup s_nil) (s_cons (s_tup (s_cons k_str s_nil rfl)) s_nil rfl) rfl))) s_nil rfl) rfl) rfl rfl (by decide)) rfl (by first | exact .inl rfl | exact .inr rfl)) (ss_cons (.inl hsv) (ss_set (.inr rfl) ND rfl (by first | exact .inl rfl | exact .inr rfl) (s_call T.d3 (hr.mono (Nat.le_succ _)) rfl tk (s_cons (s_var rfl (by first | exact .inl rfl | exact .inr (.inl rfl) | exact .inr (.inr rfl)) (by decide) (by decide)) (s_cons (s_var rfl (by first | exact .inl rfl | exact .inr (.inl rfl) | exact .inr (.inr rfl)) (by decide) (by decide)) (s_cons (s_var rfl (by first | exact .inl rfl | exact .inr (.inl rfl) | exact .inr (.inr rfl)) (by decide) (by decide)) s_nil rfl) rfl) rfl) rfl rfl (by decide)) rfl (by first | exact .inl rfl | exact .inr rfl)) (ss_cons (.inl hsv) (ss_if (PW.pt (w_or (s_cmpT hu (s_varB rfl (by first | exact .inl rfl | exact .inr (.inl rfl) | exact .inr (.inr rfl)) (by decide) (by decide)) (q_bor k_non rfl) rfl) (w_or1 (s_cmpT hu (q_bor (s_ix hu1q (s_varB rfl (by first | exact .inl rfl | exact .inr (.inl rfl) | exact .inr (.inr rfl)) (by decide) (by decide)) k_int rfl) rfl) (q_bor (q_D (s_lc rfl ND (q_rngB (q_rng1 rfl G.free_range k_int rfl)) (own := [("k",8)]) rfl rfl (by decide) ⟨fun s H c cl fp => (g_v ND rfl (by first | exact .inl rfl | exact .inr rfl) (by first | exact .inl rfl | exact .inr rfl)), (fun s H c cl fp => if_none), (fun s H c cl fp => (s_cmp hu (s_varB rfl (by first | exact .inl rfl | exact .inr (.inl rfl) | exact .inr (.inr rfl)) (by decide) (by decide)) (s_varB rfl (by first | exact .inl rfl | exact .inr (.inl rfl) | exact .inr (.inr rfl)) (by decide) (by decide)) rfl))⟩ (fun _ => rfl))) rfl) rfl)))) (ss_cons (.inl hsv) (ss_ret (.inr rfl) k_bl) ss_nil) ss_nil) (ss_cons (.inl hsv) (ss_set (.inr rfl) ND rfl (by first | exact .inl rfl | exact .inr rfl) (s_var rfl (by first | exact .inl rfl | exact .inr (.inl rfl) | exact .inr (.inr rfl)) (by decide) (by decide)) rfl (by first | exact .inl rfl | exact .inr rfl)) (ss_cons (.inl hsv) (ss_if (s_cmpT hu (s_varB rfl (by first | exact .inl rfl | exact .inr (.inl rfl) | exact .inr (.inr rfl)) (by decide) (by decide)) (q_bor k_int rfl) rfl) (ss_cons (.inl hsv) (ss_set (.inr rfl) ND rfl (by first | exact .inl rfl | exact .inr rfl) (s_tup (s_cons (s_var rfl (by first | exact .inl rfl | exact .inr (.inl rfl) | exact .inr (.inr rfl)) (by decide) (by decide)) (s_cons (s_var rfl (by first | exact .inl rfl | exact .inr (.inl rfl) | exact .inr (.inr rfl)) (by decide) (by decide)) s_nil rfl) rfl)) rfl (by first | exact .inl rfl | exact .inr rfl)) ss_nil) ss_nil) (ss_cons (.inl hsv) (ss_if (PW.pt (w_and (s_cmpT hu (s_varB rfl (by first | exact .inl rfl | exact .inr (.inl rfl) | exact .inr (.inr rfl)) (by decide) (by decide)) (q_bor k_int rfl) rfl) (w_and1 (PW.pt (w_or (s_cmpT hu (q_bor (s_ix hu1q (s_varB rfl (by first | exact .inl rfl | exact .inr (.inl rfl) | exact .inr (.inr rfl)) (by decide) (by decide)) k_int rfl) rfl) (s_varB rfl (by first | exact .inl rfl | exact .inr (.inl rfl) | exact .inr (.inr rfl)) (by decide) (by decide)) rfl) (w_or1 (s_cmpT hu (q_bor (s_isi rfl G.free_isinstance (q_bor (s_ix hu1q (s_varB rfl (by first | exact .inl rfl | exact .inr (.inl rfl) | exact .inr (.inr rfl)) (by decide) (by decide)) k_int rfl) rfl) rfl (q_ty rfl G.free_bool (by decide +kernel) (by decide) (by decide)) rfl (by decide)) rfl) (q_bor (s_isi rfl G.free_isinstance (s_varB rfl (by first | exact .inl rfl | exact .inr (.inl rfl) | exact .inr (.inr rfl)) (by decide) (by decide)) rfl (q_ty rfl G.free_bool (by decide +kernel) (by decide) (by decide)) rfl (by decide)) rfl) rfl))))))) (ss_cons (.inl hsv) (ss_ret (.inr rfl) k_bl) ss_nil) ss_nil) ss_nil))))))) (fun _ => rfl)) (ss_cons (.inl hsv) (ss_set (.inr rfl) ND rfl (by first | exact .inl rfl | exact .inr rfl) (q_D (s_lst (s_cons (s_xkw G.xk_BadNumber__value (G.xf_value "BadNumber" (by decide)) hr rfl (k_cons k_int k_nil) (by decide) rfl rfl rfl rfl) (s_cons (s_xkw G.xk_BadName__value (G.xf_value "BadName" (by decide)) hr rfl (k_cons k_str k_nil) (by decide) rfl rfl rfl rfl) (s_cons (s_xkw G.xk_BadItem__index (G.xf_index "BadItem" (by decide)) hr rfl (k_cons k_int k_nil) (by decide) rfl rfl rfl rfl) (s_cons (s_xkw G.xk_BadEvent__value (G.xf_value "BadEvent" (by decide)) hr rfl (k_cons k_int k_nil) (by decide) rfl rfl rfl rfl) (s_cons (s_xkw G.xk_BadNote__line (G.xf_line "BadNote" (by decide)) hr rfl (k_cons k_int k_nil) (by decide) rfl rfl rfl rfl) s_nil rfl) rfl) rfl) rfl) rfl))) rfl (by first | exact .inl rfl | exact .inr rfl)) (ss_cons (.inl hsv) (ss_set (.inr rfl) ND rfl (by first | exact .inl rfl | exact .inr rfl) (q_D (s_bin (s_varB rfl (by first | exact .inl rfl | exact .inr (.inl rfl) | exact .inr (.inr rfl)) (by decide) (by decide)) (q_bor (q_D (s_lst (s_cons (s_xkw G.xk_TooMany__limit (G.xf_limit "TooMany" (by decide)) hr rfl (k_cons k_int k_nil) (by decide) rfl rfl rfl rfl) (s_cons (s_xkw G.xk_Unknown__value (G.xf_value "Unknown" (by decide)) hr rfl (k_cons k_int k_nil) (by decide) rfl rfl rfl rfl) (s_cons (s_xkw G.xk_Taken__value (G.xf_value "Taken" (by decide)) hr rfl (k_cons k_int k_nil) (by decide) rfl rfl rfl rfl) (s_cons (s_xkw G.xk_Refused__reason__names (G.xf_names "Refused" (by decide)) hr rfl (k_cons k_str (k_cons k_int k_nil)) (by decide) rfl rfl rfl rfl) (s_cons (s_xkw G.xk_Refused__names__reason (G.xf_reason "Refused" (by decide)) hr rfl (k_cons k_int (k_cons k_str k_nil)) (by decide) rfl rfl rfl rfl) s_nil rfl) rfl) rfl) rfl) rfl))) rfl))) rfl (by first | exact .inl rfl | exact .inr rfl)) (ss_cons (.inl hsv) (ss_ret (.inr rfl) (s_call T.d2 (hr.mono (Nat.le_succ _)) rfl tk (s_cons (s_var rfl (by first | exact .inl rfl | exact .inr (.inl rfl) | exact .inr (.inr rfl)) (by decide) (by decide)) (s_cons (q_D (s_lst (s_cons k_int (s_cons k_str (s_cons k_int (s_cons k_int (s_cons k_int (s_cons k_int (s_cons k_int (s_cons k_int (s_cons k_int (s_cons k_str s_nil rfl) rfl) rfl) rfl) rfl) rfl) rfl) rfl) rfl) rfl))) s_nil rfl) rfl) rfl rfl (by decide))) ss_nil)))))
end
end Eng
set_option Elab.async false
set_option linter.all false
set_option maxRecDepth 100000
set_option maxHeartbeats 1000000
namespace Eng
open PySem PySem.Spec L2
theorem forGo_inv {turn : D → Env → Store → Out Fl} (I : Env → Store → Prop) : ∀ (ds : List D), (∀ d ∈ ds, ∀ env st, I env st → ∃ env' st', turn d env st = .ok (.nx env') st' ∧ I env' st') → ∀ env st, I env st → ∃ env' st', forGo turn ds env st = .ok (.nx env') st' ∧ I env' st'
  | [], _, env, st, i => ⟨env, st, rfl, i⟩
  | d :: ds, h, env, st, i => by
    obtain ⟨env1, st1, e1, i1⟩ := h d List.mem_cons_self env st i
    obtain ⟨env2, st2, e2, i2⟩ := forGo_inv I ds (fun d hd => h d (List.mem_cons_of_mem _ hd)) env1 st1 i1
    refine ⟨env2, st2, ?_, i2⟩
    show (turn d env st).bnd _ = _
    rw [e1]
    exact e2
/-- the law's row of draws -/
def St (ns : List Int) (st : Store) : Prop := ∃ a b c : Int, 0 ≤ a ∧ st = [.lst [.scr ns, .int a, .int b, .int c]]
theorem taken {ns : List Int} {st : Store} (h : St ns st) (n : Nat) (m : Int) (m0 : 0 < m) (m1 : m < 1073741824) : ∃ v st', callN tab (n + 1) 0 [.obj 0, .int m] st = .ok (.int v) st' ∧ St ns st' ∧ 0 ≤ v ∧ v < m := by
  obtain ⟨a, b, c, ha, rfl⟩ := h
  have e : callN tab (n + 1) 0 [.obj 0, .int m] [.lst [.scr ns, .int a, .int b, .int c]] = endD (evSs (callN tab n) ir0 [.val (.obj 0), .val (.int m), .no, .no] [.lst [.scr ns, .int a, .int b, .int c]]) := rfl
  rw [e]
  by_cases hc : 0 < c
  · refine ⟨c.fmod m, [.lst [.scr ns, .int a, .int b, .int (c.fdiv m)]], ?_, ⟨a, b, _, ha, rfl⟩, ?_, ?_⟩
    · have hm : m ≠ 0 := by omega
      have hm2 : m.natAbs < 1073741824 := by omega
      simp [ir0, evSs, evS, evE, evT, mkV, evP, bor, getV, getB, deref, ixS, atI, cmpD, hc, tst, biD, binD, hm, hm2, freeze, bind1, isPut, setIx, putD, ixN, evEs, evBs, endD, truthD]
    · exact Int.fmod_nonneg_of_pos _ m0
    · exact Int.fmod_lt_of_pos _ m0
  · by_cases hl : (ns.length : Int) < a + 1
    · refine ⟨(((b * 48271 + 11).fmod 2147483647).fdiv 7).fmod m, [.lst [.scr ns, .int (a + 1), .int ((b * 48271 + 11).fmod 2147483647), .int c]], ?_, ⟨a + 1, _, c, by omega, rfl⟩, Int.fmod_nonneg_of_pos _ m0, Int.fmod_lt_of_pos _ m0⟩
      have hm : m ≠ 0 := by omega
      simp [ir0, evSs, evS, evE, evT, mkV, evP, bor, getV, getB, deref, ixS, atI, cmpD, hc, hl, tst, biD, lenD, binD, hm, freeze, bind1, isPut, setIx, putD, ixN, evEs, evBs, endD, truthD]
    · have la : a.toNat < ns.length := by omega
      have ea : ns[a.toNat]? = some ns[a.toNat] := List.getElem?_eq_getElem la
      have hm : m ≠ 0 := by omega
      have hm2 : m.natAbs < 1073741824 := by omega
      have h1 : a + 1 - 1 = a := by omega
      have h2 : a < ns.length := by omega
      by_cases hz : (1000000000000000000 : Int) ≤ ns[a.toNat]
      · refine ⟨(ns[a.toNat]).fmod m, [.lst [.scr ns, .int (a + 1), .int ((b * 48271 + ns[a.toNat] + 11).fmod 2147483647), .int ((ns[a.toNat]).fdiv m)]], ?_, ⟨a + 1, _, _, by omega, rfl⟩, Int.fmod_nonneg_of_pos _ m0, Int.fmod_lt_of_pos _ m0⟩
        simp [ir0, evSs, evS, evE, evT, mkV, evP, bor, getV, getB, deref, ixS, atI, cmpD, hc, hl, ha, h1, h2, ea, hz, tst, biD, lenD, binD, hm, hm2, freeze, bind1, isPut, setIx, putD, ixN, evEs, evBs, endD, truthD]
      · refine ⟨(ns[a.toNat]).fmod m, [.lst [.scr ns, .int (a + 1), .int ((b * 48271 + ns[a.toNat] + 11).fmod 2147483647), .int c]], ?_, ⟨a + 1, _, _, by omega, rfl⟩, Int.fmod_nonneg_of_pos _ m0, Int.fmod_lt_of_pos _ m0⟩
        simp [ir0, evSs, evS, evE, evT, mkV, evP, bor, getV, getB, deref, ixS, atI, cmpD, hc, hl, ha, h1, h2, ea, hz, tst, biD, lenD, binD, hm, hm2, freeze, bind1, isPut, setIx, putD, ixN, evEs, evBs, endD, truthD]
theorem pick {ns : List Int} {st : Store} (h : St ns st) (n : Nat) (ds : List D) (m0 : 0 < ds.length) (m1 : ds.length < 1073741824) : ∃ d st', callN tab (n + 2) 1 [.obj 0, .lst ds] st = .ok d st' ∧ St ns st' ∧ d ∈ ds := by
  obtain ⟨v, st', e, h', v0, v1⟩ := taken h n ds.length (by omega) (by omega)
  have lv : v.toNat < ds.length := by omega
  refine ⟨ds[v.toNat], st', ?_, h', List.getElem_mem lv⟩
  show endD (evSs (callN tab (n + 1)) ir1 [.val (.obj 0), .val (.lst ds)] st) = _
  have hv : v < ds.length := v1
  simp [ir1, evSs, evS, evE, evT, mkV, evP, bor, getV, getB, deref, ixS, atI, tst, biD, lenD, freeze, ixN, evEs, evBs, endD, e, v0, hv, List.getElem?_eq_getElem lv]
theorem raised (n : Nat) (v nm : D) (st : Store) : ∀ k < 10, ∃ ds : List D, callN tab (n + 1) 3 [.int (k : Nat), v, nm] st = .ok (.tup [.lst ((List.range 10).map fun (j : Nat) => .bl (decide (j = k))), if k = 8 then .tup [v, nm] else if k = 9 then .non else v]) st := by
  intro k hk
  refine ⟨[], ?_⟩
  show endD (evSs (callN tab n) ir3 [.val (.int (k : Nat)), .val v, .val nm, .no, .no, .no] st) = _
  rcases k with _ | _ | _ | _ | _ | _ | _ | _ | _ | _ | k
  · rfl
  · rfl
  · rfl
  · rfl
  · rfl
  · rfl
  · rfl
  · rfl
  · rfl
  · rfl
  · omega
end Eng
set_option Elab.async false
set_option linter.all false
set_option maxRecDepth 100000
set_option maxHeartbeats 2000000
namespace Eng
open PySem PySem.Spec L2
def hdS : Ss → S
  | .cons s _ => s
  | .nil => .pass
def tlS : Ss → Ss
  | .cons _ r => r
  | .nil => .nil
def bodyS : S → Ss
  | .for_ _ _ _ b => b
  | _ => .nil
theorem evSs_cons {C : Calls} {s : S} {ss : Ss} {env : Env} {st : Store} {env' : Env} {st' : Store} {o : Out Fl} (h : evS C s env st = .ok (.nx env') st') (h2 : evSs C ss env' st' = o) : evSs C (.cons s ss) env st = o := by
  show (evS C s env st).bnd _ = o
  rw [h]
  exact h2
structure Good (d : D) : Prop where
  da : dataD 19 d = true
  eq : eqD d d = true
  eo : eqO d d = some true
  bo : ∃ r, isTys ["bool"] d = some r
theorem good_int (i : Int) : Good (.int i) := ⟨rfl, by simp [eqD], by simp [eqO, scalD, flatD, eqD], ⟨false, rfl⟩⟩
abbrev bdy : Ss := bodyS (hdS (tlS ir4))
abbrev rst : Ss := tlS (tlS (tlS bdy))
abbrev toldOf (k : Nat) (d nm : D) : D := .tup [.lst ((List.range 10).map fun (j : Nat) => .bl (decide (j = k))), if k = 8 then .tup [d, nm] else if k = 9 then .non else d]
/-- the last test of a turn -/
theorem last_ok (C : Calls) (st : Store) (a b nm d0 l x : D) (k : Int) (s7 s8 : Sl) (hk : k < 9) (go : eqO x x = some true) {r : Bool} (hr : isTys ["bool"] x = some r) :
    evS C (hdS (tlS (tlS (tlS rst)))) [.val a, .val b, .val (.int k), .val d0, .val nm, .val (.tup [l, x]), .val x, s7, s8] st = .ok (.nx [.val a, .val b, .val (.int k), .val d0, .val nm, .val (.tup [l, x]), .val x, s7, s8]) st := by
  show evS C (.ifs (.and (.cons (.cmp .Lt (.var 2) (.c (.int 9))) (.cons (.or (.cons (.cmp .NotEq (.ix (.var 5) (.c (.int 1))) (.var 6)) (.cons (.cmp .NotEq (.isi (.ix (.var 5) (.c (.int 1))) ["bool"]) (.isi (.var 6) ["bool"])) .nil))) .nil))) (.cons (.ret [] (.c (.bl false))) .nil) .nil) _ st = _
  have hb : eqO (.bl r) (.bl r) = some true := by cases r <;> rfl
  simp [evS, evSs, evE, evT, mkV, tst, evP, evTAnd, evTOr, bor, getB, getV, cmpD, hk, deref, ixS, atI, ixN, go, hr, hb, truthD]
theorem rest_ok (C : Calls) (st : Store) (a b d nm : D) (s6 s7 s8 : Sl) (g : Good d) (g2 : Good nm) : ∀ k < 10, evSs C rst [.val a, .val b, .val (.int (k : Nat)), .val d, .val nm, .val (toldOf k d nm), s6, s7, s8] st = .ok (.nx [.val a, .val b, .val (.int (k : Nat)), .val d, .val nm, .val (toldOf k d nm), .val (if k = 8 then .tup [d, nm] else d), s7, s8]) st := by
  intro k hk
  obtain ⟨r, hr⟩ := g.bo
  have go := g.eo
  have g8 : eqO (.tup [d, nm]) (.tup [d, nm]) = some true := by
    have e1 : eqD (.tup [d, nm]) (.tup [d, nm]) = true := by
      show (eqD d d && (eqD nm nm && true)) = true
      rw [g.eq, g2.eq]; rfl
    have e2 : dataD 20 (.tup [d, nm]) = true := by
      show (dataD 19 d && (dataD 19 nm && true)) = true
      rw [g.da, g2.da]; rfl
    show (if scalD (.tup [d, nm]) (.tup [d, nm]) = true then some (eqD (.tup [d, nm]) (.tup [d, nm])) else if (dataD 20 (.tup [d, nm]) && dataD 20 (.tup [d, nm])) = true then some (eqD (.tup [d, nm]) (.tup [d, nm])) else none) = some true
    rw [e1, e2]
    rfl
  rcases k with _ | _ | _ | _ | _ | _ | _ | _ | _ | _ | k
  · exact evSs_cons rfl (evSs_cons rfl (evSs_cons rfl (evSs_cons (last_ok C st a b nm d _ d _ s7 s8 (by decide) go hr) rfl)))
  · exact evSs_cons rfl (evSs_cons rfl (evSs_cons rfl (evSs_cons (last_ok C st a b nm d _ d _ s7 s8 (by decide) go hr) rfl)))
  · exact evSs_cons rfl (evSs_cons rfl (evSs_cons rfl (evSs_cons (last_ok C st a b nm d _ d _ s7 s8 (by decide) go hr) rfl)))
  · exact evSs_cons rfl (evSs_cons rfl (evSs_cons rfl (evSs_cons (last_ok C st a b nm d _ d _ s7 s8 (by decide) go hr) rfl)))
  · exact evSs_cons rfl (evSs_cons rfl (evSs_cons rfl (evSs_cons (last_ok C st a b nm d _ d _ s7 s8 (by decide) go hr) rfl)))
  · exact evSs_cons rfl (evSs_cons rfl (evSs_cons rfl (evSs_cons (last_ok C st a b nm d _ d _ s7 s8 (by decide) go hr) rfl)))
  · exact evSs_cons rfl (evSs_cons rfl (evSs_cons rfl (evSs_cons (last_ok C st a b nm d _ d _ s7 s8 (by decide) go hr) rfl)))
  · exact evSs_cons rfl (evSs_cons rfl (evSs_cons rfl (evSs_cons (last_ok C st a b nm d _ d _ s7 s8 (by decide) go hr) rfl)))
  · exact evSs_cons rfl (evSs_cons rfl (evSs_cons rfl (evSs_cons (last_ok C st a b nm d _ (.tup [d, nm]) _ s7 s8 (by decide) g8 (r := false) rfl) rfl)))
  · exact evSs_cons rfl (evSs_cons rfl (evSs_cons rfl rfl))
  · omega
/-- a turn of the loop -/
def Loop (ns : List Int) (env : Env) (st : Store) : Prop := St ns st ∧ ∃ s2 s3 s4 s5 s6 s7 s8, env = [.val (.scr ns), .val (.obj 0), s2, s3, s4, s5, s6, s7, s8]
theorem turn_ok {ns : List Int} (n : Nat) (k : Nat) (hk : k < 10) {env : Env} {st : Store} (h : Loop ns env st) : ∃ env' st', ((ofO (bind1 (.v 2) (.int (0 + (k : Nat))) env) st).bnd fun env' st => evSs (callN tab (n + 2)) bdy env' st) = .ok (.nx env') st' ∧ Loop ns env' st' := by
  obtain ⟨hs, s2, s3, s4, s5, s6, s7, s8, rfl⟩ := h
  obtain ⟨v, st1, e1, h1, _, _⟩ := taken hs (n + 1) 1000000000 (by decide) (by decide)
  obtain ⟨d, st2, e2, h2, m2⟩ := pick h1 n [.non, .int 7, .str "x", .tup [.int 1, .int 2], .bl true, .int v] (by simp) (by simp)
  obtain ⟨nm, st3, e3, h3, m3⟩ := pick h2 n [.tup [], .tup [.str "a"]] (by decide) (by decide)
  have gd : Good d := by
    rcases List.mem_cons.mp m2 with rfl | m2
    · exact ⟨rfl, rfl, rfl, ⟨_, rfl⟩⟩
    rcases List.mem_cons.mp m2 with rfl | m2
    · exact ⟨rfl, rfl, rfl, ⟨_, rfl⟩⟩
    rcases List.mem_cons.mp m2 with rfl | m2
    · exact ⟨by decide +kernel, by decide +kernel, by decide +kernel, ⟨_, rfl⟩⟩
    rcases List.mem_cons.mp m2 with rfl | m2
    · exact ⟨rfl, rfl, rfl, ⟨_, rfl⟩⟩
    rcases List.mem_cons.mp m2 with rfl | m2
    · exact ⟨rfl, rfl, rfl, ⟨_, rfl⟩⟩
    rcases List.mem_cons.mp m2 with rfl | m2
    · exact good_int v
    cases m2
  have gn : Good nm := by
    rcases List.mem_cons.mp m3 with rfl | m3
    · exact ⟨rfl, rfl, by decide +kernel, ⟨_, rfl⟩⟩
    rcases List.mem_cons.mp m3 with rfl | m3
    · exact ⟨by decide +kernel, by decide +kernel, by decide +kernel, ⟨_, rfl⟩⟩
    cases m3
  obtain ⟨_, e4⟩ := raised (n + 1) d nm st3 k hk
  refine ⟨[.val (.scr ns), .val (.obj 0), .val (.int (k : Nat)), .val d, .val nm, .val (toldOf k d nm), .val (if k = 8 then .tup [d, nm] else d), s7, s8], st3, ?_, h3, _, _, _, _, _, _, _, rfl⟩
  · show evSs (callN tab (n + 2)) bdy [.val (.scr ns), .val (.obj 0), .val (.int (0 + (k : Nat))), s3, s4, s5, s6, s7, s8] st = _
    rw [Int.zero_add]
    refine evSs_cons (env' := [.val (.scr ns), .val (.obj 0), .val (.int (k : Nat)), .val d, s4, s5, s6, s7, s8]) (st' := st2) ?_ (evSs_cons (env' := [.val (.scr ns), .val (.obj 0), .val (.int (k : Nat)), .val d, .val nm, s5, s6, s7, s8]) (st' := st3) ?_ (evSs_cons (env' := [.val (.scr ns), .val (.obj 0), .val (.int (k : Nat)), .val d, .val nm, .val (toldOf k d nm), s6, s7, s8]) (st' := st3) ?_ (rest_ok _ st3 _ _ d nm s6 s7 s8 gd gn k hk)))
    · show ((evE (callN tab (n + 2)) _ (.call 1 (.cons (.var 1) (.cons (.lst (.cons (.c .non) (.cons (.c (.int 7)) (.cons (.c (.str "x")) (.cons (.tup (.cons (.c (.int 1)) (.cons (.c (.int 2)) .nil))) (.cons (.c (.bl true)) (.cons (.call 0 (.cons (.var 1) (.cons (.bin .Pow (.c (.int 10)) (.c (.int 9))) .nil))) .nil))))))) .nil))) st).bnd _) = _
      have p9 : (10 : Int) ^ 9 = 1000000000 := by decide
      have z2 : (2 : Nat) ≤ sizeLine := by rw [sizeLine_eq]; omega
      have z6 : (6 : Nat) ≤ sizeLine := by rw [sizeLine_eq]; omega
      simp [evE, mkV, evP, evEs, getV, bor, binD, p9, e1, e2, z2, z6, bind1, freeze]
    · show ((evE (callN tab (n + 2)) _ (.call 1 (.cons (.var 1) (.cons (.lst (.cons (.tup .nil) (.cons (.tup (.cons (.c (.str "a")) .nil)) .nil))) .nil))) st2).bnd _) = _
      have z0 : (0 : Nat) ≤ sizeLine := Nat.zero_le _
      have z1 : (1 : Nat) ≤ sizeLine := by rw [sizeLine_eq]; omega
      have z2 : (2 : Nat) ≤ sizeLine := by rw [sizeLine_eq]; omega
      simp [evE, mkV, evP, evEs, getV, z0, z1, z2, e3, bind1, freeze]
    · show ((evE (callN tab (n + 2)) _ (.call 3 (.cons (.var 2) (.cons (.var 3) (.cons (.var 4) .nil)))) st3).bnd _) = _
      simp [evE, mkV, evP, evEs, getV, e4, bind1, freeze]
theorem law_true (ns : List Int) (n : Nat) : ∃ st, callN tab (n + 3) 4 [.scr ns] [] = .ok (.bl true) st := by
  obtain ⟨env', st', e, hs, s2, s3, s4, s5, s6, s7, s8, rfl⟩ := forGo_inv (turn := fun d env st => (ofO (bind1 (.v 2) d env) st).bnd fun env' st => evSs (callN tab (n + 2)) bdy env' st) (Loop ns) ((List.range 10).map fun (k : Nat) => D.int (0 + k)) (fun d hd env st h => by
    obtain ⟨k, hk, rfl⟩ := List.mem_map.mp hd
    exact turn_ok n k (List.mem_range.mp hk) h) [.val (.scr ns), .val (.obj 0), .no, .no, .no, .no, .no, .no, .no] [.lst [.scr ns, .int 0, .int 71, .int 0]] ⟨⟨0, 71, 0, Int.le_refl _, rfl⟩, _, _, _, _, _, _, _, rfl⟩
  refine ⟨st', ?_⟩
  show endD (evSs (callN tab (n + 2)) ir4 [.val (.scr ns), .no, .no, .no, .no, .no, .no, .no, .no] []) = _
  have r : evSs (callN tab (n + 2)) ir4 [.val (.scr ns), .no, .no, .no, .no, .no, .no, .no, .no] [] = .ok (.rt (.bl true)) st' := by
    refine evSs_cons (env' := [.val (.scr ns), .val (.obj 0), .no, .no, .no, .no, .no, .no, .no]) (st' := [.lst [.scr ns, .int 0, .int 71, .int 0]]) rfl (evSs_cons (env' := [.val (.scr ns), .val (.obj 0), s2, s3, s4, s5, s6, s7, s8]) (st' := st') e ?_)
    rfl
  rw [r]
  rfl
end Eng
set_option Elab.async false
set_option linter.all false
set_option maxRecDepth 100000
set_option maxHeartbeats 0
namespace Eng
open PySem PySem.Spec PyProof.Rows L2

def dd0 : He.DefD := ⟨("_law_taken", none), "_law_taken", "_law_taken", defArgs st0, defBody st0, defScope st0, [], []⟩
def dd1 : He.DefD := ⟨("_law_pick", none), "_law_pick", "_law_pick", defArgs st1, defBody st1, defScope st1, [], []⟩
def dd2 : He.DefD := ⟨("_law_alike", none), "_law_alike", "_law_alike", defArgs st2, defBody st2, defScope st2, [], []⟩
def dd3 : He.DefD := ⟨("_law_raised", none), "_law_raised", "_law_raised", defArgs st3, defBody st3, defScope st3, [], []⟩
def dd4 : He.DefD := ⟨("law", none), "law", "law", defArgs st4, defBody st4, defScope st4, [], []⟩
def fns : List He.DefD := [dd0, dd1, dd2, dd3, dd4]
abbrev sx0 : Stmt := sub (top 2) 0
def xd0 : XcD := ⟨"BadNumber", "BadNumber.__init__", defArgs sx0, defBody sx0, defScope sx0⟩
abbrev sx1 : Stmt := sub (top 3) 0
def xd1 : XcD := ⟨"BadName", "BadName.__init__", defArgs sx1, defBody sx1, defScope sx1⟩
abbrev sx2 : Stmt := sub (top 4) 0
def xd2 : XcD := ⟨"BadItem", "BadItem.__init__", defArgs sx2, defBody sx2, defScope sx2⟩
abbrev sx3 : Stmt := sub (top 5) 0
def xd3 : XcD := ⟨"BadEvent", "BadEvent.__init__", defArgs sx3, defBody sx3, defScope sx3⟩
abbrev sx4 : Stmt := sub (top 6) 0
def xd4 : XcD := ⟨"BadNote", "BadNote.__init__", defArgs sx4, defBody sx4, defScope sx4⟩
abbrev sx5 : Stmt := sub (top 7) 0
def xd5 : XcD := ⟨"TooMany", "TooMany.__init__", defArgs sx5, defBody sx5, defScope sx5⟩
abbrev sx6 : Stmt := sub (top 8) 0
def xd6 : XcD := ⟨"Unknown", "Unknown.__init__", defArgs sx6, defBody sx6, defScope sx6⟩
abbrev sx7 : Stmt := sub (top 9) 0
def xd7 : XcD := ⟨"Taken", "Taken.__init__", defArgs sx7, defBody sx7, defScope sx7⟩
abbrev sx8 : Stmt := sub (top 10) 0
def xd8 : XcD := ⟨"Refused", "Refused.__init__", defArgs sx8, defBody sx8, defScope sx8⟩
def xcs : List XcD := [xd0, xd1, xd2, xd3, xd4, xd5, xd6, xd7, xd8]
abbrev prog : Program := PySem.Challenge.pw_pawnkept_k13_errors
theorem xk0 {w : World} {K : PySem.W.Frag} {h : Heap} {mg : Str → Option Value} (X : K.In h) (Gm : h.Ns mainGlobals mg) (h1 : raiB K "BadNumber" = true) (h2 : supB K prog.main.file "BadNumber" "BadNumber.__init__" = true) (h3 : (He.Fa.free "super").ok K = true) (h4 : decide (PySem.W.findIn K (.ref (He.ga K "BadNumber")) "value" = some none) = true) (e : fnS K "BadNumber" = xd0.val) :
    XcOk prog w K mg "BadNumber" 1 (fun vs => (["value"] : List Str).zip vs.reverse) := by
  obtain ⟨g1, h1⟩ := He.ba h1
  obtain ⟨g2, h1⟩ := He.ba h1
  obtain ⟨g3, g4⟩ := He.ba h1
  refine ⟨fun A R s us hl XK G hroom hq => ?_, He.glo_ok X Gm g1, g2, of_decide_eq_true g3, of_decide_eq_true g4⟩
  obtain ⟨v, rfl⟩ : ∃ v, us = [v] := by
    match us, hl with
    | [v], _ => exact ⟨v, rfl⟩
  obtain ⟨mb, SG⟩ := sup_gnd G (He.free_ok X Gm h3)
  refine made1 (p := "value") (f := "value") (supB_ok (d := xd0) h2 e) ⟨⟨_, rfl, rfl⟩, rfl, rfl, rfl, rfl, rfl, rfl, rfl⟩ ⟨fun L fI cda cc => ⟨_, rfl⟩, fun _ _ _ _ => rfl, fun _ _ _ _ => rfl⟩ rfl (fun _ _ _ _ _ _ _ _ => rfl) (by decide) rfl (by decide) (of_decide_eq_true h4) (fun _ _ _ => rfl) (by decide +kernel) (by decide +kernel) XK SG G.nolimit hroom fun h' tk e d M => hq h' tk e d _ M fun vs r g => ?_
  obtain ⟨x, rfl, rx⟩ : ∃ x, vs = [x] ∧ RelV x v := by
    cases r with
    | cons a b => cases b; exact ⟨_, rfl, a⟩
  exact vals_one rx g
theorem xk1 {w : World} {K : PySem.W.Frag} {h : Heap} {mg : Str → Option Value} (X : K.In h) (Gm : h.Ns mainGlobals mg) (h1 : raiB K "BadName" = true) (h2 : supB K prog.main.file "BadName" "BadName.__init__" = true) (h3 : (He.Fa.free "super").ok K = true) (h4 : decide (PySem.W.findIn K (.ref (He.ga K "BadName")) "value" = some none) = true) (e : fnS K "BadName" = xd1.val) :
    XcOk prog w K mg "BadName" 1 (fun vs => (["value"] : List Str).zip vs.reverse) := by
  obtain ⟨g1, h1⟩ := He.ba h1
  obtain ⟨g2, h1⟩ := He.ba h1
  obtain ⟨g3, g4⟩ := He.ba h1
  refine ⟨fun A R s us hl XK G hroom hq => ?_, He.glo_ok X Gm g1, g2, of_decide_eq_true g3, of_decide_eq_true g4⟩
  obtain ⟨v, rfl⟩ : ∃ v, us = [v] := by
    match us, hl with
    | [v], _ => exact ⟨v, rfl⟩
  obtain ⟨mb, SG⟩ := sup_gnd G (He.free_ok X Gm h3)
  refine made1 (p := "value") (f := "value") (supB_ok (d := xd1) h2 e) ⟨⟨_, rfl, rfl⟩, rfl, rfl, rfl, rfl, rfl, rfl, rfl⟩ ⟨fun L fI cda cc => ⟨_, rfl⟩, fun _ _ _ _ => rfl, fun _ _ _ _ => rfl⟩ rfl (fun _ _ _ _ _ _ _ _ => rfl) (by decide) rfl (by decide) (of_decide_eq_true h4) (fun _ _ _ => rfl) (by decide +kernel) (by decide +kernel) XK SG G.nolimit hroom fun h' tk e d M => hq h' tk e d _ M fun vs r g => ?_
  obtain ⟨x, rfl, rx⟩ : ∃ x, vs = [x] ∧ RelV x v := by
    cases r with
    | cons a b => cases b; exact ⟨_, rfl, a⟩
  exact vals_one rx g
theorem xk2 {w : World} {K : PySem.W.Frag} {h : Heap} {mg : Str → Option Value} (X : K.In h) (Gm : h.Ns mainGlobals mg) (h1 : raiB K "BadItem" = true) (h2 : supB K prog.main.file "BadItem" "BadItem.__init__" = true) (h3 : (He.Fa.free "super").ok K = true) (h4 : decide (PySem.W.findIn K (.ref (He.ga K "BadItem")) "index" = some none) = true) (e : fnS K "BadItem" = xd2.val) :
    XcOk prog w K mg "BadItem" 1 (fun vs => (["index"] : List Str).zip vs.reverse) := by
  obtain ⟨g1, h1⟩ := He.ba h1
  obtain ⟨g2, h1⟩ := He.ba h1
  obtain ⟨g3, g4⟩ := He.ba h1
  refine ⟨fun A R s us hl XK G hroom hq => ?_, He.glo_ok X Gm g1, g2, of_decide_eq_true g3, of_decide_eq_true g4⟩
  obtain ⟨v, rfl⟩ : ∃ v, us = [v] := by
    match us, hl with
    | [v], _ => exact ⟨v, rfl⟩
  obtain ⟨mb, SG⟩ := sup_gnd G (He.free_ok X Gm h3)
  refine made1 (p := "index") (f := "index") (supB_ok (d := xd2) h2 e) ⟨⟨_, rfl, rfl⟩, rfl, rfl, rfl, rfl, rfl, rfl, rfl⟩ ⟨fun L fI cda cc => ⟨_, rfl⟩, fun _ _ _ _ => rfl, fun _ _ _ _ => rfl⟩ rfl (fun _ _ _ _ _ _ _ _ => rfl) (by decide) rfl (by decide) (of_decide_eq_true h4) (fun _ _ _ => rfl) (by decide +kernel) (by decide +kernel) XK SG G.nolimit hroom fun h' tk e d M => hq h' tk e d _ M fun vs r g => ?_
  obtain ⟨x, rfl, rx⟩ : ∃ x, vs = [x] ∧ RelV x v := by
    cases r with
    | cons a b => cases b; exact ⟨_, rfl, a⟩
  exact vals_one rx g
theorem xk3 {w : World} {K : PySem.W.Frag} {h : Heap} {mg : Str → Option Value} (X : K.In h) (Gm : h.Ns mainGlobals mg) (h1 : raiB K "BadEvent" = true) (h2 : supB K prog.main.file "BadEvent" "BadEvent.__init__" = true) (h3 : (He.Fa.free "super").ok K = true) (h4 : decide (PySem.W.findIn K (.ref (He.ga K "BadEvent")) "value" = some none) = true) (e : fnS K "BadEvent" = xd3.val) :
    XcOk prog w K mg "BadEvent" 1 (fun vs => (["value"] : List Str).zip vs.reverse) := by
  obtain ⟨g1, h1⟩ := He.ba h1
  obtain ⟨g2, h1⟩ := He.ba h1
  obtain ⟨g3, g4⟩ := He.ba h1
  refine ⟨fun A R s us hl XK G hroom hq => ?_, He.glo_ok X Gm g1, g2, of_decide_eq_true g3, of_decide_eq_true g4⟩
  obtain ⟨v, rfl⟩ : ∃ v, us = [v] := by
    match us, hl with
    | [v], _ => exact ⟨v, rfl⟩
  obtain ⟨mb, SG⟩ := sup_gnd G (He.free_ok X Gm h3)
  refine made1 (p := "value") (f := "value") (supB_ok (d := xd3) h2 e) ⟨⟨_, rfl, rfl⟩, rfl, rfl, rfl, rfl, rfl, rfl, rfl⟩ ⟨fun L fI cda cc => ⟨_, rfl⟩, fun _ _ _ _ => rfl, fun _ _ _ _ => rfl⟩ rfl (fun _ _ _ _ _ _ _ _ => rfl) (by decide) rfl (by decide) (of_decide_eq_true h4) (fun _ _ _ => rfl) (by decide +kernel) (by decide +kernel) XK SG G.nolimit hroom fun h' tk e d M => hq h' tk e d _ M fun vs r g => ?_
  obtain ⟨x, rfl, rx⟩ : ∃ x, vs = [x] ∧ RelV x v := by
    cases r with
    | cons a b => cases b; exact ⟨_, rfl, a⟩
  exact vals_one rx g
theorem xk4 {w : World} {K : PySem.W.Frag} {h : Heap} {mg : Str → Option Value} (X : K.In h) (Gm : h.Ns mainGlobals mg) (h1 : raiB K "BadNote" = true) (h2 : supB K prog.main.file "BadNote" "BadNote.__init__" = true) (h3 : (He.Fa.free "super").ok K = true) (h4 : decide (PySem.W.findIn K (.ref (He.ga K "BadNote")) "line" = some none) = true) (e : fnS K "BadNote" = xd4.val) :
    XcOk prog w K mg "BadNote" 1 (fun vs => (["line"] : List Str).zip vs.reverse) := by
  obtain ⟨g1, h1⟩ := He.ba h1
  obtain ⟨g2, h1⟩ := He.ba h1
  obtain ⟨g3, g4⟩ := He.ba h1
  refine ⟨fun A R s us hl XK G hroom hq => ?_, He.glo_ok X Gm g1, g2, of_decide_eq_true g3, of_decide_eq_true g4⟩
  obtain ⟨v, rfl⟩ : ∃ v, us = [v] := by
    match us, hl with
    | [v], _ => exact ⟨v, rfl⟩
  obtain ⟨mb, SG⟩ := sup_gnd G (He.free_ok X Gm h3)
  refine made1 (p := "line") (f := "line") (supB_ok (d := xd4) h2 e) ⟨⟨_, rfl, rfl⟩, rfl, rfl, rfl, rfl, rfl, rfl, rfl⟩ ⟨fun L fI cda cc => ⟨_, rfl⟩, fun _ _ _ _ => rfl, fun _ _ _ _ => rfl⟩ rfl (fun _ _ _ _ _ _ _ _ => rfl) (by decide) rfl (by decide) (of_decide_eq_true h4) (fun _ _ _ => rfl) (by decide +kernel) (by decide +kernel) XK SG G.nolimit hroom fun h' tk e d M => hq h' tk e d _ M fun vs r g => ?_
  obtain ⟨x, rfl, rx⟩ : ∃ x, vs = [x] ∧ RelV x v := by
    cases r with
    | cons a b => cases b; exact ⟨_, rfl, a⟩
  exact vals_one rx g
theorem xk5 {w : World} {K : PySem.W.Frag} {h : Heap} {mg : Str → Option Value} (X : K.In h) (Gm : h.Ns mainGlobals mg) (h1 : raiB K "TooMany" = true) (h2 : supB K prog.main.file "TooMany" "TooMany.__init__" = true) (h3 : (He.Fa.free "super").ok K = true) (h4 : decide (PySem.W.findIn K (.ref (He.ga K "TooMany")) "limit" = some none) = true) (e : fnS K "TooMany" = xd5.val) :
    XcOk prog w K mg "TooMany" 1 (fun vs => (["limit"] : List Str).zip vs.reverse) := by
  obtain ⟨g1, h1⟩ := He.ba h1
  obtain ⟨g2, h1⟩ := He.ba h1
  obtain ⟨g3, g4⟩ := He.ba h1
  refine ⟨fun A R s us hl XK G hroom hq => ?_, He.glo_ok X Gm g1, g2, of_decide_eq_true g3, of_decide_eq_true g4⟩
  obtain ⟨v, rfl⟩ : ∃ v, us = [v] := by
    match us, hl with
    | [v], _ => exact ⟨v, rfl⟩
  obtain ⟨mb, SG⟩ := sup_gnd G (He.free_ok X Gm h3)
  refine made1 (p := "limit") (f := "limit") (supB_ok (d := xd5) h2 e) ⟨⟨_, rfl, rfl⟩, rfl, rfl, rfl, rfl, rfl, rfl, rfl⟩ ⟨fun L fI cda cc => ⟨_, rfl⟩, fun _ _ _ _ => rfl, fun _ _ _ _ => rfl⟩ rfl (fun _ _ _ _ _ _ _ _ => rfl) (by decide) rfl (by decide) (of_decide_eq_true h4) (fun _ _ _ => rfl) (by decide +kernel) (by decide +kernel) XK SG G.nolimit hroom fun h' tk e d M => hq h' tk e d _ M fun vs r g => ?_
  obtain ⟨x, rfl, rx⟩ : ∃ x, vs = [x] ∧ RelV x v := by
    cases r with
    | cons a b => cases b; exact ⟨_, rfl, a⟩
  exact vals_one rx g
theorem xk6 {w : World} {K : PySem.W.Frag} {h : Heap} {mg : Str → Option Value} (X : K.In h) (Gm : h.Ns mainGlobals mg) (h1 : raiB K "Unknown" = true) (h2 : supB K prog.main.file "Unknown" "Unknown.__init__" = true) (h3 : (He.Fa.free "super").ok K = true) (h4 : decide (PySem.W.findIn K (.ref (He.ga K "Unknown")) "value" = some none) = true) (e : fnS K "Unknown" = xd6.val) :
    XcOk prog w K mg "Unknown" 1 (fun vs => (["value"] : List Str).zip vs.reverse) := by
  obtain ⟨g1, h1⟩ := He.ba h1
  obtain ⟨g2, h1⟩ := He.ba h1
  obtain ⟨g3, g4⟩ := He.ba h1
  refine ⟨fun A R s us hl XK G hroom hq => ?_, He.glo_ok X Gm g1, g2, of_decide_eq_true g3, of_decide_eq_true g4⟩
  obtain ⟨v, rfl⟩ : ∃ v, us = [v] := by
    match us, hl with
    | [v], _ => exact ⟨v, rfl⟩
  obtain ⟨mb, SG⟩ := sup_gnd G (He.free_ok X Gm h3)
  refine made1 (p := "value") (f := "value") (supB_ok (d := xd6) h2 e) ⟨⟨_, rfl, rfl⟩, rfl, rfl, rfl, rfl, rfl, rfl, rfl⟩ ⟨fun L fI cda cc => ⟨_, rfl⟩, fun _ _ _ _ => rfl, fun _ _ _ _ => rfl⟩ rfl (fun _ _ _ _ _ _ _ _ => rfl) (by decide) rfl (by decide) (of_decide_eq_true h4) (fun _ _ _ => rfl) (by decide +kernel) (by decide +kernel) XK SG G.nolimit hroom fun h' tk e d M => hq h' tk e d _ M fun vs r g => ?_
  obtain ⟨x, rfl, rx⟩ : ∃ x, vs = [x] ∧ RelV x v := by
    cases r with
    | cons a b => cases b; exact ⟨_, rfl, a⟩
  exact vals_one rx g
theorem xk7 {w : World} {K : PySem.W.Frag} {h : Heap} {mg : Str → Option Value} (X : K.In h) (Gm : h.Ns mainGlobals mg) (h1 : raiB K "Taken" = true) (h2 : supB K prog.main.file "Taken" "Taken.__init__" = true) (h3 : (He.Fa.free "super").ok K = true) (h4 : decide (PySem.W.findIn K (.ref (He.ga K "Taken")) "value" = some none) = true) (e : fnS K "Taken" = xd7.val) :
    XcOk prog w K mg "Taken" 1 (fun vs => (["value"] : List Str).zip vs.reverse) := by
  obtain ⟨g1, h1⟩ := He.ba h1
  obtain ⟨g2, h1⟩ := He.ba h1
  obtain ⟨g3, g4⟩ := He.ba h1
  refine ⟨fun A R s us hl XK G hroom hq => ?_, He.glo_ok X Gm g1, g2, of_decide_eq_true g3, of_decide_eq_true g4⟩
  obtain ⟨v, rfl⟩ : ∃ v, us = [v] := by
    match us, hl with
    | [v], _ => exact ⟨v, rfl⟩
  obtain ⟨mb, SG⟩ := sup_gnd G (He.free_ok X Gm h3)
  refine made1 (p := "value") (f := "value") (supB_ok (d := xd7) h2 e) ⟨⟨_, rfl, rfl⟩, rfl, rfl, rfl, rfl, rfl, rfl, rfl⟩ ⟨fun L fI cda cc => ⟨_, rfl⟩, fun _ _ _ _ => rfl, fun _ _ _ _ => rfl⟩ rfl (fun _ _ _ _ _ _ _ _ => rfl) (by decide) rfl (by decide) (of_decide_eq_true h4) (fun _ _ _ => rfl) (by decide +kernel) (by decide +kernel) XK SG G.nolimit hroom fun h' tk e d M => hq h' tk e d _ M fun vs r g => ?_
  obtain ⟨x, rfl, rx⟩ : ∃ x, vs = [x] ∧ RelV x v := by
    cases r with
    | cons a b => cases b; exact ⟨_, rfl, a⟩
  exact vals_one rx g
theorem xk8 {w : World} {K : PySem.W.Frag} {h : Heap} {mg : Str → Option Value} (X : K.In h) (Gm : h.Ns mainGlobals mg) (h1 : raiB K "Refused" = true) (h2 : supB K prog.main.file "Refused" "Refused.__init__" = true) (h3 : (He.Fa.free "super").ok K = true) (h4 : decide (PySem.W.findIn K (.ref (He.ga K "Refused")) "reason" = some none) = true) (h5 : decide (PySem.W.findIn K (.ref (He.ga K "Refused")) "names" = some none) = true) (e : fnS K "Refused" = xd8.val) :
    XcOk prog w K mg "Refused" 2 (fun vs => (["names", "reason"] : List Str).zip vs.reverse) := by
  obtain ⟨g1, h1⟩ := He.ba h1
  obtain ⟨g2, h1⟩ := He.ba h1
  obtain ⟨g3, g4⟩ := He.ba h1
  refine ⟨fun A R s us hl XK G hroom hq => ?_, He.glo_ok X Gm g1, g2, of_decide_eq_true g3, of_decide_eq_true g4⟩
  obtain ⟨v, v', rfl⟩ : ∃ v v', us = [v, v'] := by
    match us, hl with
    | [v, v'], _ => exact ⟨v, v', rfl⟩
  obtain ⟨mb, SG⟩ := sup_gnd G (He.free_ok X Gm h3)
  refine made2 (p := "reason") (f := "reason") (q := "names") (f' := "names") (supB_ok (d := xd8) h2 e) ⟨⟨_, rfl, rfl⟩, rfl, rfl, rfl, rfl, rfl, rfl, rfl⟩ ⟨fun L fI cda cc => ⟨_, rfl⟩, fun _ _ _ _ => rfl, fun _ _ _ _ => rfl⟩ rfl (fun _ _ _ _ _ _ _ _ _ => rfl) (by decide) (by decide) (by decide) rfl rfl (by decide) (by decide) (of_decide_eq_true h4) (of_decide_eq_true h5) (fun _ _ _ => rfl) (fun _ _ _ => rfl) (by decide +kernel) (by decide +kernel) XK SG G.nolimit hroom fun h' tk e d M => hq h' tk e d _ M fun vs r g => ?_
  obtain ⟨x, x', rfl, rx, rx'⟩ : ∃ x x', vs = [x, x'] ∧ RelV x v ∧ RelV x' v' := by
    cases r with
    | cons a b => cases b with
      | cons a' b' => cases b'; exact ⟨_, _, rfl, a, a'⟩
  exact vals_two rx rx' g
theorem xk_BadEvent__value {w : World} {K : PySem.W.Frag} {h : Heap} {mg : Str → Option Value} (X : K.In h) (Gm : h.Ns mainGlobals mg) (h1 : raiB K "BadEvent" = true) (h2 : supB K prog.main.file "BadEvent" "BadEvent.__init__" = true) (h3 : (He.Fa.free "super").ok K = true) (h4 : decide (PySem.W.findIn K (.ref (He.ga K "BadEvent")) "value" = some none) = true) (e : fnS K "BadEvent" = xd3.val) :
    XkOk prog w K mg "BadEvent" ["value"] := by
  obtain ⟨g1, h1⟩ := He.ba h1
  obtain ⟨g2, h1⟩ := He.ba h1
  refine ⟨fun A R s us hl XK G hroom hq => ?_, He.glo_ok X Gm g1, g2⟩
  obtain ⟨v, rfl⟩ : ∃ v, us = [v] := by
    match us, hl with
    | [v], _ => exact ⟨v, rfl⟩
  obtain ⟨mb, SG⟩ := sup_gnd G (He.free_ok X Gm h3)
  exact made1K (p := "value") (f := "value") (supB_ok (d := xd3) h2 e) ⟨⟨_, rfl, rfl⟩, rfl, rfl, rfl, rfl, rfl, rfl, rfl⟩ ⟨fun L fI cda cc => ⟨_, rfl⟩, fun _ _ _ _ => rfl, fun _ _ _ _ => rfl⟩ rfl (fun _ _ _ _ _ _ _ => rfl) (by decide) rfl (by decide) (of_decide_eq_true h4) (fun _ _ _ => rfl) (by decide +kernel) (by decide +kernel) XK SG G.nolimit hroom fun h' tk e d M => hq h' tk e d _ M fun f u l => kw_one l
theorem xk_BadItem__index {w : World} {K : PySem.W.Frag} {h : Heap} {mg : Str → Option Value} (X : K.In h) (Gm : h.Ns mainGlobals mg) (h1 : raiB K "BadItem" = true) (h2 : supB K prog.main.file "BadItem" "BadItem.__init__" = true) (h3 : (He.Fa.free "super").ok K = true) (h4 : decide (PySem.W.findIn K (.ref (He.ga K "BadItem")) "index" = some none) = true) (e : fnS K "BadItem" = xd2.val) :
    XkOk prog w K mg "BadItem" ["index"] := by
  obtain ⟨g1, h1⟩ := He.ba h1
  obtain ⟨g2, h1⟩ := He.ba h1
  refine ⟨fun A R s us hl XK G hroom hq => ?_, He.glo_ok X Gm g1, g2⟩
  obtain ⟨v, rfl⟩ : ∃ v, us = [v] := by
    match us, hl with
    | [v], _ => exact ⟨v, rfl⟩
  obtain ⟨mb, SG⟩ := sup_gnd G (He.free_ok X Gm h3)
  exact made1K (p := "index") (f := "index") (supB_ok (d := xd2) h2 e) ⟨⟨_, rfl, rfl⟩, rfl, rfl, rfl, rfl, rfl, rfl, rfl⟩ ⟨fun L fI cda cc => ⟨_, rfl⟩, fun _ _ _ _ => rfl, fun _ _ _ _ => rfl⟩ rfl (fun _ _ _ _ _ _ _ => rfl) (by decide) rfl (by decide) (of_decide_eq_true h4) (fun _ _ _ => rfl) (by decide +kernel) (by decide +kernel) XK SG G.nolimit hroom fun h' tk e d M => hq h' tk e d _ M fun f u l => kw_one l
theorem xk_BadName__value {w : World} {K : PySem.W.Frag} {h : Heap} {mg : Str → Option Value} (X : K.In h) (Gm : h.Ns mainGlobals mg) (h1 : raiB K "BadName" = true) (h2 : supB K prog.main.file "BadName" "BadName.__init__" = true) (h3 : (He.Fa.free "super").ok K = true) (h4 : decide (PySem.W.findIn K (.ref (He.ga K "BadName")) "value" = some none) = true) (e : fnS K "BadName" = xd1.val) :
    XkOk prog w K mg "BadName" ["value"] := by
  obtain ⟨g1, h1⟩ := He.ba h1
  obtain ⟨g2, h1⟩ := He.ba h1
  refine ⟨fun A R s us hl XK G hroom hq => ?_, He.glo_ok X Gm g1, g2⟩
  obtain ⟨v, rfl⟩ : ∃ v, us = [v] := by
    match us, hl with
    | [v], _ => exact ⟨v, rfl⟩
  obtain ⟨mb, SG⟩ := sup_gnd G (He.free_ok X Gm h3)
  exact made1K (p := "value") (f := "value") (supB_ok (d := xd1) h2 e) ⟨⟨_, rfl, rfl⟩, rfl, rfl, rfl, rfl, rfl, rfl, rfl⟩ ⟨fun L fI cda cc => ⟨_, rfl⟩, fun _ _ _ _ => rfl, fun _ _ _ _ => rfl⟩ rfl (fun _ _ _ _ _ _ _ => rfl) (by decide) rfl (by decide) (of_decide_eq_true h4) (fun _ _ _ => rfl) (by decide +kernel) (by decide +kernel) XK SG G.nolimit hroom fun h' tk e d M => hq h' tk e d _ M fun f u l => kw_one l
theorem xk_BadNote__line {w : World} {K : PySem.W.Frag} {h : Heap} {mg : Str → Option Value} (X : K.In h) (Gm : h.Ns mainGlobals mg) (h1 : raiB K "BadNote" = true) (h2 : supB K prog.main.file "BadNote" "BadNote.__init__" = true) (h3 : (He.Fa.free "super").ok K = true) (h4 : decide (PySem.W.findIn K (.ref (He.ga K "BadNote")) "line" = some none) = true) (e : fnS K "BadNote" = xd4.val) :
    XkOk prog w K mg "BadNote" ["line"] := by
  obtain ⟨g1, h1⟩ := He.ba h1
  obtain ⟨g2, h1⟩ := He.ba h1
  refine ⟨fun A R s us hl XK G hroom hq => ?_, He.glo_ok X Gm g1, g2⟩
  obtain ⟨v, rfl⟩ : ∃ v, us = [v] := by
    match us, hl with
    | [v], _ => exact ⟨v, rfl⟩
  obtain ⟨mb, SG⟩ := sup_gnd G (He.free_ok X Gm h3)
  exact made1K (p := "line") (f := "line") (supB_ok (d := xd4) h2 e) ⟨⟨_, rfl, rfl⟩, rfl, rfl, rfl, rfl, rfl, rfl, rfl⟩ ⟨fun L fI cda cc => ⟨_, rfl⟩, fun _ _ _ _ => rfl, fun _ _ _ _ => rfl⟩ rfl (fun _ _ _ _ _ _ _ => rfl) (by decide) rfl (by decide) (of_decide_eq_true h4) (fun _ _ _ => rfl) (by decide +kernel) (by decide +kernel) XK SG G.nolimit hroom fun h' tk e d M => hq h' tk e d _ M fun f u l => kw_one l
theorem xk_BadNumber__value {w : World} {K : PySem.W.Frag} {h : Heap} {mg : Str → Option Value} (X : K.In h) (Gm : h.Ns mainGlobals mg) (h1 : raiB K "BadNumber" = true) (h2 : supB K prog.main.file "BadNumber" "BadNumber.__init__" = true) (h3 : (He.Fa.free "super").ok K = true) (h4 : decide (PySem.W.findIn K (.ref (He.ga K "BadNumber")) "value" = some none) = true) (e : fnS K "BadNumber" = xd0.val) :
    XkOk prog w K mg "BadNumber" ["value"] := by
  obtain ⟨g1, h1⟩ := He.ba h1
  obtain ⟨g2, h1⟩ := He.ba h1
  refine ⟨fun A R s us hl XK G hroom hq => ?_, He.glo_ok X Gm g1, g2⟩
  obtain ⟨v, rfl⟩ : ∃ v, us = [v] := by
    match us, hl with
    | [v], _ => exact ⟨v, rfl⟩
  obtain ⟨mb, SG⟩ := sup_gnd G (He.free_ok X Gm h3)
  exact made1K (p := "value") (f := "value") (supB_ok (d := xd0) h2 e) ⟨⟨_, rfl, rfl⟩, rfl, rfl, rfl, rfl, rfl, rfl, rfl⟩ ⟨fun L fI cda cc => ⟨_, rfl⟩, fun _ _ _ _ => rfl, fun _ _ _ _ => rfl⟩ rfl (fun _ _ _ _ _ _ _ => rfl) (by decide) rfl (by decide) (of_decide_eq_true h4) (fun _ _ _ => rfl) (by decide +kernel) (by decide +kernel) XK SG G.nolimit hroom fun h' tk e d M => hq h' tk e d _ M fun f u l => kw_one l
theorem xk_Refused__names__reason {w : World} {K : PySem.W.Frag} {h : Heap} {mg : Str → Option Value} (X : K.In h) (Gm : h.Ns mainGlobals mg) (h1 : raiB K "Refused" = true) (h2 : supB K prog.main.file "Refused" "Refused.__init__" = true) (h3 : (He.Fa.free "super").ok K = true) (h4 : decide (PySem.W.findIn K (.ref (He.ga K "Refused")) "reason" = some none) = true) (h5 : decide (PySem.W.findIn K (.ref (He.ga K "Refused")) "names" = some none) = true) (e : fnS K "Refused" = xd8.val) :
    XkOk prog w K mg "Refused" ["names", "reason"] := by
  obtain ⟨g1, h1⟩ := He.ba h1
  obtain ⟨g2, h1⟩ := He.ba h1
  refine ⟨fun A R s us hl XK G hroom hq => ?_, He.glo_ok X Gm g1, g2⟩
  obtain ⟨v', v, rfl⟩ : ∃ v v', us = [v, v'] := by
    match us, hl with
    | [v, v'], _ => exact ⟨v, v', rfl⟩
  obtain ⟨mb, SG⟩ := sup_gnd G (He.free_ok X Gm h3)
  exact made2K (p := "reason") (f := "reason") (q := "names") (f' := "names") (v := v) (v' := v') (kw := (["names", "reason"] : List Str).zip [v', v]) (supB_ok (d := xd8) h2 e) ⟨⟨_, rfl, rfl⟩, rfl, rfl, rfl, rfl, rfl, rfl, rfl⟩ ⟨fun L fI cda cc => ⟨_, rfl⟩, fun _ _ _ _ => rfl, fun _ _ _ _ => rfl⟩ rfl (fun _ _ _ _ _ _ _ => rfl) (by decide) (by decide) (by decide) rfl rfl (by decide) (by decide) (of_decide_eq_true h4) (of_decide_eq_true h5) (fun _ _ _ => rfl) (fun _ _ _ => rfl) (by decide +kernel) (by decide +kernel) XK SG G.nolimit hroom fun h' tk e d M => hq h' tk e d _ M fun f u l => kw_two' l
theorem xk_Refused__reason__names {w : World} {K : PySem.W.Frag} {h : Heap} {mg : Str → Option Value} (X : K.In h) (Gm : h.Ns mainGlobals mg) (h1 : raiB K "Refused" = true) (h2 : supB K prog.main.file "Refused" "Refused.__init__" = true) (h3 : (He.Fa.free "super").ok K = true) (h4 : decide (PySem.W.findIn K (.ref (He.ga K "Refused")) "reason" = some none) = true) (h5 : decide (PySem.W.findIn K (.ref (He.ga K "Refused")) "names" = some none) = true) (e : fnS K "Refused" = xd8.val) :
    XkOk prog w K mg "Refused" ["reason", "names"] := by
  obtain ⟨g1, h1⟩ := He.ba h1
  obtain ⟨g2, h1⟩ := He.ba h1
  refine ⟨fun A R s us hl XK G hroom hq => ?_, He.glo_ok X Gm g1, g2⟩
  obtain ⟨v, v', rfl⟩ : ∃ v v', us = [v, v'] := by
    match us, hl with
    | [v, v'], _ => exact ⟨v, v', rfl⟩
  obtain ⟨mb, SG⟩ := sup_gnd G (He.free_ok X Gm h3)
  exact made2K (p := "reason") (f := "reason") (q := "names") (f' := "names") (v := v) (v' := v') (kw := (["reason", "names"] : List Str).zip [v, v']) (supB_ok (d := xd8) h2 e) ⟨⟨_, rfl, rfl⟩, rfl, rfl, rfl, rfl, rfl, rfl, rfl⟩ ⟨fun L fI cda cc => ⟨_, rfl⟩, fun _ _ _ _ => rfl, fun _ _ _ _ => rfl⟩ rfl (fun _ _ _ _ _ _ _ => rfl) (by decide) (by decide) (by decide) rfl rfl (by decide) (by decide) (of_decide_eq_true h4) (of_decide_eq_true h5) (fun _ _ _ => rfl) (fun _ _ _ => rfl) (by decide +kernel) (by decide +kernel) XK SG G.nolimit hroom fun h' tk e d M => hq h' tk e d _ M fun f u l => kw_two (by decide) l
theorem xk_Taken__value {w : World} {K : PySem.W.Frag} {h : Heap} {mg : Str → Option Value} (X : K.In h) (Gm : h.Ns mainGlobals mg) (h1 : raiB K "Taken" = true) (h2 : supB K prog.main.file "Taken" "Taken.__init__" = true) (h3 : (He.Fa.free "super").ok K = true) (h4 : decide (PySem.W.findIn K (.ref (He.ga K "Taken")) "value" = some none) = true) (e : fnS K "Taken" = xd7.val) :
    XkOk prog w K mg "Taken" ["value"] := by
  obtain ⟨g1, h1⟩ := He.ba h1
  obtain ⟨g2, h1⟩ := He.ba h1
  refine ⟨fun A R s us hl XK G hroom hq => ?_, He.glo_ok X Gm g1, g2⟩
  obtain ⟨v, rfl⟩ : ∃ v, us = [v] := by
    match us, hl with
    | [v], _ => exact ⟨v, rfl⟩
  obtain ⟨mb, SG⟩ := sup_gnd G (He.free_ok X Gm h3)
  exact made1K (p := "value") (f := "value") (supB_ok (d := xd7) h2 e) ⟨⟨_, rfl, rfl⟩, rfl, rfl, rfl, rfl, rfl, rfl, rfl⟩ ⟨fun L fI cda cc => ⟨_, rfl⟩, fun _ _ _ _ => rfl, fun _ _ _ _ => rfl⟩ rfl (fun _ _ _ _ _ _ _ => rfl) (by decide) rfl (by decide) (of_decide_eq_true h4) (fun _ _ _ => rfl) (by decide +kernel) (by decide +kernel) XK SG G.nolimit hroom fun h' tk e d M => hq h' tk e d _ M fun f u l => kw_one l
theorem xk_TooMany__limit {w : World} {K : PySem.W.Frag} {h : Heap} {mg : Str → Option Value} (X : K.In h) (Gm : h.Ns mainGlobals mg) (h1 : raiB K "TooMany" = true) (h2 : supB K prog.main.file "TooMany" "TooMany.__init__" = true) (h3 : (He.Fa.free "super").ok K = true) (h4 : decide (PySem.W.findIn K (.ref (He.ga K "TooMany")) "limit" = some none) = true) (e : fnS K "TooMany" = xd5.val) :
    XkOk prog w K mg "TooMany" ["limit"] := by
  obtain ⟨g1, h1⟩ := He.ba h1
  obtain ⟨g2, h1⟩ := He.ba h1
  refine ⟨fun A R s us hl XK G hroom hq => ?_, He.glo_ok X Gm g1, g2⟩
  obtain ⟨v, rfl⟩ : ∃ v, us = [v] := by
    match us, hl with
    | [v], _ => exact ⟨v, rfl⟩
  obtain ⟨mb, SG⟩ := sup_gnd G (He.free_ok X Gm h3)
  exact made1K (p := "limit") (f := "limit") (supB_ok (d := xd5) h2 e) ⟨⟨_, rfl, rfl⟩, rfl, rfl, rfl, rfl, rfl, rfl, rfl⟩ ⟨fun L fI cda cc => ⟨_, rfl⟩, fun _ _ _ _ => rfl, fun _ _ _ _ => rfl⟩ rfl (fun _ _ _ _ _ _ _ => rfl) (by decide) rfl (by decide) (of_decide_eq_true h4) (fun _ _ _ => rfl) (by decide +kernel) (by decide +kernel) XK SG G.nolimit hroom fun h' tk e d M => hq h' tk e d _ M fun f u l => kw_one l
theorem xk_Unknown__value {w : World} {K : PySem.W.Frag} {h : Heap} {mg : Str → Option Value} (X : K.In h) (Gm : h.Ns mainGlobals mg) (h1 : raiB K "Unknown" = true) (h2 : supB K prog.main.file "Unknown" "Unknown.__init__" = true) (h3 : (He.Fa.free "super").ok K = true) (h4 : decide (PySem.W.findIn K (.ref (He.ga K "Unknown")) "value" = some none) = true) (e : fnS K "Unknown" = xd6.val) :
    XkOk prog w K mg "Unknown" ["value"] := by
  obtain ⟨g1, h1⟩ := He.ba h1
  obtain ⟨g2, h1⟩ := He.ba h1
  refine ⟨fun A R s us hl XK G hroom hq => ?_, He.glo_ok X Gm g1, g2⟩
  obtain ⟨v, rfl⟩ : ∃ v, us = [v] := by
    match us, hl with
    | [v], _ => exact ⟨v, rfl⟩
  obtain ⟨mb, SG⟩ := sup_gnd G (He.free_ok X Gm h3)
  exact made1K (p := "value") (f := "value") (supB_ok (d := xd6) h2 e) ⟨⟨_, rfl, rfl⟩, rfl, rfl, rfl, rfl, rfl, rfl, rfl⟩ ⟨fun L fI cda cc => ⟨_, rfl⟩, fun _ _ _ _ => rfl, fun _ _ _ _ => rfl⟩ rfl (fun _ _ _ _ _ _ _ => rfl) (by decide) rfl (by decide) (of_decide_eq_true h4) (fun _ _ _ => rfl) (by decide +kernel) (by decide +kernel) XK SG G.nolimit hroom fun h' tk e d M => hq h' tk e d _ M fun f u l => kw_one l
def cks : List (PySem.W.Frag → Bool) := [
  fun K => (["BadNumber", "BadName", "BadItem", "BadEvent", "BadNote", "TooMany", "Unknown", "Taken", "Refused", "NothingToUndo"] : List Str).all fun c => decide (PySem.W.exmOne K (.ref (He.ga K c)) (.ref (He.ga K "PawnError")) = some (decide (c ∈ (["BadNumber", "BadName", "BadItem", "BadEvent", "BadNote", "TooMany", "Unknown", "Taken", "Refused", "NothingToUndo"] : List Str)))),
  fun K => (He.Fa.free "LookupError").ok K,
  fun K => (He.Fa.free "RuntimeError").ok K,
  fun K => (He.Fa.free "ValueError").ok K,
  fun K => (He.Fa.free "bool").ok K,
  fun K => (He.Fa.free "int").ok K,
  fun K => (He.Fa.free "isinstance").ok K,
  fun K => (He.Fa.free "len").ok K,
  fun K => (He.Fa.free "list").ok K,
  fun K => (He.Fa.free "range").ok K,
  fun K => (He.Fa.free "str").ok K,
  fun K => (He.Fa.free "tuple").ok K,
  fun K => (He.Fa.glo "BadEvent").ok K,
  fun K => (He.Fa.glo "BadItem").ok K,
  fun K => (He.Fa.glo "BadName").ok K,
  fun K => (He.Fa.glo "BadNote").ok K,
  fun K => (He.Fa.glo "BadNumber").ok K,
  fun K => (He.Fa.glo "NothingToUndo").ok K,
  fun K => (He.Fa.glo "PawnError").ok K,
  fun K => (He.Fa.glo "Refused").ok K,
  fun K => (He.Fa.glo "Taken").ok K,
  fun K => (He.Fa.glo "TooMany").ok K,
  fun K => (He.Fa.glo "Unknown").ok K,
  fun K => (He.Fa.exc "NothingToUndo").ok K,
  fun K => raiB K "BadEvent",
  fun K => supB K prog.main.file "BadEvent" "BadEvent.__init__",
  fun K => (He.Fa.free "super").ok K,
  fun K => decide (PySem.W.findIn K (.ref (He.ga K "BadEvent")) "value" = some none),
  fun K => raiB K "BadItem",
  fun K => supB K prog.main.file "BadItem" "BadItem.__init__",
  fun K => decide (PySem.W.findIn K (.ref (He.ga K "BadItem")) "index" = some none),
  fun K => raiB K "BadName",
  fun K => supB K prog.main.file "BadName" "BadName.__init__",
  fun K => decide (PySem.W.findIn K (.ref (He.ga K "BadName")) "value" = some none),
  fun K => raiB K "BadNote",
  fun K => supB K prog.main.file "BadNote" "BadNote.__init__",
  fun K => decide (PySem.W.findIn K (.ref (He.ga K "BadNote")) "line" = some none),
  fun K => raiB K "BadNumber",
  fun K => supB K prog.main.file "BadNumber" "BadNumber.__init__",
  fun K => decide (PySem.W.findIn K (.ref (He.ga K "BadNumber")) "value" = some none),
  fun K => raiB K "Refused",
  fun K => supB K prog.main.file "Refused" "Refused.__init__",
  fun K => decide (PySem.W.findIn K (.ref (He.ga K "Refused")) "reason" = some none),
  fun K => decide (PySem.W.findIn K (.ref (He.ga K "Refused")) "names" = some none),
  fun K => raiB K "Taken",
  fun K => supB K prog.main.file "Taken" "Taken.__init__",
  fun K => decide (PySem.W.findIn K (.ref (He.ga K "Taken")) "value" = some none),
  fun K => raiB K "TooMany",
  fun K => supB K prog.main.file "TooMany" "TooMany.__init__",
  fun K => decide (PySem.W.findIn K (.ref (He.ga K "TooMany")) "limit" = some none),
  fun K => raiB K "Unknown",
  fun K => supB K prog.main.file "Unknown" "Unknown.__init__",
  fun K => decide (PySem.W.findIn K (.ref (He.ga K "Unknown")) "value" = some none),
  fun K => (["BadNumber", "BadName", "BadItem", "BadEvent", "BadNote", "TooMany", "Unknown", "Taken", "Refused", "NothingToUndo"] : List Str).all fun c => xfB K (He.ga K c) && decide (PySem.W.findIn K (.ref (He.ga K c)) "index" = some none),
  fun K => (["BadNumber", "BadName", "BadItem", "BadEvent", "BadNote", "TooMany", "Unknown", "Taken", "Refused", "NothingToUndo"] : List Str).all fun c => xfB K (He.ga K c) && decide (PySem.W.findIn K (.ref (He.ga K c)) "limit" = some none),
  fun K => (["BadNumber", "BadName", "BadItem", "BadEvent", "BadNote", "TooMany", "Unknown", "Taken", "Refused", "NothingToUndo"] : List Str).all fun c => xfB K (He.ga K c) && decide (PySem.W.findIn K (.ref (He.ga K c)) "line" = some none),
  fun K => (["BadNumber", "BadName", "BadItem", "BadEvent", "BadNote", "TooMany", "Unknown", "Taken", "Refused", "NothingToUndo"] : List Str).all fun c => xfB K (He.ga K c) && decide (PySem.W.findIn K (.ref (He.ga K c)) "names" = some none),
  fun K => (["BadNumber", "BadName", "BadItem", "BadEvent", "BadNote", "TooMany", "Unknown", "Taken", "Refused", "NothingToUndo"] : List Str).all fun c => xfB K (He.ga K c) && decide (PySem.W.findIn K (.ref (He.ga K c)) "reason" = some none),
  fun K => (["BadNumber", "BadName", "BadItem", "BadEvent", "BadNote", "TooMany", "Unknown", "Taken", "Refused", "NothingToUndo"] : List Str).all fun c => xfB K (He.ga K c) && decide (PySem.W.findIn K (.ref (He.ga K c)) "value" = some none),
  fun K => (["BadNumber", "BadName", "BadItem", "BadEvent", "BadNote", "TooMany", "Unknown", "Taken", "Refused", "NothingToUndo"] : List Str).all fun c => xisB K (He.ga K c) && decide (PySem.W.kitOne K (.ref (He.ga K c)) (.ref (He.ga K "BadEvent")) = some (decide (c ∈ (["BadEvent"] : List Str)))),
  fun K => (["BadNumber", "BadName", "BadItem", "BadEvent", "BadNote", "TooMany", "Unknown", "Taken", "Refused", "NothingToUndo"] : List Str).all fun c => xisB K (He.ga K c) && decide (PySem.W.kitOne K (.ref (He.ga K c)) (.ref (He.ga K "BadItem")) = some (decide (c ∈ (["BadItem"] : List Str)))),
  fun K => (["BadNumber", "BadName", "BadItem", "BadEvent", "BadNote", "TooMany", "Unknown", "Taken", "Refused", "NothingToUndo"] : List Str).all fun c => xisB K (He.ga K c) && decide (PySem.W.kitOne K (.ref (He.ga K c)) (.ref (He.ga K "BadName")) = some (decide (c ∈ (["BadName"] : List Str)))),
  fun K => (["BadNumber", "BadName", "BadItem", "BadEvent", "BadNote", "TooMany", "Unknown", "Taken", "Refused", "NothingToUndo"] : List Str).all fun c => xisB K (He.ga K c) && decide (PySem.W.kitOne K (.ref (He.ga K c)) (.ref (He.ga K "BadNote")) = some (decide (c ∈ (["BadNote"] : List Str)))),
  fun K => (["BadNumber", "BadName", "BadItem", "BadEvent", "BadNote", "TooMany", "Unknown", "Taken", "Refused", "NothingToUndo"] : List Str).all fun c => xisB K (He.ga K c) && decide (PySem.W.kitOne K (.ref (He.ga K c)) (.ref (He.ga K "BadNumber")) = some (decide (c ∈ (["BadNumber"] : List Str)))),
  fun K => (["BadNumber", "BadName", "BadItem", "BadEvent", "BadNote", "TooMany", "Unknown", "Taken", "Refused", "NothingToUndo"] : List Str).all fun c => xisB K (He.ga K c) && decide (PySem.W.kitOne K (.ref (He.ga K c)) (.type "LookupError") = some (decide (c ∈ ([] : List Str)))),
  fun K => (["BadNumber", "BadName", "BadItem", "BadEvent", "BadNote", "TooMany", "Unknown", "Taken", "Refused", "NothingToUndo"] : List Str).all fun c => xisB K (He.ga K c) && decide (PySem.W.kitOne K (.ref (He.ga K c)) (.ref (He.ga K "NothingToUndo")) = some (decide (c ∈ (["NothingToUndo"] : List Str)))),
  fun K => (["BadNumber", "BadName", "BadItem", "BadEvent", "BadNote", "TooMany", "Unknown", "Taken", "Refused", "NothingToUndo"] : List Str).all fun c => xisB K (He.ga K c) && decide (PySem.W.kitOne K (.ref (He.ga K c)) (.ref (He.ga K "Refused")) = some (decide (c ∈ (["Refused"] : List Str)))),
  fun K => (["BadNumber", "BadName", "BadItem", "BadEvent", "BadNote", "TooMany", "Unknown", "Taken", "Refused", "NothingToUndo"] : List Str).all fun c => xisB K (He.ga K c) && decide (PySem.W.kitOne K (.ref (He.ga K c)) (.type "RuntimeError") = some (decide (c ∈ ([] : List Str)))),
  fun K => (["BadNumber", "BadName", "BadItem", "BadEvent", "BadNote", "TooMany", "Unknown", "Taken", "Refused", "NothingToUndo"] : List Str).all fun c => xisB K (He.ga K c) && decide (PySem.W.kitOne K (.ref (He.ga K c)) (.ref (He.ga K "Taken")) = some (decide (c ∈ (["Taken"] : List Str)))),
  fun K => (["BadNumber", "BadName", "BadItem", "BadEvent", "BadNote", "TooMany", "Unknown", "Taken", "Refused", "NothingToUndo"] : List Str).all fun c => xisB K (He.ga K c) && decide (PySem.W.kitOne K (.ref (He.ga K c)) (.ref (He.ga K "TooMany")) = some (decide (c ∈ (["TooMany"] : List Str)))),
  fun K => (["BadNumber", "BadName", "BadItem", "BadEvent", "BadNote", "TooMany", "Unknown", "Taken", "Refused", "NothingToUndo"] : List Str).all fun c => xisB K (He.ga K c) && decide (PySem.W.kitOne K (.ref (He.ga K c)) (.ref (He.ga K "Unknown")) = some (decide (c ∈ (["Unknown"] : List Str)))),
  fun K => (["BadNumber", "BadName", "BadItem", "BadEvent", "BadNote", "TooMany", "Unknown", "Taken", "Refused", "NothingToUndo"] : List Str).all fun c => xisB K (He.ga K c) && decide (PySem.W.kitOne K (.ref (He.ga K c)) (.type "ValueError") = some (decide (c ∈ (["BadNumber", "BadName", "BadItem", "BadEvent", "BadNote", "TooMany", "Unknown", "Taken", "Refused", "NothingToUndo"] : List Str)))),
  fun K => (He.Fa.glo "_law_taken").ok K,
  fun K => (He.Fa.glo "_law_pick").ok K,
  fun K => (He.Fa.glo "_law_alike").ok K,
  fun K => (He.Fa.glo "_law_raised").ok K,
  fun K => (He.Fa.glo "law").ok K]
def ck (K : PySem.W.Frag) : Bool := cks.all fun f => f K
theorem facts {w : World} {K : PySem.W.Frag} {h : Heap} {mg : Str → Option Value} (X : K.In h) (Gm : h.Ns mainGlobals mg) (c : SaysC ck fns xcs K) : Facts prog w K mg := by
  have get : ∀ (i : Nat) {f : PySem.W.Frag → Bool}, cks[i]? = some f → f K = true := fun i f e => List.all_eq_true.mp c.chk f (List.mem_of_getElem? e)
  exact {
    exm_PawnError := fun c hc => of_decide_eq_true (List.all_eq_true.mp (get 0 rfl) c hc)
    free_LookupError := He.free_ok X Gm (get 1 rfl)
    free_RuntimeError := He.free_ok X Gm (get 2 rfl)
    free_ValueError := He.free_ok X Gm (get 3 rfl)
    free_bool := He.free_ok X Gm (get 4 rfl)
    free_int := He.free_ok X Gm (get 5 rfl)
    free_isinstance := He.free_ok X Gm (get 6 rfl)
    free_len := He.free_ok X Gm (get 7 rfl)
    free_list := He.free_ok X Gm (get 8 rfl)
    free_range := He.free_ok X Gm (get 9 rfl)
    free_str := He.free_ok X Gm (get 10 rfl)
    free_tuple := He.free_ok X Gm (get 11 rfl)
    glo_BadEvent := He.glo_ok X Gm (get 12 rfl)
    glo_BadItem := He.glo_ok X Gm (get 13 rfl)
    glo_BadName := He.glo_ok X Gm (get 14 rfl)
    glo_BadNote := He.glo_ok X Gm (get 15 rfl)
    glo_BadNumber := He.glo_ok X Gm (get 16 rfl)
    glo_NothingToUndo := He.glo_ok X Gm (get 17 rfl)
    glo_PawnError := He.glo_ok X Gm (get 18 rfl)
    glo_Refused := He.glo_ok X Gm (get 19 rfl)
    glo_Taken := He.glo_ok X Gm (get 20 rfl)
    glo_TooMany := He.glo_ok X Gm (get 21 rfl)
    glo_Unknown := He.glo_ok X Gm (get 22 rfl)
    x0_NothingToUndo := let ⟨a, b, c, d⟩ := He.exc_ok (get 23 rfl); ⟨a, He.glo_ok X Gm (get 17 rfl), b, c, d⟩
    x_BadEvent := xk3 X Gm (get 24 rfl) (get 25 rfl) (get 26 rfl) (get 27 rfl) (c.xc_ 3 rfl)
    x_BadItem := xk2 X Gm (get 28 rfl) (get 29 rfl) (get 26 rfl) (get 30 rfl) (c.xc_ 2 rfl)
    x_BadName := xk1 X Gm (get 31 rfl) (get 32 rfl) (get 26 rfl) (get 33 rfl) (c.xc_ 1 rfl)
    x_BadNote := xk4 X Gm (get 34 rfl) (get 35 rfl) (get 26 rfl) (get 36 rfl) (c.xc_ 4 rfl)
    x_BadNumber := xk0 X Gm (get 37 rfl) (get 38 rfl) (get 26 rfl) (get 39 rfl) (c.xc_ 0 rfl)
    x_Refused := xk8 X Gm (get 40 rfl) (get 41 rfl) (get 26 rfl) (get 42 rfl) (get 43 rfl) (c.xc_ 8 rfl)
    x_Taken := xk7 X Gm (get 44 rfl) (get 45 rfl) (get 26 rfl) (get 46 rfl) (c.xc_ 7 rfl)
    x_TooMany := xk5 X Gm (get 47 rfl) (get 48 rfl) (get 26 rfl) (get 49 rfl) (c.xc_ 5 rfl)
    x_Unknown := xk6 X Gm (get 50 rfl) (get 51 rfl) (get 26 rfl) (get 52 rfl) (c.xc_ 6 rfl)
    xf_index := fun c hc => let ⟨a, b⟩ := He.ba (List.all_eq_true.mp (get 53 rfl) c hc); ⟨xfB_ok a, of_decide_eq_true b⟩
    xf_limit := fun c hc => let ⟨a, b⟩ := He.ba (List.all_eq_true.mp (get 54 rfl) c hc); ⟨xfB_ok a, of_decide_eq_true b⟩
    xf_line := fun c hc => let ⟨a, b⟩ := He.ba (List.all_eq_true.mp (get 55 rfl) c hc); ⟨xfB_ok a, of_decide_eq_true b⟩
    xf_names := fun c hc => let ⟨a, b⟩ := He.ba (List.all_eq_true.mp (get 56 rfl) c hc); ⟨xfB_ok a, of_decide_eq_true b⟩
    xf_reason := fun c hc => let ⟨a, b⟩ := He.ba (List.all_eq_true.mp (get 57 rfl) c hc); ⟨xfB_ok a, of_decide_eq_true b⟩
    xf_value := fun c hc => let ⟨a, b⟩ := He.ba (List.all_eq_true.mp (get 58 rfl) c hc); ⟨xfB_ok a, of_decide_eq_true b⟩
    xis_BadEvent := fun c hc => let ⟨a, b⟩ := He.ba (List.all_eq_true.mp (get 59 rfl) c hc); ⟨xisB_ok a, of_decide_eq_true b⟩
    xis_BadItem := fun c hc => let ⟨a, b⟩ := He.ba (List.all_eq_true.mp (get 60 rfl) c hc); ⟨xisB_ok a, of_decide_eq_true b⟩
    xis_BadName := fun c hc => let ⟨a, b⟩ := He.ba (List.all_eq_true.mp (get 61 rfl) c hc); ⟨xisB_ok a, of_decide_eq_true b⟩
    xis_BadNote := fun c hc => let ⟨a, b⟩ := He.ba (List.all_eq_true.mp (get 62 rfl) c hc); ⟨xisB_ok a, of_decide_eq_true b⟩
    xis_BadNumber := fun c hc => let ⟨a, b⟩ := He.ba (List.all_eq_true.mp (get 63 rfl) c hc); ⟨xisB_ok a, of_decide_eq_true b⟩
    xis_LookupError := fun c hc => let ⟨a, b⟩ := He.ba (List.all_eq_true.mp (get 64 rfl) c hc); ⟨xisB_ok a, of_decide_eq_true b⟩
    xis_NothingToUndo := fun c hc => let ⟨a, b⟩ := He.ba (List.all_eq_true.mp (get 65 rfl) c hc); ⟨xisB_ok a, of_decide_eq_true b⟩
    xis_Refused := fun c hc => let ⟨a, b⟩ := He.ba (List.all_eq_true.mp (get 66 rfl) c hc); ⟨xisB_ok a, of_decide_eq_true b⟩
    xis_RuntimeError := fun c hc => let ⟨a, b⟩ := He.ba (List.all_eq_true.mp (get 67 rfl) c hc); ⟨xisB_ok a, of_decide_eq_true b⟩
    xis_Taken := fun c hc => let ⟨a, b⟩ := He.ba (List.all_eq_true.mp (get 68 rfl) c hc); ⟨xisB_ok a, of_decide_eq_true b⟩
    xis_TooMany := fun c hc => let ⟨a, b⟩ := He.ba (List.all_eq_true.mp (get 69 rfl) c hc); ⟨xisB_ok a, of_decide_eq_true b⟩
    xis_Unknown := fun c hc => let ⟨a, b⟩ := He.ba (List.all_eq_true.mp (get 70 rfl) c hc); ⟨xisB_ok a, of_decide_eq_true b⟩
    xis_ValueError := fun c hc => let ⟨a, b⟩ := He.ba (List.all_eq_true.mp (get 71 rfl) c hc); ⟨xisB_ok a, of_decide_eq_true b⟩
    xk_BadEvent__value := xk_BadEvent__value X Gm (get 24 rfl) (get 25 rfl) (get 26 rfl) (get 27 rfl) (c.xc_ 3 rfl)
    xk_BadItem__index := xk_BadItem__index X Gm (get 28 rfl) (get 29 rfl) (get 26 rfl) (get 30 rfl) (c.xc_ 2 rfl)
    xk_BadName__value := xk_BadName__value X Gm (get 31 rfl) (get 32 rfl) (get 26 rfl) (get 33 rfl) (c.xc_ 1 rfl)
    xk_BadNote__line := xk_BadNote__line X Gm (get 34 rfl) (get 35 rfl) (get 26 rfl) (get 36 rfl) (c.xc_ 4 rfl)
    xk_BadNumber__value := xk_BadNumber__value X Gm (get 37 rfl) (get 38 rfl) (get 26 rfl) (get 39 rfl) (c.xc_ 0 rfl)
    xk_Refused__names__reason := xk_Refused__names__reason X Gm (get 40 rfl) (get 41 rfl) (get 26 rfl) (get 42 rfl) (get 43 rfl) (c.xc_ 8 rfl)
    xk_Refused__reason__names := xk_Refused__reason__names X Gm (get 40 rfl) (get 41 rfl) (get 26 rfl) (get 42 rfl) (get 43 rfl) (c.xc_ 8 rfl)
    xk_Taken__value := xk_Taken__value X Gm (get 44 rfl) (get 45 rfl) (get 26 rfl) (get 46 rfl) (c.xc_ 7 rfl)
    xk_TooMany__limit := xk_TooMany__limit X Gm (get 47 rfl) (get 48 rfl) (get 26 rfl) (get 49 rfl) (c.xc_ 5 rfl)
    xk_Unknown__value := xk_Unknown__value X Gm (get 50 rfl) (get 51 rfl) (get 26 rfl) (get 52 rfl) (c.xc_ 6 rfl)
  }
theorem fn0 {P : Program} {w : World} {K : PySem.W.Frag} {mg : Str → Option Value} {base : Heap} {CX : CXT} {k m : Nat} {f : Addr} {fd : FuncData} {ps : List Str} (h : ∀ vs H Q E, spN K (callN tab 0) m vs H Q E → False) : FnOk P w K mg base CX k f fd ps (spN K (callN tab 0) m) := ⟨fun vs H Q E q => (h vs H Q E q).elim, fun A outer s H args us vs Q E _ _ _ _ q => (h vs H Q E q).elim⟩
theorem spN0 {K : PySem.W.Frag} {m : Nat} (vs : List V) (H : Hp) (Q : VK) (E : XK) : spN K (callN tab 0) m vs H Q E → False := fun ⟨_, _, _, _, _, _, p⟩ => p
theorem table {w : World} {K : PySem.W.Frag} {h : Heap} {mg : Str → Option Value} {base : Heap} (X : K.In h) (Gm : h.Ns mainGlobals mg) (c : SaysC ck fns xcs K) : ∀ n, TabOk prog w K mg base n := by
  have get : ∀ (i : Nat) {f : PySem.W.Frag → Bool}, cks[i]? = some f → f K = true := fun i f e => List.all_eq_true.mp c.chk f (List.mem_of_getElem? e)
  have G : Facts prog w K mg := facts X Gm c
  obtain ⟨fd0, F0⟩ := c.def_ 0 (d := dd0) rfl
  have b0 : Binds K fd0 ["row", "many"] [] := FunD.bindsN F0 fun _ _ _ _ _ _ us hl => match us, hl with | [_, _], _ => rfl
  obtain ⟨fd1, F1⟩ := c.def_ 1 (d := dd1) rfl
  have b1 : Binds K fd1 ["row", "kinds"] [] := FunD.bindsN F1 fun _ _ _ _ _ _ us hl => match us, hl with | [_, _], _ => rfl
  obtain ⟨fd2, F2⟩ := c.def_ 2 (d := dd2) rfl
  have b2 : Binds K fd2 ["found", "due"] [] := FunD.bindsN F2 fun _ _ _ _ _ _ us hl => match us, hl with | [_, _], _ => rfl
  obtain ⟨fd3, F3⟩ := c.def_ 3 (d := dd3) rfl
  have b3 : Binds K fd3 ["number", "value", "named"] [] := FunD.bindsN F3 fun _ _ _ _ _ _ us hl => match us, hl with | [_, _, _], _ => rfl
  obtain ⟨fd4, F4⟩ := c.def_ 4 (d := dd4) rfl
  have b4 : Binds K fd4 ["script"] [] := FunD.bindsN F4 fun _ _ _ _ _ _ us hl => match us, hl with | [_], _ => rfl
  intro n
  induction n with
  | zero => exact ⟨⟨⟨fd0, ["row", "many"], fn0 spN0, b0⟩, He.glo_ok X Gm (get 72 rfl), F0.kp⟩, ⟨⟨fd1, ["row", "kinds"], fn0 spN0, b1⟩, He.glo_ok X Gm (get 73 rfl), F1.kp⟩, ⟨⟨fd2, ["found", "due"], fn0 spN0, b2⟩, He.glo_ok X Gm (get 74 rfl), F2.kp⟩, ⟨⟨fd3, ["number", "value", "named"], fn0 spN0, b3⟩, He.glo_ok X Gm (get 75 rfl), F3.kp⟩, ⟨⟨fd4, ["script"], fn0 spN0, b4⟩, He.glo_ok X Gm (get 76 rfl), F4.kp⟩⟩
  | succ n T => exact ⟨⟨⟨fd0, ["row", "many"], fn_ok (N := N0) (n := n) (k := 2 * n + 1) (fi := ⟨2, 4, ir0, none⟩) F0 ⟨rfl, rfl, rfl, by decide, rfl, by decide +kernel, by decide +kernel⟩ rfl rfl rfl rfl (by decide) (fun cdv A outer s H E W hsv hx tk hr => body0 G T cdv A outer s H E W hsv hx tk hr), b0⟩, He.glo_ok X Gm (get 72 rfl), F0.kp⟩,
      ⟨⟨fd1, ["row", "kinds"], fn_ok (N := N1) (n := n) (k := 2 * n + 1) (fi := ⟨2, 2, ir1, none⟩) F1 ⟨rfl, rfl, rfl, by decide, rfl, by decide +kernel, by decide +kernel⟩ rfl rfl rfl rfl (by decide) (fun cdv A outer s H E W hsv hx tk hr => body1 G T cdv A outer s H E W hsv hx tk hr), b1⟩, He.glo_ok X Gm (get 73 rfl), F1.kp⟩,
      ⟨⟨fd2, ["found", "due"], fn_ok (N := N2) (n := n) (k := 2 * n + 1) (fi := ⟨2, 3, ir2, none⟩) F2 ⟨rfl, rfl, rfl, by decide, rfl, by decide +kernel, by decide +kernel⟩ rfl rfl rfl rfl (by decide) (fun cdv A outer s H E W hsv hx tk hr => body2 G T cdv A outer s H E W hsv hx tk hr), b2⟩, He.glo_ok X Gm (get 74 rfl), F2.kp⟩,
      ⟨⟨fd3, ["number", "value", "named"], fn_ok (N := N3) (n := n) (k := 2 * n + 1) (fi := ⟨3, 6, ir3, none⟩) F3 ⟨rfl, rfl, rfl, by decide, rfl, by decide +kernel, by decide +kernel⟩ rfl rfl rfl rfl (by decide) (fun cdv A outer s H E W hsv hx tk hr => body3 G T cdv A outer s H E W hsv hx tk hr), b3⟩, He.glo_ok X Gm (get 75 rfl), F3.kp⟩,
      ⟨⟨fd4, ["script"], fn_ok (N := N4) (n := n) (k := 2 * n + 1) (fi := ⟨1, 9, ir4, none⟩) F4 ⟨rfl, rfl, rfl, by decide, rfl, by decide +kernel, by decide +kernel⟩ rfl rfl rfl rfl (by decide) (fun cdv A outer s H E W hsv hx tk hr => body4 G T cdv A outer s H E W hsv hx tk hr), b4⟩, He.glo_ok X Gm (get 76 rfl), F4.kp⟩⟩
abbrev rr : PySem.W.OpenRow := PySem.W.OpenLaw.row PySem.Challenge.rw_pawnkept_k13_errors
abbrev hk : PySem.W.Hook := hookC 5 ck fns xcs
def ob (s : PySem.W.SharedT) : AlC := obsCG 5 ck fns xcs (HandSHeadRun.getT s)
theorem ob_eq (s : PySem.W.SharedT) : ob s = hk.obs s.abs := obsCG_eq (HandSHeadRun.getT_eq s)
theorem run (w : World) : HandSHeadRun.RunEq rr (PySem.W.view rr.prog [17]) hk ob 12000 ["PawnError", "BadNumber", "BadName", "BadItem", "BadEvent", "BadNote", "TooMany", "Unknown", "Taken", "Refused", "NothingToUndo", "_law_taken", "_law_pick", "_law_alike", "_law_raised"] w := by
  intro os
  kernel_rfl
end Eng
set_option Elab.async false
set_option linter.all false
set_option maxRecDepth 100000
set_option maxHeartbeats 0
open PySem PySem.Spec PySem.W PySem.Calls PyProof.Rows L2 Eng
theorem PySem.Challenge.cw_pawnkept_k13_errors_holds : PySem.Challenge.rw_pawnkept_k13_errors.Holds := by
  w_on; o_law
  refine HandSHeadRun.head_any (r := Eng.rr) (q := PySem.W.view Eng.rr.prog [17]) (H := Eng.hk) (ob := Eng.ob) (M := 12000) (loose := ["PawnError", "BadNumber", "BadName", "BadItem", "BadEvent", "BadNote", "TooMany", "Unknown", "Taken", "Refused", "NothingToUndo", "_law_taken", "_law_pick", "_law_alike", "_law_raised"]) (d := HandSHeadRun.topDef Eng.rr.prog 17) (kwd := []) Eng.ob_eq
    (by kernel_rfl) (fun s => by kernel_rfl) Eng.run (by kernel_rfl) (by kernel_rfl) (by kernel_rfl) (by rfl) (by first | assumption | decide +kernel) (by decide +kernel) ⟨rfl, rfl, rfl, rfl, rfl, by decide +kernel⟩ ?hw ?hc
  case hw => w_witness2
  case hc =>
    refine Eng.walk_ofW (l := PySem.Challenge.rw_pawnkept_k13_errors) (n := 63) (k := 6) (x := "script") (CX := L2.CX (PySem.Challenge.rw_pawnkept_k13_errors).prog) rfl (by decide) (by kernel_rfl) ⟨rfl, by decide, by decide⟩ ?F (fun _ _ _ _ _ z => Eng.cx_law z)
    intro w mg fa h Y G hmg0
    obtain ⟨K, KX, c⟩ := Y
    have hmg : mg ("law" : PySem.Str) = some (.ref fa) := by
      have e : (HandSHeadRun.topDef Eng.rr.prog 17).name = ("law" : PySem.Str) := by kernel_rfl
      rw [← e]
      exact hmg0
    have get : ∀ (i : Nat) {f : PySem.W.Frag → Bool}, Eng.cks[i]? = some f → f K = true := fun i f e => List.all_eq_true.mp c.chk f (List.mem_of_getElem? e)
    have e := hmg.symm.trans (He.glo_ok KX G (get 76 rfl))
    cases e
    obtain ⟨fd, F⟩ := c.def_ 4 (d := Eng.dd4) rfl
    have b := FunD.bindsA (ps := ["script"]) F fun _ _ _ _ _ _ us hl => match us, hl with | [_], _ => rfl
    exact ⟨K, fd, Eng.spN K (Eng.callN Eng.tab 3) 4, KX, fun s v => b s [v] rfl, fun H a ns hl _ hS => Eng.law_sp hS (Eng.law_true ns 0), fun base _ _ =>
      Eng.fn_ok (N := Eng.N4) (n := 2) (k := 2 * 2 + 1) (fi := ⟨1, 9, Eng.ir4, none⟩) F ⟨rfl, rfl, rfl, by decide, rfl, by decide +kernel, by decide +kernel⟩ rfl rfl rfl rfl (by decide) (fun cdv A outer s H E W hsv hx tk hr => Eng.body4 (Eng.facts KX G c) (Eng.table KX G c 2) cdv A outer s H E W hsv hx tk hr)⟩
